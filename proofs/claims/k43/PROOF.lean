import PyProof.Rows.All
import HandS.ForMost
import HandS.ForExc
import HandS.Lambda
import HandS.ExcCtx
import HandS.Deep
import HandS.Wide
import HandS.IsInst
import HandS.Star
import HandS.RaiseMore
import HandS.Zip
import HandS.TupAny
import HandS.TupMul
import HandS.Small
import HandS.Flow
import HandS.Evl
import HandS.Words
import HandS.WordsExc
import HandS.ExcOwn
import HandS.Property
import HandS.Defaults
import HandS.MakeKwOnly
import HandS.Comp
import HandS.Iter
import PyProof.InstEq
import KE.KFmtOwn
import HandS.MethStar
import HandS.ClsMeth
import HandS.More
import HandS.Codes
import HandS.NamedTupGet
import OpenK.AllK
import KE.GoesEnum
import HandS.FStr
import HandS.Text
import KE.KxField
import PyProof.InstSpecial
import PyProof.Conv_bool
import HandS.TupSets
import HandS.SetFor
import KE.SortData
import HandS.Style
import HandS.Dict
import HandS.DictComp
import HandS.Strs
import HandS.Head0
import HandS.Head1
import HandS.Head2
import HandS.HeadEnd
import HandS.HeadHook1
import HandS.HeadHook2
import HandS.HeadHook3
import HandS.MakeKw
import HandS.Ends
import PySem.Challenge.RW_fooledtest_k43_watchers_that_break
set_option Elab.async false
set_option linter.all false
set_option maxRecDepth 100000
namespace DX
open PySem L2

inductive D where
  | non | bl (b : Bool) | int (i : Int) | str (s : Str) | lst (l : List D) | tup (l : List D)
  | ins (C : String) (l : List (String × D)) | dct (l : List (Key × D)) | cls (C : String) | ty (n : String)
inductive W where
  | d (x : D) | ref (a : Addr) | tup (l : List W)
inductive Cell where
  | lst (l : List W) | obj (C : String) (l : List (String × W)) | dct (l : List (Key × W)) | dctT (l : List (List Key × W)) | lk (l : List (Key × W))
abbrev Store := Addr → Option Cell
abbrev Slots := List (Option W)
structure Exn where
  C : String
  fs : List (String × W)

noncomputable def clsAt (K : PySem.W.Frag) (C : String) : Addr := match PySem.W.nsIn K mainGlobals (Str.ofString C) with
  | some (some (.ref a)) => a
  | _ => 0

mutual
inductive DV (K : PySem.W.Frag) (G : Hp) : V → D → Prop
  | non : DV K G .non .non
  | bl (b : Bool) : DV K G (.bl b) (.bl b)
  | int (i : Int) : DV K G (.int i) (.int i)
  | str (s : Str) : DV K G (.str s) (.str s)
  | lst {a : Addr} {xs : List V} {ds : List D} : G a = some (.lst xs) → DVs K G xs ds → DV K G (.ref a) (.lst ds)
  | tup {a : Addr} {xs : List V} {ds : List D} : SqT K G a xs → DVs K G xs ds → DV K G (.ref a) (.tup ds)
  | ins {a dx : Addr} {C : String} {fs : List (Str × V)} {gs : List (String × D)} : G a = some (.ins (clsAt K C) dx fs) → DVf K G fs gs → DV K G (.ref a) (.ins C gs)
  | dct {a : Addr} {o : Obj} {fs : List (Key × V)} {gs : List (Key × D)} : G a = some (.frz o (.dK fs)) → DVk K G fs gs → DV K G (.ref a) (.dct gs)
  | cls (C : String) : DV K G (.ref (clsAt K C)) (.cls C)
  | ty (n : String) : DV K G (.ty n) (.ty n)
inductive DVs (K : PySem.W.Frag) (G : Hp) : List V → List D → Prop
  | nil : DVs K G [] []
  | cons {v : V} {vs : List V} {d : D} {ds : List D} : DV K G v d → DVs K G vs ds → DVs K G (v :: vs) (d :: ds)
inductive DVf (K : PySem.W.Frag) (G : Hp) : List (Str × V) → List (String × D) → Prop
  | nil : DVf K G [] []
  | cons {f : String} {v : V} {vs : List (Str × V)} {d : D} {ds : List (String × D)} : DV K G v d → DVf K G vs ds → DVf K G ((Str.ofString f, v) :: vs) ((f, d) :: ds)
inductive DVk (K : PySem.W.Frag) (G : Hp) : List (Key × V) → List (Key × D) → Prop
  | nil : DVk K G [] []
  | cons {f : Key} {v : V} {vs : List (Key × V)} {d : D} {ds : List (Key × D)} : DV K G v d → DVk K G vs ds → DVk K G ((f, v) :: vs) ((f, d) :: ds)
end
mutual
inductive Wv (K : PySem.W.Frag) (G : Hp) : V → W → Prop
  | d {v : V} {x : D} : DV K G v x → Wv K G v (.d x)
  | ref (a : Addr) : Wv K G (.ref a) (.ref a)
  | tup {a : Addr} {xs : List V} {ws : List W} : SqT K G a xs → Wvs K G xs ws → Wv K G (.ref a) (.tup ws)
inductive Wvs (K : PySem.W.Frag) (G : Hp) : List V → List W → Prop
  | nil : Wvs K G [] []
  | cons {v : V} {vs : List V} {w : W} {ws : List W} : Wv K G v w → Wvs K G vs ws → Wvs K G (v :: vs) (w :: ws)
end
inductive Wvf (K : PySem.W.Frag) (G : Hp) : List (Str × V) → List (String × W) → Prop
  | nil : Wvf K G [] []
  | cons {f : String} {v : V} {vs : List (Str × V)} {w : W} {ws : List (String × W)} : Wv K G v w → Wvf K G vs ws → Wvf K G ((Str.ofString f, v) :: vs) ((f, w) :: ws)
inductive Wvk {κ : Type} (K : PySem.W.Frag) (G : Hp) : List (κ × V) → List (κ × W) → Prop
  | nil : Wvk K G [] []
  | cons {f : κ} {v : V} {vs : List (κ × V)} {w : W} {ws : List (κ × W)} : Wv K G v w → Wvk K G vs ws → Wvk K G ((f, v) :: vs) ((f, w) :: ws)

def Sub (G G' : Hp) : Prop := ∀ a o, G a = some o → G' a = some o
theorem Sub.refl (G : Hp) : Sub G G := fun _ _ h => h
theorem Sub.trans {G G1 G2 : Hp} (a : Sub G G1) (b : Sub G1 G2) : Sub G G2 := fun x o h => b x o (a x o h)
theorem Sub.rd {G G' : Hp} (s : Sub G G') {a : Addr} {u : HO} (h : Rd G a u) : Rd G' a u := by
  rcases h with h | ⟨o, h⟩
  · exact .inl (s _ _ h)
  · exact .inr ⟨o, s _ _ h⟩
theorem sqL {K : PySem.W.Frag} {H : Hp} {a : Addr} {xs : List V} (h : H a = some (.lst xs)) : SqL K H a xs := .inl (.inl h)
theorem sqT {K : PySem.W.Frag} {H : Hp} {a : Addr} {xs : List V} (h : H a = some (.tup xs)) : SqT K H a xs := .inl (.inl h)
theorem Sub.t {K : PySem.W.Frag} {G G' : Hp} (s : Sub G G') {a : Addr} {xs : List V} (h : SqT K G a xs) : SqT K G' a xs := by
  rcases h with h | h
  · exact .inl (s.rd h)
  · exact .inr h
mutual
theorem DV.mono {K : PySem.W.Frag} {G G' : Hp} (s : Sub G G') : ∀ {v : V} {d : D}, DV K G v d → DV K G' v d
  | _, _, .non => .non
  | _, _, .bl b => .bl b
  | _, _, .int i => .int i
  | _, _, .str i => .str i
  | _, _, .lst h r => .lst (s _ _ h) (DVs.mono s r)
  | _, _, .tup h r => .tup (s.t h) (DVs.mono s r)
  | _, _, .ins h r => .ins (s _ _ h) (DVf.mono s r)
  | _, _, .dct h r => .dct (s _ _ h) (DVk.mono s r)
  | _, _, .cls c => .cls c
  | _, _, .ty c => .ty c
theorem DVs.mono {K : PySem.W.Frag} {G G' : Hp} (s : Sub G G') : ∀ {v : List V} {d : List D}, DVs K G v d → DVs K G' v d
  | _, _, .nil => .nil
  | _, _, .cons h r => .cons (DV.mono s h) (DVs.mono s r)
theorem DVf.mono {K : PySem.W.Frag} {G G' : Hp} (s : Sub G G') : ∀ {v : List (Str × V)} {d : List (String × D)}, DVf K G v d → DVf K G' v d
  | _, _, .nil => .nil
  | _, _, .cons h r => .cons (DV.mono s h) (DVf.mono s r)
theorem DVk.mono {K : PySem.W.Frag} {G G' : Hp} (s : Sub G G') : ∀ {v : List (Key × V)} {d : List (Key × D)}, DVk K G v d → DVk K G' v d
  | _, _, .nil => .nil
  | _, _, .cons h r => .cons (DV.mono s h) (DVk.mono s r)
end
mutual
theorem Wv.mono {K : PySem.W.Frag} {G G' : Hp} (s : Sub G G') : ∀ {v : V} {d : W}, Wv K G v d → Wv K G' v d
  | _, _, .d h => .d (h.mono s)
  | _, _, .ref a => .ref a
  | _, _, .tup h r => .tup (s.t h) (Wvs.mono s r)
theorem Wvs.mono {K : PySem.W.Frag} {G G' : Hp} (s : Sub G G') : ∀ {v : List V} {d : List W}, Wvs K G v d → Wvs K G' v d
  | _, _, .nil => .nil
  | _, _, .cons h r => .cons (Wv.mono s h) (Wvs.mono s r)
end
theorem Wvf.mono {K : PySem.W.Frag} {G G' : Hp} (s : Sub G G') : ∀ {v : List (Str × V)} {d : List (String × W)}, Wvf K G v d → Wvf K G' v d
  | _, _, .nil => .nil
  | _, _, .cons h r => .cons (h.mono s) (Wvf.mono s r)
theorem Wvk.mono {κ : Type} {K : PySem.W.Frag} {G G' : Hp} (s : Sub G G') : ∀ {v : List (κ × V)} {d : List (κ × W)}, Wvk K G v d → Wvk K G' v d
  | _, _, .nil => .nil
  | _, _, .cons h r => .cons (h.mono s) (Wvk.mono s r)
section
variable {K : PySem.W.Frag} {G : Hp} {v : V}
theorem DV.to_int {i : Int} (h : DV K G v (.int i)) : v = .int i := by cases h; rfl
theorem DV.to_bl {b : Bool} (h : DV K G v (.bl b)) : v = .bl b := by cases h; rfl
theorem DV.to_str {s : Str} (h : DV K G v (.str s)) : v = .str s := by cases h; rfl
theorem DV.to_non (h : DV K G v .non) : v = .non := by cases h; rfl
theorem DV.to_lst {ds : List D} (h : DV K G v (.lst ds)) : ∃ a xs, v = .ref a ∧ G a = some (.lst xs) ∧ DVs K G xs ds := by
  cases h with | lst h r => exact ⟨_, _, rfl, h, r⟩
theorem DV.to_tup {ds : List D} (h : DV K G v (.tup ds)) : ∃ a xs, v = .ref a ∧ SqT K G a xs ∧ DVs K G xs ds := by
  cases h with | tup h r => exact ⟨_, _, rfl, h, r⟩
theorem DV.to_ins {C : String} {gs : List (String × D)} (h : DV K G v (.ins C gs)) : ∃ a dx fs, v = .ref a ∧ G a = some (.ins (clsAt K C) dx fs) ∧ DVf K G fs gs := by
  cases h with | ins h r => exact ⟨_, _, _, rfl, h, r⟩
theorem DV.to_dct {gs : List (Key × D)} (h : DV K G v (.dct gs)) : ∃ a o fs, v = .ref a ∧ G a = some (.frz o (.dK fs)) ∧ DVk K G fs gs := by
  cases h with | dct h r => exact ⟨_, _, _, rfl, h, r⟩
theorem Wv.to_d {x : D} (h : Wv K G v (.d x)) : DV K G v x := by cases h; assumption
theorem Wv.to_ref {a : Addr} (h : Wv K G v (.ref a)) : v = .ref a := by cases h; rfl
theorem Wv.to_tup {ws : List W} (h : Wv K G v (.tup ws)) : ∃ a xs, v = .ref a ∧ SqT K G a xs ∧ Wvs K G xs ws := by
  cases h with | tup h r => exact ⟨_, _, rfl, h, r⟩
theorem DVs.length : ∀ {vs : List V} {ds : List D}, DVs K G vs ds → vs.length = ds.length
  | _, _, .nil => rfl
  | _, _, .cons _ r => congrArg (· + 1) (DVs.length r)
theorem Wvs.length : ∀ {vs : List V} {ds : List W}, Wvs K G vs ds → vs.length = ds.length
  | _, _, .nil => rfl
  | _, _, .cons _ r => congrArg (· + 1) (Wvs.length r)
theorem DVs.w : ∀ {vs : List V} {ds : List D}, DVs K G vs ds → Wvs K G vs (ds.map .d)
  | _, _, .nil => .nil
  | _, _, .cons h r => .cons (.d h) (DVs.w r)
theorem Wvs.ds : ∀ {vs : List V} {ds : List D}, Wvs K G vs (ds.map .d) → DVs K G vs ds
  | _, [], .nil => .nil
  | _, _ :: _, .cons h r => .cons h.to_d (Wvs.ds r)
theorem DVs.get : ∀ {vs : List V} {ds : List D} {i : Nat} {d : D}, DVs K G vs ds → ds[i]? = some d → ∃ v, vs[i]? = some v ∧ DV K G v d
  | _, _, _, _, .nil, e => by simp at e
  | _, _, 0, _, .cons h _, e => by
    simp at e
    subst e
    exact ⟨_, rfl, h⟩
  | _, _, i + 1, _, .cons _ r, e => by
    obtain ⟨v, h1, h2⟩ := DVs.get (i := i) r (by simpa using e)
    exact ⟨v, by simpa using h1, h2⟩
theorem Wvs.get : ∀ {vs : List V} {ds : List W} {i : Nat} {d : W}, Wvs K G vs ds → ds[i]? = some d → ∃ v, vs[i]? = some v ∧ Wv K G v d
  | _, _, _, _, .nil, e => by simp at e
  | _, _, 0, _, .cons h _, e => by
    simp at e
    subst e
    exact ⟨_, rfl, h⟩
  | _, _, i + 1, _, .cons _ r, e => by
    obtain ⟨v, h1, h2⟩ := Wvs.get (i := i) r (by simpa using e)
    exact ⟨v, by simpa using h1, h2⟩
theorem Wvs.append : ∀ {vs ws : List V} {ds es : List W}, Wvs K G vs ds → Wvs K G ws es → Wvs K G (vs ++ ws) (ds ++ es)
  | _, _, _, _, .nil, s => s
  | _, _, _, _, .cons h r, s => .cons h (Wvs.append r s)
theorem Wvs.set {v : V} {d : W} (h : Wv K G v d) : ∀ {vs : List V} {ds : List W} (i : Nat), Wvs K G vs ds → Wvs K G (vs.set i v) (ds.set i d)
  | _, _, _, .nil => .nil
  | _, _, 0, .cons _ r => .cons h r
  | _, _, i + 1, .cons q r => .cons q (Wvs.set h i r)
theorem Wvs.take : ∀ {vs : List V} {ds : List W} (n : Nat), Wvs K G vs ds → Wvs K G (vs.take n) (ds.take n)
  | _, _, 0, _ => .nil
  | _, _, _ + 1, .nil => .nil
  | _, _, n + 1, .cons h r => .cons h (Wvs.take n r)
theorem Wvs.drop : ∀ {vs : List V} {ds : List W} (n : Nat), Wvs K G vs ds → Wvs K G (vs.drop n) (ds.drop n)
  | _, _, 0, r => r
  | _, _, _ + 1, .nil => .nil
  | _, _, n + 1, .cons _ r => Wvs.drop n r
theorem Wvs.eraseIdx {vs : List V} {ds : List W} (n : Nat) (h : Wvs K G vs ds) : Wvs K G (vs.eraseIdx n) (ds.eraseIdx n) := by
  rw [List.eraseIdx_eq_take_drop_succ, List.eraseIdx_eq_take_drop_succ]
  exact (h.take n).append (h.drop (n + 1))
theorem Wvs.flat {vs : List V} {ds : List W} (h : Wvs K G vs ds) : ∀ n, Wvs K G (List.replicate n vs).flatten (List.replicate n ds).flatten
  | 0 => .nil
  | n + 1 => by
    rw [List.replicate_succ, List.replicate_succ, List.flatten_cons, List.flatten_cons]
    exact h.append (Wvs.flat h n)
theorem Wvs.ints : ∀ {vs : List V} {ns : List Int}, Wvs K G vs (ns.map fun i => .d (.int i)) → vs = ns.map V.int
  | _, [], .nil => rfl
  | _, n :: ns, .cons h r => by
    rw [Wvs.ints r, h.to_d.to_int]
    rfl
theorem Wvs.bls : ∀ {vs : List V} {ns : List Bool}, Wvs K G vs (ns.map fun i => .d (.bl i)) → vs = ns.map V.bl
  | _, [], .nil => rfl
  | _, n :: ns, .cons h r => by
    rw [Wvs.bls r, h.to_d.to_bl]
    rfl
end
theorem ofString_inj {a b : String} (h : Str.ofString a = Str.ofString b) : a = b := by
  rw [Str.ofString_eq_toList, Str.ofString_eq_toList] at h
  have h1 : (a.toList.map Char.toNat).toArray = (b.toList.map Char.toNat).toArray := by injection h
  have h2 : a.toList.map Char.toNat = b.toList.map Char.toNat := by
    have := congrArg Array.toList h1
    simpa using this
  have inj : ∀ l m : List Char, l.map Char.toNat = m.map Char.toNat → l = m := by
    intro l
    induction l with
    | nil => intro m e; cases m with
      | nil => rfl
      | cons c m => cases e
    | cons c l ih => intro m e; cases m with
      | nil => cases e
      | cons d m =>
        simp only [List.map_cons, List.cons.injEq] at e
        rw [ih m e.2, Char.toNat_inj.mp e.1]
  have h3 := inj _ _ h2
  rw [← String.ofList_toList (s := a), ← String.ofList_toList (s := b), h3]
theorem ofString_eq (a b : String) : (Str.ofString a = Str.ofString b) = (a = b) := propext ⟨ofString_inj, fun h => by rw [h]⟩
theorem ofString_beq (a b : String) : (Str.ofString a == Str.ofString b) = (a == b) := by
  by_cases h : a = b
  · subst h; simp
  · have h2 : Str.ofString a ≠ Str.ofString b := fun z => h (ofString_inj z)
    rw [beq_eq_false_iff_ne.mpr h, beq_eq_false_iff_ne.mpr h2]
end DX

set_option Elab.async false
set_option linter.all false
set_option maxRecDepth 100000
namespace DX
open PySem L2

def upS (S : Store) (a : Addr) (c : Cell) : Store := fun b => if b = a then some c else S b
def erS (S : Store) (a : Addr) : Store := fun b => if b = a then none else S b
theorem upS_same {S : Store} {a : Addr} {c : Cell} : upS S a c a = some c := if_pos rfl
theorem upS_ne {S : Store} {a b : Addr} {c : Cell} (h : b ≠ a) : upS S a c b = S b := if_neg h
theorem erS_same {S : Store} {a : Addr} : erS S a a = none := if_pos rfl
theorem erS_ne {S : Store} {a b : Addr} (h : b ≠ a) : erS S a b = S b := if_neg h
theorem upS_upS {S : Store} {a : Addr} {c e : Cell} : upS (upS S a c) a e = upS S a e := by
  funext b
  unfold upS
  split <;> rfl
theorem neS {S : Store} {a b : Addr} {c : Cell} (h : S b = some c) (h' : S a = none) : b ≠ a := fun e => by rw [e, h'] at h; cases h
def cutS (S T : Store) : Store := fun a => if (S a).isSome then T a else none
abbrev Hid := Addr → Prop
open Classical in
noncomputable def gS (M : Hid) (S : Store) (H : Hp) : Hp := fun a => if M a then none else match S a with
  | some _ => none
  | none => match H a with
    | some (.tbl _) => none
    | o => o
def NoT (o : HO) : Prop := ∀ ps, o ≠ .tbl ps
theorem gS_some {M : Hid} {S : Store} {H : Hp} {a : Addr} {o : HO} : gS M S H a = some o ↔ ¬ M a ∧ S a = none ∧ H a = some o ∧ NoT o := by
  unfold gS
  by_cases hm : M a
  · rw [if_pos hm]
    constructor
    · intro e; cases e
    · rintro ⟨n, _⟩; exact absurd hm n
  rw [if_neg hm]
  cases hs : S a with
  | some c => simp
  | none =>
    cases h : H a with
    | none => simp
    | some u =>
      cases u with
      | tbl ps =>
        constructor
        · intro e; cases e
        · rintro ⟨_, _, e, n⟩
          cases e
          exact absurd rfl (n ps)
      | _ =>
        constructor
        · intro e; cases e; exact ⟨hm, rfl, rfl, fun ps z => by cases z⟩
        · rintro ⟨_, _, e, n⟩; exact e
theorem gS_sub {M : Hid} {S : Store} {H : Hp} : Sub (gS M S H) H := fun _ _ h => (gS_some.mp h).2.2.1
theorem gS_mono {M : Hid} {S : Store} {H H' : Hp} (e : Sub H H') : Sub (gS M S H) (gS M S H') := fun a o h => by
  obtain ⟨h0, h1, h2, h3⟩ := gS_some.mp h
  exact gS_some.mpr ⟨h0, h1, e a o h2, h3⟩
theorem gS_drop {M : Hid} {S S' : Store} {H : Hp} (h : ∀ a, S a = none → S' a = none) : Sub (gS M S H) (gS M S' H) := fun a o e => by
  obtain ⟨h0, h1, h2, h3⟩ := gS_some.mp e
  exact gS_some.mpr ⟨h0, h a h1, h2, h3⟩
theorem Sub.upd {H : Hp} {p : Addr} {o : HO} (h : H p = none) : Sub H (upd H p o) := fun a u e => by
  rw [upd_ne (ne_of_none e h)]
  exact e
inductive CellV (K : PySem.W.Frag) (G H : Hp) (a : Addr) : Cell → Prop
  | lst {vs : List V} {ws : List W} : H a = some (.lst vs) → Wvs K G vs ws → CellV K G H a (.lst ws)
  | obj {C : String} {dx : Addr} {vs : List (Str × V)} {ws : List (String × W)} : H a = some (.ins (clsAt K C) dx vs) → Wvf K G vs ws → CellV K G H a (.obj C ws)
  | dct {vs : List (Key × V)} {ws : List (Key × W)} : H a = some (.dK vs) → Wvk K G vs ws → CellV K G H a (.dct ws)
  | dctT {vs : List (List Key × V)} {ws : List (List Key × W)} : H a = some (.dT vs) → Wvk K G vs ws → CellV K G H a (.dctT ws)
  | lk {o : Obj} {vs : List (Key × V)} {ws : List (Key × W)} : H a = some (.frz o (.dK vs)) → Wvk K G vs ws → CellV K G H a (.lk ws)
theorem CellV.mono {K : PySem.W.Frag} {G G' H H' : Hp} {a : Addr} {c : Cell} (s : Sub G G') (e : H' a = H a) (h : CellV K G H a c) : CellV K G' H' a c := by
  cases h with
  | lst h r => exact .lst (by rw [e]; exact h) (r.mono s)
  | obj h r => exact .obj (by rw [e]; exact h) (r.mono s)
  | dct h r => exact .dct (by rw [e]; exact h) (r.mono s)
  | dctT h r => exact .dctT (by rw [e]; exact h) (r.mono s)
  | lk h r => exact .lk (by rw [e]; exact h) (r.mono s)
theorem CellV.there {K : PySem.W.Frag} {G H : Hp} {a : Addr} {c : Cell} (h : CellV K G H a c) : H a ≠ none := by
  cases h with
  | lst h r => rw [h]; simp
  | obj h r => rw [h]; simp
  | dct h r => rw [h]; simp
  | dctT h r => rw [h]; simp
  | lk h r => rw [h]; simp
def OkC (K : PySem.W.Frag) (M : Hid) (S : Store) (H : Hp) : Prop := ∀ a c, S a = some c → CellV K (gS M S H) H a c
structure SlotsOk (K : PySem.W.Frag) (M : Hid) (S : Store) (H : Hp) (σ : L2.St) (δ : Slots) : Prop where
  at_ : ∀ (i : Nat) (w : W), δ[i]? = some (some w) → ∃ v, σ[i]? = some (some v) ∧ Wv K (gS M S H) v w
  len : δ.length ≤ σ.length
def XdV (K : PySem.W.Frag) (G H : Hp) (d : Option Addr) (fs : List (String × W)) : Prop := fs = [] ∨ ∃ a vs, d = some a ∧ H a = some (.xd vs) ∧ Wvf K G vs fs
structure Fr where
  G : Hp
  Wx : WX
  X : Exn → Slots → Store → Prop
  T : List (Addr × Str) := []
  M0 : Hid := fun _ => False
  Hm : Hp := fun _ => none
def TabG (M : Hid) (S : Store) (H : Hp) (P : Addr) (q : Str) : Prop := ∃ ps : Array Value, H P = some (.tbl ps) ∧ TriplesOk ps.toList ∧ ∀ (pos : Pos) (cv : Value), codeAmong pos ps.toList = some cv → ∃ c, cv = .ref c ∧ gS M S H c = some (LamX.CodeO c q)
theorem TabG.mono {M M' : Hid} {S S' : Store} {H H' : Hp} {P : Addr} {q : Str} (h : TabG M S H P q) (e : H' P = H P) (s : Sub (gS M S H) (gS M' S' H')) : TabG M' S' H' P q := by
  obtain ⟨ps, h1, h2, h3⟩ := h
  refine ⟨ps, e.trans h1, h2, fun pos cv hc => ?_⟩
  obtain ⟨c, e1, e2⟩ := h3 pos cv hc
  exact ⟨c, e1, s _ _ e2⟩
def NoX (u : HO) : Prop := NoT u ∧ (∀ φ, u ≠ .ext φ) ∧ ∀ fs, u ≠ .xd fs
def HdN (o : Option HO) : Prop := ∃ u, o = some u ∧ NoX u
theorem HdN.ne {o : Option HO} (h : HdN o) : o ≠ none := by
  obtain ⟨u, e, _⟩ := h
  rw [e]
  simp
structure OkB (K : PySem.W.Frag) (F : Fr) (M : Hid) (S : Store) (H : Hp) : Prop where
  hid : ∀ a, M a → S a = none ∧ HdN (H a)
  cell : OkC K M S H
  sub : Sub F.G (gS M S H)
  tabs : ∀ p ∈ F.T, TabG M S H p.1 p.2 ∧ S p.1 = none ∧ ¬ M p.1
  keep : ∀ a, F.M0 a → M a ∧ H a = F.Hm a
structure Ok (K : PySem.W.Frag) (F : Fr) (M : Hid) (S : Store) (H : Hp) : Prop extends OkB K F M S H where
  hX : ∀ C d fs δ S' σ H', F.X ⟨C, fs⟩ δ S' → OkB K F M S' H' → SlotsOk K M S' H' σ δ → XdV K (gS M S' H') H' d fs → F.Wx (.ref (clsAt K C)) d σ H'
section
variable {K : PySem.W.Frag} {F : Fr} {M : Hid} {S S' : Store} {H H' : Hp} {σ : L2.St} {δ : Slots}
theorem OkC.none (k : OkC K M S H) {p : Addr} (h : H p = none) : S p = none := by
  cases e : S p with
  | none => rfl
  | some c => exact absurd h (k p c e).there
theorem SlotsOk.mono (x : SlotsOk K M S H σ δ) (s : Sub (gS M S H) (gS M S' H')) : SlotsOk K M S' H' σ δ :=
  ⟨fun i w e => let ⟨v, h1, h2⟩ := x.at_ i w e; ⟨v, h1, h2.mono s⟩, x.len⟩
theorem TabG.at_ {P : Addr} {q : Str} (h : TabG M S H P q) : ∃ ps, H P = some (.tbl ps) := let ⟨ps, h, _⟩ := h; ⟨ps, h⟩
theorem Ok.grow (k : Ok K F M S H) (e : Sub H H') : Ok K F M S H' :=
  ⟨⟨fun a h => ⟨(k.hid a h).1, let ⟨u, e1, n⟩ := (k.hid a h).2; ⟨u, e a u e1, n⟩⟩, fun a c h => by
    have z := k.cell a c h
    refine z.mono (gS_mono e) ?_
    cases q : H a with
    | none => exact absurd q z.there
    | some o => exact e a o q, k.sub.trans (gS_mono e), fun p hp => by
    obtain ⟨t, t2⟩ := k.tabs p hp
    obtain ⟨ps, et⟩ := t.at_
    exact ⟨t.mono ((e _ _ et).trans et.symm) (gS_mono e), t2⟩, fun a h => by
    obtain ⟨m, q⟩ := k.keep a h
    refine ⟨m, ?_⟩
    rw [← q]
    cases z : H a with
    | none => exact absurd z (k.hid a m).2.ne
    | some o => exact e a o z⟩, k.hX⟩
theorem Ok.new (k : Ok K F M S H) {p : Addr} {o : HO} (h : H p = none) : Ok K F M S (upd H p o) := k.grow (.upd h)
theorem Ok.notM (k : Ok K F M S H) {p : Addr} (h : H p = none) : ¬ M p := fun m => (k.hid p m).2.ne h
theorem gS_new (k : Ok K F M S H) {p : Addr} {o : HO} (h : H p = none) (n : NoT o) : gS M S (upd H p o) p = some o := gS_some.mpr ⟨k.notM h, k.cell.none h, upd_same, n⟩
theorem gS_cell {p : Addr} {c : Cell} {o : HO} (h : gS M S H p = none) : gS M (upS S p c) (upd H p o) = gS M S H := by
  funext a
  by_cases e : a = p
  · subst e
    rw [h]
    unfold gS
    rw [upS_same]
    split <;> rfl
  · unfold gS
    rw [upS_ne e, upd_ne e]
theorem Ok.cellM (k : Ok K F M S H) {p : Addr} {c : Cell} (h : S p = some c) : ¬ M p := fun m => by rw [(k.hid p m).1] at h; cases h
theorem gS_free {p : Addr} (h : H p = none) : gS M S H p = none := by
  cases e : gS M S H p with
  | none => rfl
  | some o => rw [(gS_some.mp e).2.2.1] at h; cases h
theorem gS_at {p : Addr} {c : Cell} (h : S p = some c) : gS M S H p = none := by
  unfold gS
  rw [h]
  split <;> rfl
theorem Ok.put (k : Ok K F M S H) {p : Addr} {c : Cell} {o : HO} (h : gS M S H p = none) (hm : ¬ M p) (ht : ∀ q ∈ F.T, q.1 ≠ p) (hc : CellV K (gS M S H) (upd H p o) p c) : Ok K F M (upS S p c) (upd H p o) := by
  refine ⟨⟨fun a h => ?_, fun a e he => ?_, by rw [gS_cell h]; exact k.sub, fun q hq => ?_, fun a q => ?_⟩, k.hX⟩
  rotate_right 2
  · obtain ⟨t, t1, t2⟩ := k.tabs q hq
    exact ⟨t.mono (upd_ne (ht q hq)) (by rw [gS_cell h]; exact Sub.refl _), by rw [upS_ne (ht q hq)]; exact t1, t2⟩
  · obtain ⟨m, e⟩ := k.keep a q
    have ne : a ≠ p := fun z => hm (by rw [← z]; exact m)
    exact ⟨m, by rw [upd_ne ne]; exact e⟩
  · have ne : a ≠ p := fun z => hm (z ▸ h)
    rw [upS_ne ne, upd_ne ne]
    exact k.hid a h
  rw [gS_cell h]
  by_cases z : a = p
  · subst z
    rw [upS_same] at he
    cases he
    exact hc
  · rw [upS_ne z] at he
    exact (k.cell a e he).mono (Sub.refl _) (upd_ne z)
theorem Ok.cut (k : Ok K F M S H) (h : ∀ a c, S' a = some c → S a = some c) : Ok K F M S' H := by
  have sb : Sub (gS M S H) (gS M S' H) := gS_drop fun a e => by
    cases q : S' a with
    | none => rfl
    | some c => rw [h a c q] at e; cases e
  exact ⟨⟨fun a m => ⟨(by
    cases q : S' a with
    | none => rfl
    | some c => have := h a c q; rw [(k.hid a m).1] at this; cases this), (k.hid a m).2⟩, fun a c e => (k.cell a c (h a c e)).mono sb rfl, k.sub.trans sb, fun p hp => (by
    obtain ⟨t, t1, t2⟩ := k.tabs p hp
    exact ⟨t.mono rfl sb, (by
      cases q : S' p.1 with
      | none => rfl
      | some c => have := h _ c q; rw [t1] at this; cases this), t2⟩), k.keep⟩, k.hX⟩
theorem OkC.cut (k : OkC K M S H) (h : ∀ a c, S' a = some c → S a = some c) : OkC K M S' H := by
  have sb : Sub (gS M S H) (gS M S' H) := gS_drop fun a e => by
    cases q : S' a with
    | none => rfl
    | some c => rw [h a c q] at e; cases e
  exact fun a c e => (k a c (h a c e)).mono sb rfl
theorem sub_cut (h : ∀ a c, S' a = some c → S a = some c) : Sub (gS M S H) (gS M S' H) := gS_drop fun a e => by
    cases q : S' a with
    | none => rfl
    | some c => rw [h a c q] at e; cases e
theorem er_le {p : Addr} : ∀ a c, erS S p a = some c → S a = some c := fun a c e => by
  unfold erS at e
  split at e
  · cases e
  · exact e
theorem SlotsOk.set {i : Nat} {v : V} {w : W} (x : SlotsOk K M S H σ δ) (h : Wv K (gS M S H) v w) : SlotsOk K M S H (σ.set i (some v)) (δ.set i (some w)) := by
  refine ⟨fun j u e => ?_, by simpa using x.len⟩
  by_cases z : i = j
  · subst z
    have hl : i < δ.length := by
      have := (List.getElem?_eq_some_iff.mp e).1
      simpa using this
    rw [List.getElem?_set_self hl] at e
    cases e
    exact ⟨v, List.getElem?_set_self (Nat.lt_of_lt_of_le hl x.len), h⟩
  · rw [List.getElem?_set_ne z] at e ⊢
    exact x.at_ j u e
theorem SlotsOk.drop {i : Nat} (x : SlotsOk K M S H σ δ) : SlotsOk K M S H σ (δ.set i none) := by
  refine ⟨fun j u e => ?_, by simpa using x.len⟩
  by_cases z : i = j
  · subst z
    have hl : i < δ.length := by
      have := (List.getElem?_eq_some_iff.mp e).1
      simpa using this
    rw [List.getElem?_set_self hl] at e
    cases e
  · rw [List.getElem?_set_ne z] at e
    exact x.at_ j u e
theorem SlotsOk.dropV {i : Nat} {ov : Option V} (x : SlotsOk K M S H σ δ) : SlotsOk K M S H (σ.set i ov) (δ.set i none) := by
  refine ⟨fun j u e => ?_, by simpa using x.len⟩
  by_cases z : i = j
  · subst z
    have hl : i < δ.length := by
      have := (List.getElem?_eq_some_iff.mp e).1
      simpa using this
    rw [List.getElem?_set_self hl] at e
    cases e
  · rw [List.getElem?_set_ne z] at e ⊢
    exact x.at_ j u e
end

abbrev XP := Exn → Store → Prop
abbrev EM := Slots → Store → (W → Store → Prop) → XP → Prop
abbrev AM := Slots → Store → (List W → Store → Prop) → XP → Prop
abbrev TM := Slots → Store → (Bool → Store → Prop) → XP → Prop
structure Ct where
  nx : Slots → Store → Prop
  rt : W → Store → Prop
  bk : Slots → Store → Prop := fun _ _ => False
  ct : Slots → Store → Prop := fun _ _ => False
  X : Exn → Slots → Store → Prop
abbrev SM := Ct → Slots → Store → Prop
section
variable (K : PySem.W.Frag) (F : Fr)
structure St (M : Hid) (S : Store) (H : Hp) (S' : Store) (H' : Hp) : Prop where
  ok : Ok K F M S' H'
  sub : Sub (gS M S H) (gS M S' H')
  stay : ∀ a, M a → H' a = H a
def WE (te : TE) (δ : Slots) (S : Store) (P : W → Store → Prop) : Prop := ∀ (M : Hid) (σ : L2.St) (H : Hp), Ok K F M S H → SlotsOk K M S H σ δ → ∀ Q : VK,
  (∀ v H' w S', P w S' → St K F M S H S' H' → Wv K (gS M S' H') v w → Q v H') → te σ H Q
def WA (ta : TA) (δ : Slots) (S : Store) (P : List W → Store → Prop) : Prop := ∀ (M : Hid) (σ : L2.St) (H : Hp), Ok K F M S H → SlotsOk K M S H σ δ → ∀ Q : List V → Hp → Prop,
  (∀ vs H' ws S', P ws S' → St K F M S H S' H' → Wvs K (gS M S' H') vs ws → Q vs H') → ta σ H Q
def WT (tt : TT) (δ : Slots) (S : Store) (P : Bool → Store → Prop) : Prop := ∀ (M : Hid) (σ : L2.St) (H : Hp), Ok K F M S H → SlotsOk K M S H σ δ → ∀ Q : Bool → Hp → Prop,
  (∀ b H' S', P b S' → St K F M S H S' H' → Q b H') → tt σ H Q
structure EndsOk (M : Hid) (G0 H0 : Hp) (E : Ends) (C : Ct) : Prop where
  nx : ∀ S σ H δ, C.nx δ S → Ok K F M S H → SlotsOk K M S H σ δ → Sub G0 (gS M S H) → (∀ a, M a → H a = H0 a) → E.nx σ H
  rt : ∀ S v H w, C.rt w S → Ok K F M S H → Wv K (gS M S H) v w → Sub G0 (gS M S H) → (∀ a, M a → H a = H0 a) → E.rt v H
  bk : ∀ S σ H δ, C.bk δ S → Ok K F M S H → SlotsOk K M S H σ δ → Sub G0 (gS M S H) → (∀ a, M a → H a = H0 a) → E.bk σ H
  ct : ∀ S σ H δ, C.ct δ S → Ok K F M S H → SlotsOk K M S H σ δ → Sub G0 (gS M S H) → (∀ a, M a → H a = H0 a) → E.ct σ H
def WS (ts : TS) (δ : Slots) (S : Store) (C : Ct) : Prop := ∀ (M : Hid) (E : Ends) (σ : L2.St) (H : Hp), Ok K F M S H → SlotsOk K M S H σ δ → EndsOk K F M (gS M S H) H E C → ts E σ H
end
section
variable {K : PySem.W.Frag} {F : Fr} {M : Hid} {S S1 S2 : Store} {H H1 H2 : Hp} {σ : L2.St} {δ : Slots}
theorem St.refl (k : Ok K F M S H) : St K F M S H S H := ⟨k, Sub.refl _, fun _ _ => rfl⟩
theorem St.trans (a : St K F M S H S1 H1) (b : St K F M S1 H1 S2 H2) : St K F M S H S2 H2 := ⟨b.ok, a.sub.trans b.sub, fun x m => (b.stay x m).trans (a.stay x m)⟩
theorem St.grow (k : Ok K F M S H) (e : Sub H H1) : St K F M S H S H1 := ⟨k.grow e, gS_mono e, fun a m => by
  cases q : H a with
  | none => exact absurd q (k.hid a m).2.ne
  | some o => exact e a o q⟩
theorem St.new (k : Ok K F M S H) {p : Addr} {o : HO} (h : H p = none) : St K F M S H S (upd H p o) := .grow k (.upd h)
theorem Ok.tabNew (k : Ok K F M S H) {p : Addr} (h : H p = none) : ∀ q ∈ F.T, q.1 ≠ p := fun q hq z => by
  obtain ⟨ps, e⟩ := (k.tabs q hq).1.at_
  rw [z, h] at e
  cases e
theorem Ok.tabCell (k : Ok K F M S H) {p : Addr} {c : Cell} (h : S p = some c) : ∀ q ∈ F.T, q.1 ≠ p := fun q hq z => by
  have := (k.tabs q hq).2.1
  rw [z, h] at this
  cases this
theorem St.put (k : Ok K F M S H) {p : Addr} {c : Cell} {o : HO} (h : gS M S H p = none) (hm : ¬ M p) (ht : ∀ q ∈ F.T, q.1 ≠ p) (hc : CellV K (gS M S H) (upd H p o) p c) : St K F M S H (upS S p c) (upd H p o) := ⟨k.put h hm ht hc, by rw [gS_cell h]; exact Sub.refl _, fun a m => upd_ne fun z => hm (z ▸ m)⟩
theorem St.newC (k : Ok K F M S H) {p : Addr} {c : Cell} {o : HO} (h : H p = none) (hc : CellV K (gS M S H) (upd H p o) p c) : St K F M S H (upS S p c) (upd H p o) := .put k (gS_free h) (k.notM h) (k.tabNew h) hc
theorem St.write (k : Ok K F M S H) {p : Addr} {c c' : Cell} {o : HO} (h : S p = some c') (hc : CellV K (gS M S H) (upd H p o) p c) : St K F M S H (upS S p c) (upd H p o) := .put k (gS_at h) (k.cellM h) (k.tabCell h) hc
theorem St.cut (k : Ok K F M S H) (h : ∀ a c, S1 a = some c → S a = some c) : St K F M S H S1 H := ⟨k.cut h, sub_cut h, fun _ _ => rfl⟩
theorem St.slots (s : St K F M S H S1 H1) (x : SlotsOk K M S H σ δ) : SlotsOk K M S1 H1 σ δ := x.mono s.sub
theorem EndsOk.on {E : Ends} {C : Ct} (e : EndsOk K F M (gS M S H) H E C) (s : St K F M S H S1 H1) : EndsOk K F M (gS M S1 H1) H1 E C :=
  ⟨fun T σ I δ a b c d f => e.nx T σ I δ a b c (s.sub.trans d) fun x m => (f x m).trans (s.stay x m), fun T v I w a b c d f => e.rt T v I w a b c (s.sub.trans d) fun x m => (f x m).trans (s.stay x m),
   fun T σ I δ a b c d f => e.bk T σ I δ a b c (s.sub.trans d) fun x m => (f x m).trans (s.stay x m), fun T σ I δ a b c d f => e.ct T σ I δ a b c (s.sub.trans d) fun x m => (f x m).trans (s.stay x m)⟩
end
end DX

set_option Elab.async false
set_option linter.all false
set_option maxRecDepth 100000
namespace DX
open PySem L2
variable {K : PySem.W.Frag} {F : Fr} {X : Cx}

def allD : List W → Option (List D)
  | [] => some []
  | .d x :: ws => (allD ws).map (x :: ·)
  | _ :: _ => none
theorem allD_map : ∀ ds : List D, allD (ds.map .d) = some ds
  | [] => rfl
  | d :: ds => by rw [List.map_cons, allD, allD_map ds]; rfl
theorem allD_inv : ∀ {ws : List W} {ds : List D}, allD ws = some ds → ws = ds.map .d
  | [], ds, h => by cases h; rfl
  | .d x :: ws, ds, h => by
    rw [allD] at h
    cases q : allD ws with
    | none => rw [q] at h; cases h
    | some es =>
      rw [q] at h
      cases h
      rw [allD_inv q]
      rfl
  | .ref a :: ws, ds, h => by cases h
  | .tup l :: ws, ds, h => by cases h
def mkT (ws : List W) : W := match allD ws with
  | some ds => .d (.tup ds)
  | none => .tup ws
theorem mkT_map (ds : List D) : mkT (ds.map .d) = .d (.tup ds) := by unfold mkT; rw [allD_map]
theorem Wv.mkT {G : Hp} {a : Addr} {vs : List V} {ws : List W} (h : SqT K G a vs) (r : Wvs K G vs ws) : Wv K G (.ref a) (mkT ws) := by
  unfold DX.mkT
  cases q : allD ws with
  | none => exact .tup h r
  | some ds =>
    rw [allD_inv q] at r
    exact .d (.tup h r.ds)
def lseq (S : Store) : W → Option (List W)
  | .d (.lst ds) => some (ds.map .d)
  | .ref a => match S a with
    | some (.lst ws) => some ws
    | _ => none
  | _ => none
def tseq : W → Option (List W)
  | .d (.tup ds) => some (ds.map .d)
  | .tup ws => some ws
  | _ => none
def seqW (S : Store) (w : W) : Option (List W) := match lseq S w with
  | some ws => some ws
  | none => tseq w
theorem lseq_ok {M : Hid} {S : Store} {H : Hp} {v : V} {w : W} {ws : List W} (k : OkC K M S H) (h : Wv K (gS M S H) v w) (e : lseq S w = some ws) : ∃ a vs, v = .ref a ∧ H a = some (.lst vs) ∧ Wvs K (gS M S H) vs ws := by
  cases w with
  | d x =>
    cases x with
    | lst ds =>
      cases e
      obtain ⟨a, vs, rfl, h1, h2⟩ := h.to_d.to_lst
      exact ⟨a, vs, rfl, gS_sub _ _ h1, h2.w⟩
    | _ => cases e
  | ref a =>
    cases h.to_ref
    cases q : S a with
    | none => simp [lseq, q] at e
    | some c =>
      cases c with
      | lst l =>
        simp only [lseq, q, Option.some.injEq] at e
        subst e
        cases k a _ q with
        | lst h1 h2 => exact ⟨a, _, rfl, h1, h2⟩
      | _ => simp [lseq, q] at e
  | tup l => cases e
theorem tseq_ok {G : Hp} {v : V} {w : W} {ws : List W} (h : Wv K G v w) (e : tseq w = some ws) : ∃ a vs, v = .ref a ∧ SqT K G a vs ∧ Wvs K G vs ws := by
  cases w with
  | d x =>
    cases x with
    | tup ds =>
      cases e
      obtain ⟨a, vs, rfl, h1, h2⟩ := h.to_d.to_tup
      exact ⟨a, vs, rfl, h1, h2.w⟩
    | _ => cases e
  | ref a => cases e
  | tup l =>
    cases e
    obtain ⟨a, vs, rfl, h1, h2⟩ := h.to_tup
    exact ⟨a, vs, rfl, h1, h2⟩
theorem seqW_ok {M : Hid} {S : Store} {H : Hp} {v : V} {w : W} {ws : List W} (k : OkC K M S H) (h : Wv K (gS M S H) v w) (e : seqW S w = some ws) : ∃ a vs, v = .ref a ∧ (SqL K H a vs ∨ SqT K H a vs) ∧ Wvs K (gS M S H) vs ws := by
  unfold seqW at e
  cases q : lseq S w with
  | some l =>
    rw [q] at e
    cases e
    obtain ⟨a, vs, h1, h2, h3⟩ := lseq_ok k h q
    exact ⟨a, vs, h1, .inl (sqL h2), h3⟩
  | none =>
    rw [q] at e
    obtain ⟨a, vs, h1, h2, h3⟩ := tseq_ok h e
    exact ⟨a, vs, h1, .inr (gS_sub.t h2), h3⟩
def newLC (c : Bool) (ws : List W) (S : Store) (P : W → Store → Prop) : Prop :=
  if c then ∀ a, S a = none → P (.ref a) (upS S a (.lst ws)) else match allD ws with
    | some ds => P (.d (.lst ds)) S
    | none => False
theorem new_lst {c : Bool} {M : Hid} {S : Store} {H : Hp} {vs : List V} {ws : List W} {P : W → Store → Prop} {Q : VK} {l : Addr} (k : Ok K F M S H) (hw : Wvs K (gS M S H) vs ws) (hn : H l = none) (p : newLC c ws S P)
    (q : ∀ z H' w S', P w S' → St K F M S H S' H' → Wv K (gS M S' H') z w → Q z H') : Q (.ref l) (upd H l (.lst vs)) := by
  unfold newLC at p
  cases c with
  | true =>
    rw [if_pos rfl] at p
    exact q _ _ _ _ (p l (k.cell.none hn)) (St.newC k hn (.lst upd_same hw)) (.ref l)
  | false =>
    rw [if_neg (by decide)] at p
    cases e : allD ws with
    | none => rw [e] at p; exact p.elim
    | some ds =>
      rw [e] at p
      rw [allD_inv e] at hw
      have s : St K F M S H S (upd H l (.lst vs)) := .new k hn
      exact q _ _ _ _ p s (.d (.lst (gS_new k hn (fun ps z => by cases z)) (hw.ds.mono s.sub)))
theorem new_tup {M : Hid} {S : Store} {H : Hp} {vs : List V} {ws : List W} {P : W → Store → Prop} {Q : VK} {l : Addr} (k : Ok K F M S H) (hw : Wvs K (gS M S H) vs ws) (hn : H l = none) (p : P (mkT ws) S)
    (q : ∀ z H' w S', P w S' → St K F M S H S' H' → Wv K (gS M S' H') z w → Q z H') : Q (.ref l) (upd H l (.tup vs)) := by
  have s : St K F M S H S (upd H l (.tup vs)) := .new k hn
  exact q _ _ _ _ p s (.mkT (sqT (gS_new k hn (fun ps z => by cases z))) (hw.mono s.sub))

def mapO {α β : Type} (f : α → Option β) : List α → Option (List β)
  | [] => some []
  | x :: l => match f x with
    | some y => (mapO f l).map (y :: ·)
    | none => none
def rdW : Nat → Store → W → Option D
  | _, _, .d x => some x
  | 0, _, _ => none
  | n + 1, S, .ref a => match S a with
    | some (.lst ws) => (mapO (rdW n S) ws).map D.lst
    | some (.obj C fs) => (mapO (fun p => (rdW n S p.2).map fun d => (p.1, d)) fs).map (D.ins C)
    | _ => none
  | n + 1, S, .tup ws => (mapO (rdW n S) ws).map D.tup
abbrev rd (S : Store) (w : W) : Option D := rdW 4 S w
theorem mapO_d {n : Nat} {S : Store} : ∀ ds : List D, mapO (rdW n S) (ds.map .d) = some ds
  | [] => rfl
  | d :: ds => by
    have h : rdW n S (.d d) = some d := by cases n <;> rfl
    rw [List.map_cons, mapO, h, mapO_d ds]
    rfl
theorem mapO_ws {n : Nat} {S : Store} {G H : Hp} (ih : ∀ {v : V} {w : W} {d : D}, Wv K G v w → rdW n S w = some d → DV K H v d) : ∀ {ws : List W} {vs : List V} {ds : List D}, Wvs K G vs ws → mapO (rdW n S) ws = some ds → DVs K H vs ds
  | [], _, _, .nil, e => by cases e; exact .nil
  | w :: ws, _, ds, .cons h r, e => by
    rw [mapO] at e
    cases q : rdW n S w with
    | none => rw [q] at e; cases e
    | some y =>
      rw [q] at e
      cases q2 : mapO (rdW n S) ws with
      | none => rw [q2] at e; cases e
      | some ys =>
        rw [q2] at e
        cases e
        exact .cons (ih h q) (mapO_ws ih r q2)
theorem mapO_fs {n : Nat} {S : Store} {G H : Hp} (ih : ∀ {v : V} {w : W} {d : D}, Wv K G v w → rdW n S w = some d → DV K H v d) : ∀ {ws : List (String × W)} {vs : List (Str × V)} {ds : List (String × D)}, Wvf K G vs ws → mapO (fun p => (rdW n S p.2).map fun d => (p.1, d)) ws = some ds → DVf K H vs ds
  | [], _, _, .nil, e => by cases e; exact .nil
  | (f, w) :: ws, _, ds, .cons h r, e => by
    rw [mapO] at e
    cases q : rdW n S w with
    | none => simp only [q] at e; cases e
    | some y =>
      simp only [q] at e
      cases q2 : mapO (fun p : String × W => (rdW n S p.2).map fun d => (p.1, d)) ws with
      | none => rw [q2] at e; cases e
      | some ys =>
        rw [q2] at e
        cases e
        exact .cons (ih h q) (mapO_fs ih r q2)
theorem rdW_ok {M : Hid} {S : Store} {H : Hp} (k : OkC K M S H) : ∀ (n : Nat) {v : V} {w : W} {d : D}, Wv K (gS M S H) v w → rdW n S w = some d → DV K H v d
  | 0, v, .d x, d, h, e => by cases e; exact h.to_d.mono gS_sub
  | n + 1, v, .d x, d, h, e => by cases e; exact h.to_d.mono gS_sub
  | 0, v, .ref a, d, h, e => by cases e
  | 0, v, .tup a, d, h, e => by cases e
  | n + 1, v, .tup ws, d, h, e => by
    obtain ⟨a, vs, rfl, h1, h2⟩ := h.to_tup
    rw [rdW] at e
    cases q : mapO (rdW n S) ws with
    | none => rw [q] at e; cases e
    | some ds =>
      rw [q] at e
      cases e
      exact .tup (gS_sub.t h1) (mapO_ws (rdW_ok k n) h2 q)
  | n + 1, v, .ref a, d, h, e => by
    cases h.to_ref
    rw [rdW] at e
    cases q : S a with
    | none => rw [q] at e; cases e
    | some c =>
      rw [q] at e
      cases k a c q with
      | lst h1 h2 =>
        rename_i vs ws
        dsimp only at e
        cases q2 : mapO (rdW n S) ws with
        | none => rw [q2] at e; cases e
        | some ds =>
          rw [q2] at e
          cases e
          exact .lst h1 (mapO_ws (rdW_ok k n) h2 q2)
      | obj h1 h2 =>
        rename_i C dx vs ws
        dsimp only at e
        cases q2 : mapO (fun p : String × W => (rdW n S p.2).map fun d => (p.1, d)) ws with
        | none => rw [q2] at e; cases e
        | some ds =>
          rw [q2] at e
          cases e
          exact .ins h1 (mapO_fs (rdW_ok k n) h2 q2)
      | dct h1 h2 => cases e
      | dctT h1 h2 => cases e
      | lk h1 h2 => cases e

abbrev O1 := W → Store → (W → Store → Prop) → Prop
abbrev O2 := W → W → Store → (W → Store → Prop) → Prop
abbrev ON := List W → Store → (W → Store → Prop) → Prop
def RO2 (K : PySem.W.Frag) (F : Fr) (r : R2) (o : O2) : Prop := ∀ M S H x y v u P, Ok K F M S H → Wv K (gS M S H) v x → Wv K (gS M S H) u y → o x y S P → ∀ Q : VK,
  (∀ z H' w S', P w S' → St K F M S H S' H' → Wv K (gS M S' H') z w → Q z H') → r v u H Q
def RO1 (K : PySem.W.Frag) (F : Fr) (r : V → Hp → VK → Prop) (o : O1) : Prop := ∀ M S H x v P, Ok K F M S H → Wv K (gS M S H) v x → o x S P → ∀ Q : VK,
  (∀ z H' w S', P w S' → St K F M S H S' H' → Wv K (gS M S' H') z w → Q z H') → r v H Q
def RON (K : PySem.W.Frag) (F : Fr) (r : List V → Hp → VK → Prop) (o : ON) : Prop := ∀ M S H xs vs P, Ok K F M S H → Wvs K (gS M S H) vs xs → o xs S P → ∀ Q : VK,
  (∀ z H' w S', P w S' → St K F M S H S' H' → Wv K (gS M S' H') z w → Q z H') → r vs H Q
abbrev none0 : Hp := fun _ => none
theorem sub0 {G : Hp} : Sub none0 G := fun a o h => by cases h
def RS2 (K : PySem.W.Frag) (r : R2) (f : D → D → (D → Prop) → Prop) : Prop := ∀ H v u x y p, DV K H v x → DV K H u y → f x y p → ∀ Q : VK, (∀ z d, p d → DV K none0 z d → Q z H) → r v u H Q
def RS1 (K : PySem.W.Frag) (r : V → Hp → VK → Prop) (f : D → (D → Prop) → Prop) : Prop := ∀ H v x p, DV K H v x → f x p → ∀ Q : VK, (∀ z d, p d → DV K none0 z d → Q z H) → r v H Q
def RSN (K : PySem.W.Frag) (r : List V → Hp → VK → Prop) (f : D → (D → Prop) → Prop) : Prop := ∀ H v x p, DV K H v x → f x p → ∀ Q : VK, (∀ z d, p d → DV K none0 z d → Q z H) → r [v] H Q
def rd2 (f : D → D → (D → Prop) → Prop) : O2 := fun x y S P => match rd S x, rd S y with
  | some a, some b => f a b fun d => P (.d d) S
  | _, _ => False
def rd1 (f : D → (D → Prop) → Prop) : O1 := fun x S P => match rd S x with
  | some a => f a fun d => P (.d d) S
  | _ => False
def rdN (f : D → (D → Prop) → Prop) : ON := fun xs S P => match xs with
  | [x] => rd1 f x S P
  | _ => False
theorem RS2.ro {r : R2} {f : D → D → (D → Prop) → Prop} (h : RS2 K r f) : RO2 K F r (rd2 f) := fun M S H x y v u P k a b p Q q => by
  unfold rd2 at p
  cases e1 : rd S x with
  | none => rw [e1] at p; exact p.elim
  | some d1 =>
    cases e2 : rd S y with
    | none => rw [e1, e2] at p; exact p.elim
    | some d2 =>
      rw [e1, e2] at p
      exact h H v u d1 d2 _ (rdW_ok k.cell 4 a e1) (rdW_ok k.cell 4 b e2) p Q fun z d pd dv => q z H _ S pd (.refl k) (.d (dv.mono sub0))
theorem RS1.ro {r : V → Hp → VK → Prop} {f : D → (D → Prop) → Prop} (h : RS1 K r f) : RO1 K F r (rd1 f) := fun M S H x v P k a p Q q => by
  unfold rd1 at p
  cases e1 : rd S x with
  | none => rw [e1] at p; exact p.elim
  | some d1 =>
    rw [e1] at p
    exact h H v d1 _ (rdW_ok k.cell 4 a e1) p Q fun z d pd dv => q z H _ S pd (.refl k) (.d (dv.mono sub0))
theorem RSN.ro {r : List V → Hp → VK → Prop} {f : D → (D → Prop) → Prop} (h : RSN K r f) : RON K F r (rdN f) := fun M S H xs vs P k a p Q q => by
  unfold rdN at p
  cases a with
  | nil => exact p.elim
  | cons a r =>
    cases r with
    | nil => exact RS1.ro (r := fun v H Q => _) h M S H _ _ P k a p Q q
    | cons _ _ => exact p.elim
def OB (X : Cx) (K : PySem.W.Frag) (F : Fr) (f : Value → Value → Sem Value) (o : O2) : Prop := ∃ r, OpR X f r ∧ RO2 K F r o
def OC (X : Cx) (K : PySem.W.Frag) (F : Fr) (f : Value) (o : ON) : Prop := ∃ r, CallR X f r ∧ RON K F r o

def rAddS : R2 := fun x y H Q => ∃ i j, x = .str i ∧ y = .str j ∧ i.length + j.length ≤ sizeLine ∧ Q (.str (i ++ j)) H
def rAddA (K : PySem.W.Frag) : R2 := fun x y H Q => ((rI0 fun i j => .int (i + j)) x y H Q ∨ rAddS x y H Q) ∨ (rCat x y H Q ∨ rCatA K x y H Q)
def catO (c : Bool) : O2 := fun x y S P => match lseq S x, lseq S y with
  | some a, some b => a.length + b.length ≤ 100000 ∧ newLC c (a ++ b) S P
  | _, _ => match tseq x, tseq y with
    | some a, some b => a.length + b.length ≤ 100000 ∧ P (mkT (a ++ b)) S
    | _, _ => False
def oAdd (c : Bool) : O2 := fun x y S P => match x, y with
  | .d (.int a), .d (.int b) => P (.d (.int (a + b))) S
  | .d (.str a), .d (.str b) => a.length + b.length ≤ 1000000 ∧ P (.d (.str (a ++ b))) S
  | x, y => catO c x y S P
theorem Wv.retup {G : Hp} {v : V} {w : W} {ws : List W} (h : Wv K G v w) (e : tseq w = some ws) : Wv K G v (DX.mkT ws) := by
  obtain ⟨a, vs, rfl, h1, h2⟩ := tseq_ok h e
  exact .mkT h1 h2
theorem ro_cat {c : Bool} : RO2 K F (rAddA K) (catO c) := fun M S H x y v u P k a b p Q q => by
  unfold catO at p
  split at p
  · rename_i la lb ea eb
    obtain ⟨hl, p⟩ := p
    obtain ⟨p1, vs, rfl, h1, h2⟩ := lseq_ok k.cell a ea
    obtain ⟨p2, us, rfl, h3, h4⟩ := lseq_ok k.cell b eb
    exact .inr (.inl ⟨p1, p2, vs, us, rfl, rfl, h1, h3, Nat.le_trans (by rw [h2.length, h4.length]; exact hl) (by decide), fun n hn => new_lst k (h2.append h4) hn p q⟩)
  · split at p
    · rename_i ta tb ea eb
      obtain ⟨hl, p⟩ := p
      obtain ⟨p1, vs, rfl, h1, h2⟩ := tseq_ok a ea
      obtain ⟨p2, us, rfl, h3, h4⟩ := tseq_ok b eb
      refine .inr (.inr ⟨p1, p2, vs, us, rfl, rfl, gS_sub.t h1, gS_sub.t h3, Nat.le_trans (by rw [h2.length, h4.length]; exact hl) (by decide), fun e => ?_, fun _ e => ?_, fun _ _ n hn => new_tup k (h2.append h4) hn p q⟩)
      · subst e
        have e0 : ta = [] := List.eq_nil_of_length_eq_zero h2.length.symm
        subst e0
        exact q _ H _ S p (.refl k) (b.retup eb)
      · subst e
        have e0 : tb = [] := List.eq_nil_of_length_eq_zero h4.length.symm
        subst e0
        rw [List.append_nil] at p
        exact q _ H _ S p (.refl k) (a.retup ea)
    · exact p.elim
theorem ob_add {c : Bool} (eK : X.K = K) : OB X K F (binaryOp .Add) (oAdd c) := by
  subst eK
  refine ⟨rAddA X.K, OpR.or (OpR.or op_add op_add_str) (OpR.or op_cat op_catA), fun M S H x y v u P k a b p Q q => ?_⟩
  unfold oAdd at p
  split at p
  · cases a.to_d.to_int
    cases b.to_d.to_int
    exact .inl (.inl ⟨_, _, rfl, rfl, q _ H _ S p (.refl k) (.d (.int _))⟩)
  · cases a.to_d.to_str
    cases b.to_d.to_str
    exact .inl (.inr ⟨_, _, rfl, rfl, Nat.le_trans p.1 (by decide), q _ H _ S p.2 (.refl k) (.d (.str _))⟩)
  · exact ro_cat M S H x y v u P k a b p Q q
def i2 (f : Int → Int → (D → Prop) → Prop) : O2 := fun x y S P => match x, y with
  | .d (.int a), .d (.int b) => f a b fun d => P (.d d) S
  | _, _ => False
theorem ro_i2 {r : R2} {f : Int → Int → (D → Prop) → Prop} (h : ∀ H a b p, f a b p → ∀ Q : VK, (∀ z d, p d → DV K none0 z d → Q z H) → r (.int a) (.int b) H Q) : RO2 K F r (i2 f) := fun M S H x y v u P k a b p Q q => by
  unfold i2 at p
  split at p
  · cases a.to_d.to_int
    cases b.to_d.to_int
    exact h H _ _ _ p Q fun z d pd dv => q z H _ S pd (.refl k) (.d (dv.mono sub0))
  · exact p.elim
def oSub : O2 := i2 fun a b p => p (.int (a - b))
theorem ob_sub : OB X K F (binaryOp .Sub) oSub := ⟨_, op_sub, ro_i2 fun H a b p h Q q => ⟨a, b, rfl, rfl, q _ _ h (.int _)⟩⟩
def oMod : O2 := i2 fun a b p => 0 < b ∧ p (.int (a % b))
theorem ob_mod : OB X K F (binaryOp .Mod) oMod := ⟨_, op_mod, ro_i2 fun H a b p h Q q => ⟨a, b, rfl, rfl, h.1, q _ _ h.2 (.int _)⟩⟩
def oLt : O2 := i2 fun a b p => p (.bl (decide (a < b)))
def oLe : O2 := i2 fun a b p => p (.bl (decide (a ≤ b)))
def oGt : O2 := i2 fun a b p => p (.bl (decide (b < a)))
def oGe : O2 := i2 fun a b p => p (.bl (decide (b ≤ a)))
theorem ob_lt : OB X K F (compareOp .Lt) oLt := ⟨_, op_lt, ro_i2 fun H a b p h Q q => ⟨a, b, rfl, rfl, q _ _ h (.bl _)⟩⟩
theorem ob_le : OB X K F (compareOp .LtE) oLe := ⟨_, op_le, ro_i2 fun H a b p h Q q => ⟨a, b, rfl, rfl, q _ _ h (.bl _)⟩⟩
theorem ob_gt : OB X K F (compareOp .Gt) oGt := ⟨_, op_gt, ro_i2 fun H a b p h Q q => ⟨a, b, rfl, rfl, q _ _ h (.bl _)⟩⟩
theorem ob_ge : OB X K F (compareOp .GtE) oGe := ⟨_, op_ge, ro_i2 fun H a b p h Q q => ⟨a, b, rfl, rfl, q _ _ h (.bl _)⟩⟩
end DX

set_option Elab.async false
set_option linter.all false
set_option maxRecDepth 100000
namespace DXS
open PySem PySem.Spec PyProof.Rows L2
theorem tuple_mulOne (l : Addr) (items : Array Value) (n : Nat) (dd : Option Addr) (sl : Array (Option Value)) (u : Tok) :
    Meets (Builtin.«tuple.__mul__» ⟨[.ref l, .int 1 u], []⟩) (fun _ R s => s.heap.get? l = some { cls := .type "tuple", dict := dd, data := .seq items n, slots := sl } ∧ R (.ok (.ret (Value.ref l))) s) :=
  .of_wp fun prog w A R s h => by
    obtain ⟨hp, g, d, tk, os⟩ := s
    obtain ⟨hl, h⟩ := h
    have f1 := AutoSeq1.idx_int
    have c0 : (decide ((1 : Int) < -(2 ^ 63)) || decide ((1 : Int) ≥ 2 ^ 63)) = false := by decide
    have c1 : (items.isEmpty || (1 : Int) == 1) = true := by simp
    wp_walk using wpAny_loadPart' hl
    repeat (first
      | (refine wpAny_ite_false (decide_eq_false (by rw [c0]; exact Bool.false_ne_true)) ?_; wp_walk using wpAny_loadPart' hl)
      | (refine wpAny_ite_true (decide_eq_true (by rw [c1])) ?_; wp_walk using wpAny_loadPart' hl))
    exact ⟨_, rfl, h⟩
def rRepT1 (K : PySem.W.Frag) : R2 := fun x y H Q => ∃ l xs, x = .ref l ∧ y = .int 1 ∧ SqT K H l xs ∧ Q (.ref l) H
variable {X : Cx}
theorem op_repT1 : OpR X (binaryOp .Mult) (rRepT1 X.K) := by
  intro pins s σ H x y v u Q I rx ry h
  obtain ⟨l, xs, rfl, rfl, hT, q⟩ := h
  cases rx
  obtain ⟨t, rfl⟩ := ry
  obtain ⟨its, r, ⟨⟨cls, dd, data, sl⟩, ho, hc, n, hd⟩, hs⟩ := I.tuple hT
  simp only at hc hd
  subst hc hd
  exact wpAny_binaryOp_repeat_ref (T := "tuple") (U := "int") (by decide) ⟨_, ho, rfl⟩ (fun s' => typeIs_int s' 1 t) noFill_tuple_mul F.fills_int_mul F.slot_int_rmul repeat_tuple F.slot_int_index.lookup
    (call_meets F.slot_int_rmul (typeIs_int s 1 t) F.entry_int_rmul (F.args_int_rmul_2 _ _) (int_rmul_tuple 1 t l its.toArray n dd sl)
      ⟨ho, rfl, ⟨_, ho, rfl⟩, call_meets F.slot_tuple_mul ⟨_, ho, rfl⟩ F.entry_tuple_mul (F.args_tuple_mul_2 _ _) (tuple_mulOne l its.toArray n dd sl t) ⟨ho, .ref l, H, I, rfl, q⟩⟩)
theorem tuple_mulZero (l : Addr) (items : Array Value) (n : Nat) (dd : Option Addr) (sl : Array (Option Value)) (u : Tok) (hi : items.isEmpty = false) :
    Meets (Builtin.«tuple.__mul__» ⟨[.ref l, .int 0 u], []⟩) (fun _ R s => s.heap.get? l = some { cls := .type "tuple", dict := dd, data := .seq items n, slots := sl } ∧
      R (.ok (.ret (Value.ref s.heap.objs.size))) { s with heap := s.heap.push { cls := Value.type "tuple", data := Data.seq #[] }, toks := s.toks }) :=
  .of_wp fun prog w A R s h => by
    obtain ⟨hp, g, d, tk, os⟩ := s
    obtain ⟨hl, h⟩ := h
    have f1 := AutoSeq1.idx_int
    have c0 : (decide ((0 : Int) < -(2 ^ 63)) || decide ((0 : Int) ≥ 2 ^ 63)) = false := by decide
    have c1 : (items.isEmpty || (0 : Int) == 1) = false := by rw [hi]; rfl
    have c2 : (decide ((0 : Int) ≤ 0) || items.isEmpty) = true := by simp
    wp_walk using wpAny_loadPart' hl
    repeat (first
      | (refine wpAny_ite_false (decide_eq_false (by rw [c0]; exact Bool.false_ne_true)) ?_; wp_walk using wpAny_loadPart' hl)
      | (refine wpAny_ite_false (decide_eq_false (by rw [c1]; exact Bool.false_ne_true)) ?_; wp_walk using wpAny_loadPart' hl)
      | (refine wpAny_ite_true (decide_eq_true (by rw [c2])) ?_; wp_walk using wpAny_loadPart' hl))
    exact ⟨_, rfl, h⟩
def rRepT0 (K : PySem.W.Frag) : R2 := fun x y H Q => ∃ l xs, x = .ref l ∧ y = .int 0 ∧ SqT K H l xs ∧ xs ≠ [] ∧ ∀ p, H p = none → Q (.ref p) (upd H p (.tup []))
theorem op_repT0 : OpR X (binaryOp .Mult) (rRepT0 X.K) := by
  intro pins s σ H x y v u Q I rx ry h
  obtain ⟨l, xs, rfl, rfl, hT, hne, q⟩ := h
  cases rx
  obtain ⟨t, rfl⟩ := ry
  obtain ⟨its, r, ⟨⟨cls, dd, data, sl⟩, ho, hc, n, hd⟩, hs⟩ := I.tuple hT
  simp only at hc hd
  subst hc hd
  have hle : its.length = xs.length := r.length.symm
  have hn : its ≠ [] := fun e => hne (by
    rw [e] at hle
    exact List.eq_nil_of_length_eq_zero hle.symm)
  have hi : its.toArray.isEmpty = false := by
    cases its with
    | nil => exact absurd rfl hn
    | cons a b => rfl
  refine wpAny_binaryOp_repeat_ref (T := "tuple") (U := "int") (by decide) ⟨_, ho, rfl⟩ (fun s' => typeIs_int s' 0 t) noFill_tuple_mul F.fills_int_mul F.slot_int_rmul repeat_tuple F.slot_int_index.lookup
    (call_meets F.slot_int_rmul (typeIs_int s 0 t) F.entry_int_rmul (F.args_int_rmul_2 _ _) (int_rmul_tuple 0 t l its.toArray n dd sl)
      ⟨ho, rfl, ⟨_, ho, rfl⟩, call_meets F.slot_tuple_mul ⟨_, ho, rfl⟩ F.entry_tuple_mul (F.args_tuple_mul_2 _ _) (tuple_mulZero l its.toArray n dd sl t hi) ⟨ho, ?_⟩⟩)
  refine ⟨.ref s.heap.objs.size, _, I.laid (t' := s.toks) (o := .tup []) (fun b ob q => Heap.get?_push_of_some _ q) (Nat.le_refl _) ?_, rfl, q _ (I.hok.fresh (Nat.le_refl _))⟩
  exact ⟨by decide, [], .nil, IsTup.new _ _⟩
end DXS
namespace DX
open PySem L2
variable {K : PySem.W.Frag} {F : Fr} {X : Cx}

def rMulA (K : PySem.W.Frag) : R2 := fun x y H Q => ((rI CMul fun i j => .int (i * j)) x y H Q ∨ rRep x y H Q) ∨ (rRepT K x y H Q ∨ (DXS.rRepT1 K x y H Q ∨ DXS.rRepT0 K x y H Q))
def repO (c : Bool) (x : W) (n : Int) (S : Store) (P : W → Store → Prop) : Prop := match lseq S x with
  | some a => -10000 ≤ n ∧ n ≤ 10000 ∧ a.length ≤ 1000 ∧ newLC c (List.replicate n.toNat a).flatten S P
  | none => match tseq x with
    | some a => a ≠ [] ∧ 0 ≤ n ∧ n ≤ 1000 ∧ a.length ≤ 1000 ∧ P (mkT (List.replicate n.toNat a).flatten) S
    | none => False
def oMul (c : Bool) : O2 := fun x y S P => match x, y with
  | .d (.int a), .d (.int b) => CMul a b ∧ P (.d (.int (a * b))) S
  | x, .d (.int b) => repO c x b S P
  | _, _ => False
theorem flat_one {α : Type} (l : List α) : (List.replicate (1 : Int).toNat l).flatten = l := by simp
theorem ob_mul {c : Bool} (eK : X.K = K) : OB X K F (binaryOp .Mult) (oMul c) := by
  subst eK
  refine ⟨rMulA X.K, OpR.or (OpR.or op_mul op_rep) (OpR.or op_repT (OpR.or DXS.op_repT1 DXS.op_repT0)), fun M S H x y v u P k a b p Q q => ?_⟩
  unfold oMul at p
  split at p
  · cases a.to_d.to_int
    cases b.to_d.to_int
    exact .inl (.inl ⟨_, _, rfl, rfl, p.1, q _ H _ S p.2 (.refl k) (.d (.int _))⟩)
  · rename_i n _
    cases b.to_d.to_int
    unfold repO at p
    split at p
    · rename_i l el
      obtain ⟨h0, h1, h2, p⟩ := p
      obtain ⟨p1, vs, rfl, h3, h4⟩ := lseq_ok k.cell a el
      refine .inl (.inr ⟨p1, n, vs, rfl, rfl, h3, by omega, by omega, ?_, fun m hm => new_lst k (h4.flat _) hm p q⟩)
      rw [h4.length]
      have : l.length * n.toNat ≤ 1000 * 10000 := Nat.mul_le_mul h2 (by omega)
      exact Nat.le_trans this (by decide)
    · split at p
      · rename_i l el
        obtain ⟨hne, h0, h1, h2, p⟩ := p
        obtain ⟨p1, vs, rfl, h3, h4⟩ := tseq_ok a el
        by_cases e : n = 1
        · subst e
          refine .inr (.inr (.inl ⟨p1, vs, rfl, rfl, gS_sub.t h3, ?_⟩))
          rw [flat_one] at p
          exact q _ H _ S p (.refl k) (a.retup el)
        · by_cases e0 : n = 0
          · subst e0
            exact .inr (.inr (.inr ⟨p1, vs, rfl, rfl, gS_sub.t h3, fun z => hne (List.eq_nil_of_length_eq_zero (by rw [← h4.length, z]; rfl)), fun m hm => new_tup k .nil hm p q⟩))
          refine .inr (.inl ⟨p1, n, vs, rfl, rfl, gS_sub.t h3, fun z => hne (List.eq_nil_of_length_eq_zero (by rw [← h4.length, z]; rfl)), by omega, h1, by rw [h4.length]; exact h2, fun m hm => new_tup k (h4.flat _) hm p q⟩)
      · exact p.elim
  · exact p.elim
def oDiv : O2 := i2 fun a b p => (0 < b ∧ b < 2 ^ 64) ∧ p (.int (a / b))
theorem ob_div : OB X K F (binaryOp .FloorDiv) oDiv := ⟨_, op_fdivW, ro_i2 fun H a b p h Q q => ⟨a, b, rfl, rfl, wide_div h.1.1 (b := 64) (by have := h.1; omega) (by decide) (by decide), q _ _ h.2 (.int _)⟩⟩
def oPow : O2 := i2 fun a b p => (0 ≤ b ∧ b ≤ 100 ∧ a.natAbs < 2 ^ 64) ∧ p (.int (a ^ b.toNat))
theorem ob_pow : OB X K F (binaryOp .Pow) oPow := ⟨_, op_pow, ro_i2 fun H a b p h Q q => ⟨a, b, rfl, rfl, ⟨h.1.1, by have := h.1.2.1; omega, h.1.2.2⟩, q _ _ h.2 (.int _)⟩⟩

def D.sc : D → Option V
  | .non => some .non
  | .bl b => some (.bl b)
  | .int i => some (.int i)
  | .str s => some (.str s)
  | _ => none
theorem DV.of_sc {G : Hp} {v u : V} {d : D} (h : DV K G v d) (e : d.sc = some u) : v = u := by
  cases h with
  | non => exact Option.some.inj e
  | bl b => exact Option.some.inj e
  | int i => exact Option.some.inj e
  | str i => exact Option.some.inj e
  | _ => cases e
mutual
def D.plain : D → Bool
  | .non => true
  | .bl _ => true
  | .int _ => true
  | .str _ => true
  | .lst l => D.plains l
  | .tup l => D.plains l
  | _ => false
def D.plains : List D → Bool
  | [] => true
  | d :: ds => d.plain && D.plains ds
end
mutual
def D.toP : D → PyData
  | .bl b => .bool b
  | .int i => .int i
  | .str s => .str s
  | .lst l => .list (D.toPs l)
  | .tup l => .tuple (D.toPs l)
  | _ => .none
def D.toPs : List D → List PyData
  | [] => []
  | d :: ds => d.toP :: D.toPs ds
end
theorem D.toPs_map : ∀ l : List D, D.toPs l = l.map D.toP
  | [] => rfl
  | d :: ds => by rw [D.toPs, D.toPs_map ds]; rfl
mutual
theorem DV.toP {H : Hp} : ∀ {v : V} {d : D}, DV K H v d → d.plain = true → Dp K H v d.toP
  | _, _, .non, _ => .non
  | _, _, .bl b, _ => .bl b
  | _, _, .int b, _ => .int b
  | _, _, .str b, _ => .str b
  | _, _, .lst h r, e => .lst (sqL h) (DVs.toP r e)
  | _, _, .tup h r, e => .tup h (DVs.toP r e)
  | _, _, .ins _ _, e => by cases e
  | _, _, .dct _ _, e => by cases e
  | _, _, .cls _, e => by cases e
  | _, _, .ty _, e => by cases e
theorem DVs.toP {H : Hp} : ∀ {v : List V} {d : List D}, DVs K H v d → D.plains d = true → DpAll K H v (D.toPs d)
  | _, _, .nil, _ => .nil
  | _, _, .cons h r, e => by
    rw [D.plains, Bool.and_eq_true] at e
    exact .cons (DV.toP h e.1) (DVs.toP r e.2)
end
def D.ok (d : D) : Prop := d.plain = true ∧ SeqAt.shaped d.toP = true
def eqD (x y : D) : Bool := PyData.eqv x.toP y.toP
def okN : Nat → D → Bool
  | _, .non => true
  | _, .bl _ => true
  | _, .int _ => true
  | _, .str s => PyData.strOk s
  | n + 1, .lst l => l.all (okN n)
  | n + 1, .tup l => l.all (okN n)
  | _, _ => false
theorem okN_all {n : Nat} (ih : ∀ d, okN n d = true → d.plain = true ∧ d.toP.canLay0 = true ∧ d.toP.depth ≤ n) : ∀ l : List D, l.all (okN n) = true → D.plains l = true ∧ PyData.canLayAll0 (D.toPs l) = true ∧ PyData.depthAll (D.toPs l) ≤ n
  | [], _ => ⟨rfl, rfl, Nat.zero_le _⟩
  | d :: l, h => by
    rw [List.all_cons, Bool.and_eq_true] at h
    obtain ⟨a1, a2, a3⟩ := ih d h.1
    obtain ⟨b1, b2, b3⟩ := okN_all ih l h.2
    refine ⟨by rw [D.plains, a1, b1]; rfl, ?_, ?_⟩
    · rw [D.toPs, PyData.canLayAll0, a2, b2]
      rfl
    · rw [D.toPs, PyData.depthAll]
      omega
theorem okN_ok : ∀ (n : Nat) (d : D), okN n d = true → d.plain = true ∧ d.toP.canLay0 = true ∧ d.toP.depth ≤ n
  | n, .non, _ => ⟨rfl, by simp [D.toP, PyData.canLay0], by simp [D.toP, PyData.depth]⟩
  | n, .bl _, _ => ⟨rfl, by simp [D.toP, PyData.canLay0], by simp [D.toP, PyData.depth]⟩
  | n, .int _, _ => ⟨rfl, by simp [D.toP, PyData.canLay0], by simp [D.toP, PyData.depth]⟩
  | n, .str s, h => ⟨rfl, by simp [D.toP, PyData.canLay0]; simpa [okN] using h, by simp [D.toP, PyData.depth]⟩
  | n + 1, .lst l, h => by
    obtain ⟨a1, a2, a3⟩ := okN_all (okN_ok n) l (by simpa [okN] using h)
    exact ⟨by rw [D.plain]; exact a1, by rw [D.toP, PyData.canLay0]; exact a2, by rw [D.toP, PyData.depth]; omega⟩
  | n + 1, .tup l, h => by
    obtain ⟨a1, a2, a3⟩ := okN_all (okN_ok n) l (by simpa [okN] using h)
    exact ⟨by rw [D.plain]; exact a1, by rw [D.toP, PyData.canLay0]; exact a2, by rw [D.toP, PyData.depth]; omega⟩
  | n, .ins _ _, h => by simp [okN] at h
  | n, .dct _, h => by simp [okN] at h
  | n, .cls _, h => by simp [okN] at h
  | n, .ty _, h => by simp [okN] at h
  | 0, .lst _, h => by simp [okN] at h
  | 0, .tup _, h => by simp [okN] at h
abbrev okD (d : D) : Bool := okN 60 d
theorem ok_of {d : D} (h : okD d = true) : d.ok := by
  obtain ⟨a1, a2, a3⟩ := okN_ok 60 d h
  refine ⟨a1, ?_⟩
  unfold SeqAt.shaped
  rw [a2, Bool.true_and, decide_eq_true_eq]
  omega
def rEqA (K : PySem.W.Frag) : R2 := fun x y H Q => rEq x y H Q ∨ rEqD K x y H Q
def rNeA (K : PySem.W.Frag) : R2 := fun x y H Q => rNe x y H Q ∨ rNeD K x y H Q
def fEq (g : Bool → Bool) (a b : D) (p : D → Prop) : Prop := match a, b with
  | .int i, .int j => p (.bl (g (decide (i = j))))
  | .str i, .str j => p (.bl (g (decide (i = j))))
  | .bl i, .bl j => p (.bl (g (decide (i = j))))
  | .non, .str _ => p (.bl (g false))
  | .str _, .non => p (.bl (g false))
  | .int _, .str _ => p (.bl (g false))
  | .str _, .int _ => p (.bl (g false))
  | a, b => (okD a = true ∧ okD b = true) ∧ p (.bl (g (eqD a b)))
def oEq : O2 := rd2 (fEq id)
def oNe : O2 := rd2 (fEq not)
theorem fEq_rs {r : R2} {g : Bool → Bool} (h1 : ∀ x y H Q, scal x y = true → Q (.bl (g (decide (x = y)))) H → r x y H Q) (h2 : ∀ x y H Q d e, Dp K H x d → Dp K H y e → SeqAt.shaped d = true → SeqAt.shaped e = true → Q (.bl (g (PyData.eqv d e))) H → r x y H Q) : RS2 K r (fEq g) := fun H v u x y p a b h Q q => by
  unfold fEq at h
  split at h
  · cases a.to_int
    cases b.to_int
    rename_i i j
    refine h1 _ _ H Q rfl (q _ _ h ?_)
    rw [show decide (V.int i = V.int j) = decide (i = j) by simp]
    exact .bl _
  · cases a.to_str
    cases b.to_str
    rename_i i j
    refine h1 _ _ H Q rfl (q _ _ h ?_)
    rw [show decide (V.str i = V.str j) = decide (i = j) by simp]
    exact .bl _
  · cases a.to_bl
    cases b.to_bl
    rename_i i j
    refine h1 _ _ H Q rfl (q _ _ h ?_)
    rw [show decide (V.bl i = V.bl j) = decide (i = j) by simp]
    exact .bl _
  · cases a.to_non
    cases b.to_str
    exact h1 _ _ H Q rfl (q _ _ h (.bl _))
  · cases a.to_str
    cases b.to_non
    exact h1 _ _ H Q rfl (q _ _ h (.bl _))
  · cases a.to_int
    cases b.to_str
    exact h1 _ _ H Q rfl (q _ _ h (.bl _))
  · cases a.to_str
    cases b.to_int
    exact h1 _ _ H Q rfl (q _ _ h (.bl _))
  · obtain ⟨⟨ha, hb⟩, h⟩ := h
    have ha := ok_of ha
    have hb := ok_of hb
    exact h2 _ _ H Q _ _ (a.toP ha.1) (b.toP hb.1) ha.2 hb.2 (q _ _ h (.bl _))
theorem ob_eq (eK : X.K = K) (hu : X.A.units + 64 < cLine) : OB X K F (compareOp .Eq) oEq := by
  subst eK
  exact ⟨rEqA X.K, OpR.or op_eq (op_eqD hu), (fEq_rs (fun x y H Q s q => .inl ⟨s, q⟩) (fun x y H Q d e h1 h2 h3 h4 q => .inr ⟨d, e, h1, h2, h3, h4, q⟩)).ro⟩
theorem ob_ne (eK : X.K = K) (hu : X.A.units + 64 < cLine) : OB X K F (compareOp .NotEq) oNe := by
  subst eK
  exact ⟨rNeA X.K, OpR.or op_ne (op_neD hu), (fEq_rs (g := not) (fun x y H Q s q => .inl ⟨s, q⟩) (fun x y H Q d e h1 h2 h3 h4 q => .inr ⟨d, e, h1, h2, h3, h4, q⟩)).ro⟩
def W.isN : W → Bool
  | .d .non => true
  | _ => false
def oIsN : O2 := fun x y S P => match y with
  | .d .non => P (.d (.bl x.isN)) S
  | _ => False
def oNotN : O2 := fun x y S P => match y with
  | .d .non => P (.d (.bl (!x.isN))) S
  | _ => False
theorem Wv.isN {G : Hp} {v : V} {w : W} (h : Wv K G v w) : decide (v = .non) = w.isN := by
  cases h with
  | d h => cases h <;> rfl
  | ref a => rfl
  | tup _ _ => rfl
theorem ob_isN : OB X K F (compareOp .Is) oIsN := ⟨fun x y H Q => y = .non ∧ Q (.bl (decide (x = .non))) H, op_isN, fun M S H x y v u P k a b p Q q => by
  unfold oIsN at p
  split at p
  · cases b.to_d.to_non
    exact ⟨rfl, by rw [a.isN]; exact q _ H _ S p (.refl k) (.d (.bl _))⟩
  · exact p.elim⟩
def rInX (K : PySem.W.Frag) : R2 := fun x y H Q => (rIn K false x y H Q ∨ rInD K x y H Q) ∨ ∃ i j, x = .str i ∧ y = .str j ∧ Q (.bl (!(Builtin.Str.occurrences j i 0 j.length 1).isEmpty)) H
def mapSc : List D → Option (List V)
  | [] => some []
  | d :: ds => match d.sc with
    | some v => (mapSc ds).map (v :: ·)
    | none => none
theorem DVs.of_sc {G : Hp} : ∀ {vs us : List V} {ds : List D}, DVs K G vs ds → mapSc ds = some us → vs = us
  | _, _, _, .nil, e => by cases e; rfl
  | _, us, d :: ds, .cons h r, e => by
    rw [mapSc] at e
    cases q : d.sc with
    | none => rw [q] at e; cases e
    | some v =>
      rw [q] at e
      cases q2 : mapSc ds with
      | none => rw [q2] at e; cases e
      | some ws =>
        rw [q2] at e
        cases e
        rw [h.of_sc q, DVs.of_sc r q2]
theorem flat_sc {d : D} {v : V} (h : d.sc = some v) : flatV v = true := by
  cases d <;> cases h <;> rfl
theorem flat_scs : ∀ {ds : List D} {vs : List V}, mapSc ds = some vs → vs.all flatV = true
  | [], _, e => by cases e; rfl
  | d :: ds, vs, e => by
    rw [mapSc] at e
    cases q : d.sc with
    | none => rw [q] at e; cases e
    | some v =>
      rw [q] at e
      cases q2 : mapSc ds with
      | none => rw [q2] at e; cases e
      | some ws =>
        rw [q2] at e
        cases e
        rw [List.all_cons, flat_sc q, flat_scs q2]
        rfl
def oneSign (s : Str) : Option Nat := match s.cps.toList with
  | [c] => some c
  | _ => none
def fIn (g : Bool → Bool) (a b : D) (p : D → Prop) : Prop := match b with
  | .str t => match a with
    | .str s => match oneSign s with
      | some c => p (.bl (g (decide (c ∈ t.cps.toList))))
      | none => False
    | _ => False
  | .lst ds => match a.sc, mapSc ds with
    | some u, some us => p (.bl (g (inV u us)))
    | _, _ => (okD a = true ∧ okD (.lst ds) = true) ∧ p (.bl (g (ds.any fun z => eqD z a)))
  | .tup ds => match a.sc, mapSc ds with
    | some u, some us => p (.bl (g (inV u us)))
    | _, _ => False
  | _ => False
theorem oneSign_eq {s : Str} {c : Nat} (h : oneSign s = some c) : s = ⟨#[c]⟩ := by
  unfold oneSign at h
  split at h
  · rename_i d e
    cases h
    cases s with
    | mk cps =>
      have e : cps.toList = [c] := e
      rw [show cps = #[c] from Array.toList_inj.mp (by simpa using e)]
  · cases h
theorem fIn_rs {r : R2} {g : Bool → Bool} (h1 : ∀ x y H Q (p : Addr) (xs : List V), y = .ref p → (SqL K H p xs ∨ SqT K H p xs) → flatV x = true → xs.all flatV = true → Q (.bl (g (inV x xs))) H → r x y H Q)
    (h2 : ∀ x y H Q d ds, Dp K H x d → Dp K H y (.list ds) → SeqAt.shaped d = true → SeqAt.shaped (.list ds) = true → Q (.bl (g (ds.any fun z => PyData.eqv z d))) H → r x y H Q)
    (h3 : ∀ H Q (c : Nat) (t : Str), Q (.bl (g (decide (c ∈ t.cps.toList)))) H → r (.str ⟨#[c]⟩) (.str t) H Q) : RS2 K r (fIn g) := fun H v u x y p a b h Q q => by
  unfold fIn at h
  split at h
  · cases b.to_str
    split at h
    · cases a.to_str
      split at h
      · rename_i c e
        rw [oneSign_eq e]
        exact h3 H Q c _ (q _ _ h (.bl _))
      · exact h.elim
    · exact h.elim
  · rename_i ds
    obtain ⟨l, vs, rfl, e1, e2⟩ := id b.to_lst
    split at h
    · rename_i w ws ew ews
      cases a.of_sc ew
      cases e2.of_sc ews
      exact h1 _ _ H Q l _ rfl (.inl (sqL e1)) (flat_sc ew) (flat_scs ews) (q _ _ h (.bl _))
    · obtain ⟨⟨ha, hb⟩, h⟩ := h
      have ha := ok_of ha
      have hb := ok_of hb
      refine h2 _ _ H Q _ (D.toPs ds) (a.toP ha.1) (b.toP hb.1) ha.2 hb.2 (q _ _ h ?_)
      rw [D.toPs_map, List.any_map]
      exact .bl _
  · obtain ⟨l, vs, rfl, e1, e2⟩ := b.to_tup
    split at h
    · rename_i w ws ew ews
      cases a.of_sc ew
      cases e2.of_sc ews
      exact h1 _ _ H Q l _ rfl (.inr e1) (flat_sc ew) (flat_scs ews) (q _ _ h (.bl _))
    · exact h.elim
  · exact h.elim
def oIn : O2 := rd2 (fIn id)
def oNin : O2 := rd2 (fIn not)
theorem ob_in (eK : X.K = K) (hu : X.A.units + 65 < cLine) : OB X K F (compareOp .In) oIn := by
  subst eK
  refine ⟨rInX X.K, OpR.or (OpR.or op_in_seq (op_inD hu)) op_in_str, (fIn_rs (fun x y H Q p xs e1 e2 e3 e4 q => .inl (.inl ⟨p, xs, e1, e2, e3, e4, ?_⟩)) (fun x y H Q d ds e1 e2 e3 e4 q => .inl (.inr ⟨d, ds, e1, e2, e3, e4, q⟩)) (fun H Q c t q => .inr ⟨_, _, rfl, rfl, ?_⟩)).ro⟩
  · rw [if_neg (by decide)]; exact q
  · rw [PySem.StrLaws.found_one]; exact q
theorem Wvs.atI {G : Hp} {vs : List V} {ds : List W} {i : Int} {d : W} (h : Wvs K G vs ds) (e : L2.atI ds i = some d) : ∃ v, L2.atI vs i = some v ∧ Wv K G v d := by
  unfold L2.atI at e ⊢
  rw [h.length]
  cases q : ixN ds.length i with
  | none =>
    rw [q] at e
    cases e
  | some j =>
    rw [q] at e
    exact h.get e
def oIx : O2 := fun x y S P => match y with
  | .d (.int i) => match lseq S x with
    | some ws => match L2.atI ws i with
      | some w => P w S
      | none => False
    | none => match tseq x with
      | some ws => match L2.atI ws i with
        | some w => P w S
        | none => False
      | none => match x with
        | .d (.str z) => match L2.atI z.cps.toList i with
          | some c => z.length ≤ 100000 ∧ P (.d (.str ⟨#[c]⟩)) S
          | none => False
        | _ => False
  | _ => False
theorem ro_ix : RO2 K F (rIx K) oIx := fun M S H x y v u P k a b p Q q => by
  unfold oIx at p
  split at p
  · cases b.to_d.to_int
    split at p
    · rename_i ws e
      obtain ⟨l, vs, rfl, h1, h2⟩ := lseq_ok k.cell a e
      split at p
      · rename_i w ew
        obtain ⟨z, g1, g2⟩ := h2.atI ew
        exact .inl ⟨l, vs, _, z, rfl, rfl, sqL h1, g1, q _ H _ S p (.refl k) g2⟩
      · exact p.elim
    · split at p
      · rename_i ws e
        obtain ⟨l, vs, rfl, h1, h2⟩ := tseq_ok a e
        split at p
        · rename_i w ew
          obtain ⟨z, g1, g2⟩ := h2.atI ew
          exact .inr (.inl ⟨l, vs, _, z, rfl, rfl, gS_sub.t h1, g1, q _ H _ S p (.refl k) g2⟩)
        · exact p.elim
      · split at p
        · cases a.to_d.to_str
          split at p
          · rename_i c ec
            exact .inr (.inr ⟨_, _, c, rfl, rfl, Nat.le_trans p.1 (by decide), ec, q _ H _ S p.2 (.refl k) (.d (.str _))⟩)
          · exact p.elim
        · exact p.elim
  · exact p.elim
def cutW {α : Type} (xs : List α) (lo hi : Option Int) : List α := (xs.drop (HT.sIx xs.length 0 lo)).take (HT.sIx xs.length xs.length hi - HT.sIx xs.length 0 lo)
theorem Wvs.cut {G : Hp} {vs : List V} {ds : List W} (h : Wvs K G vs ds) (lo hi : Option Int) : Wvs K G (cutV vs lo hi) (cutW ds lo hi) := by
  unfold cutV cutW
  rw [h.length]
  exact (h.drop _).take _
abbrev OS := W → Option Int → Option Int → Store → (W → Store → Prop) → Prop
def rSlA (K : PySem.W.Frag) : V → Option Int → Option Int → Hp → VK → Prop := fun x lo hi H Q => rSlL K x lo hi H Q ∨ (L2.rSlA K x lo hi H Q ∨ rSlS x lo hi H Q)
theorem sl_A (eK : X.K = K) : SlR X (rSlA K) := eK ▸ SlR.or sl_list (SlR.or sl_tupA sl_str)
def oSl (c : Bool) : OS := fun x lo hi S P => match lseq S x with
  | some ws => newLC c (cutW ws lo hi) S P
  | none => match tseq x with
    | some ws => P (mkT (cutW ws lo hi)) S
    | none => match x with
      | .d (.str z) => z.length ≤ 100000 ∧ P (.d (.str (L2.cutS z lo hi))) S
      | _ => False
theorem ro_sl {c : Bool} : ∀ M S H x lo hi v P, Ok K F M S H → Wv K (gS M S H) v x → oSl c x lo hi S P → ∀ Q : VK, (∀ z H' w S', P w S' → St K F M S H S' H' → Wv K (gS M S' H') z w → Q z H') → rSlA K v lo hi H Q := fun M S H x lo hi v P k a p Q q => by
  unfold oSl at p
  split at p
  · rename_i ws e
    obtain ⟨l, vs, rfl, h1, h2⟩ := lseq_ok k.cell a e
    exact .inl ⟨l, vs, rfl, sqL h1, fun n hn => new_lst k (h2.cut lo hi) hn p q⟩
  · split at p
    · rename_i ws e
      obtain ⟨l, vs, rfl, h1, h2⟩ := tseq_ok a e
      refine .inr (.inl ⟨l, vs, rfl, gS_sub.t h1, fun hw => ?_, fun _ n hn => new_tup k (h2.cut lo hi) hn p q⟩)
      rw [h2.length] at hw
      have e2 : cutW ws lo hi = ws := by
        unfold cutW
        rw [hw.1, hw.2, List.drop_zero, Nat.sub_zero, List.take_length]
      rw [e2] at p
      exact q _ H _ S p (.refl k) (a.retup e)
    · split at p
      · cases a.to_d.to_str
        exact .inr (.inr ⟨_, rfl, Nat.le_trans p.1 (by decide), q _ H _ S p.2 (.refl k) (.d (.str _))⟩)
      · exact p.elim
end DX

set_option Elab.async false
set_option linter.all false
set_option maxRecDepth 100000
namespace DX
open PySem L2
variable {K : PySem.W.Frag} {F : Fr} {X : Cx}
theorem Wvs.one {G : Hp} {vs : List V} {w : W} (h : Wvs K G vs [w]) : ∃ v, vs = [v] ∧ Wv K G v w := by
  cases h with
  | cons a r => cases r; exact ⟨_, rfl, a⟩
theorem Wvs.two {G : Hp} {vs : List V} {w u : W} (h : Wvs K G vs [w, u]) : ∃ v z, vs = [v, z] ∧ Wv K G v w ∧ Wv K G z u := by
  cases h with
  | cons a r => cases r with
    | cons b r => cases r; exact ⟨_, _, rfl, a, b⟩
def bLen : ON := fun xs S P => match xs with
  | [x] => match seqW S x with
    | some ws => P (.d (.int ws.length)) S
    | none => match x with
      | .d (.str z) => z.length ≤ 100000 ∧ P (.d (.int z.length)) S
      | _ => False
  | _ => False
theorem oc_len (eK : X.K = K) : OC X K F (.builtin "len") bLen := by
  subst eK
  refine ⟨_, call_len, fun M S H xs vs P k a p Q q => ?_⟩
  unfold bLen at p
  split at p
  · obtain ⟨v, rfl, a1⟩ := a.one
    split at p
    · rename_i x ws e
      obtain ⟨l, us, rfl, h1, h2⟩ := seqW_ok k.cell a1 e
      refine ⟨_, us.length, rfl, ?_, ?_⟩
      · rcases h1 with h1 | h1
        · exact .inl ⟨us, h1, rfl⟩
        · exact .inr ⟨us, h1, rfl⟩
      · rw [h2.length]
        exact q _ H _ S p (.refl k) (.d (.int _))
    · split at p
      · cases a1.to_d.to_str
        exact ⟨_, _, rfl, ⟨Nat.le_trans p.1 (by decide), rfl⟩, q _ H _ S p.2 (.refl k) (.d (.int _))⟩
      · exact p.elim
  · exact p.elim
def bInt : ON := fun xs S P => match xs with
  | [.d (.int i)] => P (.d (.int i)) S
  | [.d (.bl b)] => P (.d (.int (if b then 1 else 0))) S
  | _ => False
theorem oc_int : OC X K F (.type "int") bInt := ⟨_, call_int1, fun M S H xs vs P k a p Q q => by
  unfold bInt at p
  split at p
  · obtain ⟨v, rfl, a1⟩ := a.one
    cases a1.to_d.to_int
    exact .inl ⟨_, rfl, q _ H _ S p (.refl k) (.d (.int _))⟩
  · obtain ⟨v, rfl, a1⟩ := a.one
    cases a1.to_d.to_bl
    exact .inr ⟨_, rfl, q _ H _ S p (.refl k) (.d (.int _))⟩
  · exact p.elim⟩
def allB : List W → Option (List Bool)
  | [] => some []
  | .d (.bl b) :: ws => (allB ws).map (b :: ·)
  | _ => none
theorem allB_inv : ∀ {ws : List W} {bs : List Bool}, allB ws = some bs → ws = bs.map fun b => .d (.bl b)
  | [], _, h => by cases h; rfl
  | w :: ws, bs, h => by
    unfold allB at h
    split at h
    · rename_i e
      cases e
    · rename_i b l e
      cases e
      cases q : allB ws with
      | none => rw [q] at h; cases h
      | some es =>
        rw [q] at h
        cases h
        rw [allB_inv q]
        rfl
    · cases h
theorem allB_map : ∀ bs : List Bool, allB (bs.map fun b => .d (.bl b)) = some bs
  | [] => rfl
  | b :: bs => by rw [List.map_cons, allB, allB_map bs]; rfl
def bAll : ON := fun xs S P => match xs with
  | [x] => match lseq S x with
    | some ws => match allB ws with
      | some bs => P (.d (.bl (bs.all id))) S
      | none => False
    | none => False
  | _ => False
def bAny : ON := fun xs S P => match xs with
  | [x] => match lseq S x with
    | some ws => match allB ws with
      | some bs => P (.d (.bl (bs.any id))) S
      | none => False
    | none => False
  | _ => False
theorem oc_all (eK : X.K = K) (hc : X.calm = true) : OC X K F (.builtin "all") bAll := by
  subst eK
  refine ⟨rAll X.K, cr_all hc, fun M S H xs vs P k a p Q q => ?_⟩
  unfold bAll at p
  split at p
  · obtain ⟨v, rfl, a1⟩ := a.one
    split at p
    · rename_i x ws e
      obtain ⟨l, us, rfl, h1, h2⟩ := lseq_ok k.cell a1 e
      split at p
      · rename_i bs eb
        rw [allB_inv eb] at h2
        cases h2.bls
        exact ⟨l, bs, rfl, sqL h1, q _ H _ S p (.refl k) (.d (.bl _))⟩
      · exact p.elim
    · exact p.elim
  · exact p.elim
def mx : List Int → Int
  | [] => 0
  | [a] => a
  | a :: b :: l => max a (mx (b :: l))
def mn (l : List Int) : Int := -(mx (l.map fun x => -x))
def bList (c : Bool) : ON := fun xs S P => match xs with
  | [x] => match seqW S x with
    | some ws => newLC c ws S P
    | none => False
  | _ => False
theorem oc_list {c : Bool} (eK : X.K = K) : OC X K F (.type "list") (bList c) := by
  subst eK
  refine ⟨_, call_list_of, fun M S H xs vs P k a p Q q => ?_⟩
  unfold bList at p
  split at p
  · obtain ⟨v, rfl, a1⟩ := a.one
    split at p
    · rename_i x ws e
      obtain ⟨l, us, rfl, h1, h2⟩ := seqW_ok k.cell a1 e
      exact ⟨l, us, rfl, h1, fun n hn => new_lst k h2 hn p q⟩
    · exact p.elim
  · exact p.elim
def bTup : ON := fun xs S P => match xs with
  | [x] => match seqW S x with
    | some ws => P (mkT ws) S
    | none => False
  | _ => False
theorem oc_tup (eK : X.K = K) : OC X K F (.type "tuple") bTup := by
  subst eK
  refine ⟨_, call_tuple_of, fun M S H xs vs P k a p Q q => ?_⟩
  unfold bTup at p
  split at p
  · obtain ⟨v, rfl, a1⟩ := a.one
    split at p
    · rename_i y x ws e
      unfold seqW at e
      cases q1 : lseq S y with
      | some l =>
        rw [q1] at e
        cases e
        obtain ⟨l, us, rfl, h1, h2⟩ := lseq_ok k.cell a1 q1
        exact ⟨l, us, rfl, .inl ⟨sqL h1, fun n hn => new_tup k h2 hn p q⟩⟩
      | none =>
        rw [q1] at e
        obtain ⟨l, us, rfl, h1, h2⟩ := tseq_ok a1 e
        exact ⟨l, us, rfl, .inr ⟨gS_sub.t h1, q _ H _ S p (.refl k) (a1.retup e)⟩⟩
    · exact p.elim
  · exact p.elim
inductive Tg where
  | non | bl | int | str | lst | tup | dct | own (C : String)
def Tg.bname : Tg → String
  | .non => "NoneType" | .bl => "bool" | .int => "int" | .str => "str" | .lst => "list" | .tup => "tuple" | .dct => "dict" | .own _ => ""
noncomputable def Tg.val (K : PySem.W.Frag) : Tg → Value
  | .own C => .ref (clsAt K C)
  | t => .type t.bname
def D.tg : D → Option Tg
  | .non => some .non | .bl _ => some .bl | .int _ => some .int | .str _ => some .str | .lst _ => some .lst | .tup _ => some .tup | .dct _ => some .dct | .ins C _ => some (.own C)
  | _ => none
def W.tg (S : Store) : W → Option Tg
  | .d x => x.tg
  | .tup _ => some .tup
  | .ref a => match S a with
    | some (.lst _) => some .lst
    | some (.dct _) => some .dct
    | some (.dctT _) => some .dct
    | some (.obj C _) => some (.own C)
    | some (.lk _) => some .dct
    | none => none
def D.ctg : D → Option Tg
  | .ty n => if n = "bool" then some .bl else if n = "int" then some .int else if n = "str" then some .str else if n = "list" then some .lst else if n = "tuple" then some .tup else if n = "dict" then some .dct else none
  | .cls C => some (.own C)
  | _ => none
structure TyC (K : PySem.W.Frag) (C : Addr) : Prop where
  cl : Cls K C
  ha : PySem.W.findIn K (.ref C) "__class__" = some (some (.builtin "object.__class__"))
  hn : PySem.W.specialIn K (.builtin "object.__class__") "__get__" = some (some (.builtin "getset_descriptor.__get__"))
  ht : PySem.W.takesIn K (.builtin "object.__class__") = some true
  hm : PySem.W.mroIn K C (.type "object") = some true
structure IsiT (K : PySem.W.Frag) (cs : List String) (sub : String → String → Bool) : Prop where
  ty : ∀ C ∈ cs, TyC K (clsAt K C)
  own : ∀ C ∈ cs, ∀ E ∈ cs, PySem.W.kitOne K (.ref (clsAt K C)) (.ref (clsAt K E)) = some (sub C E)
  up : ∀ C ∈ cs, ∀ n ∈ ["bool", "int", "str", "list", "tuple", "dict"], PySem.W.kitOne K (.ref (clsAt K C)) (.type n) = some false
  dn : ∀ C ∈ cs, ∀ n ∈ ["NoneType", "bool", "int", "str", "list", "tuple", "dict"], PySem.W.kitOne K (.type n) (.ref (clsAt K C)) = some false
def isI (cs : List String) (sub : String → String → Bool) : Tg → Tg → Option Bool
  | .own C, .own E => if C ∈ cs ∧ E ∈ cs then some (sub C E) else none
  | .own C, .non => none
  | .own C, _ => if C ∈ cs then some false else none
  | _, .own C => if C ∈ cs then some false else none
  | .non, .non => some true | .bl, .bl => some true | .int, .int => some true | .str, .str => some true | .lst, .lst => some true | .tup, .tup => some true | .dct, .dct => some true
  | .bl, .int => some true
  | _, .non => none
  | _, _ => some false
theorem kit_isI {cs : List String} {sub : String → String → Bool} (T : IsiT K cs sub) : ∀ (t u : Tg) (b : Bool), isI cs sub t u = some b → PySem.W.kitOne K (t.val K) (u.val K) = some b := fun t u b h => by
  have bb : ∀ {t u : Tg}, isI cs sub t u = some b → (∀ C, t ≠ .own C) → (∀ C, u ≠ .own C) → kitB t.bname u.bname = some b := by
    intro t u h h1 h2
    rcases t with _ | _ | _ | _ | _ | _ | _ | C
    case own => exact absurd rfl (h1 C)
    all_goals
      rcases u with _ | _ | _ | _ | _ | _ | _ | E
      case own => exact absurd rfl (h2 E)
      all_goals (simp only [isI, Option.some.injEq, reduceCtorEq] at h)
      all_goals (subst h; decide +kernel)
  cases t with
  | own C =>
    cases u with
    | own E =>
      simp only [isI] at h
      split at h
      · rename_i hh
        cases h
        exact T.own C hh.1 E hh.2
      · cases h
    | non => cases h
    | _ =>
      simp only [isI] at h
      split at h
      · rename_i hh
        cases h
        exact T.up C hh _ (by simp [Tg.bname])
      · cases h
  | _ =>
    cases u with
    | own E =>
      simp only [isI] at h
      split at h
      · rename_i hh
        cases h
        exact T.dn E hh _ (by simp [Tg.bname])
      · cases h
    | _ => exact kit_ty (bb h (fun C z => by cases z) (fun C z => by cases z))
theorem tyx_ins {H : Hp} {a dx C : Addr} {fs : List (Str × V)} (e : H a = some (.ins C dx fs)) (t : TyC K C) : TyX K H (.ref a) (.ref C) := .base (.ins e t.cl t.ha t.hn t.ht t.hm)
theorem tyx_tup {H : Hp} {a : Addr} {xs : List V} (h : SqT K H a xs) : TyX K H (.ref a) (.type "tuple") := by
  rcases h with (h | ⟨o, h⟩) | ⟨o, its, n, h1, h2, _⟩
  · exact .base (.tup h)
  · exact .fTuple h
  · exact .kTuple h1 h2
def Tg.inC (cs : List String) : Tg → Prop
  | .own C => C ∈ cs
  | _ => True
theorem Wv.tyX {cs : List String} {sub : String → String → Bool} (T : IsiT K cs sub) {M : Hid} {S : Store} {H : Hp} (k : OkC K M S H) {v : V} {w : W} {t : Tg} (h : Wv K (gS M S H) v w) (e : w.tg S = some t) (hc : t.inC cs) : TyX K H v (t.val K) := by
  cases h with
  | d h =>
    cases h with
    | non => cases e; exact .base .non
    | bl b => cases e; exact .base (.bl b)
    | int b => cases e; exact .base (.int b)
    | str b => cases e; exact .base (.str b)
    | lst h r => cases e; exact .base (.lst (gS_sub _ _ h))
    | tup h r => cases e; exact tyx_tup (gS_sub.t h)
    | dct h r => cases e; exact .fDict (gS_sub _ _ h)
    | ins h r => cases e; exact tyx_ins (gS_sub _ _ h) (T.ty _ hc)
    | cls c => cases e
    | ty c => cases e
  | tup h r => cases e; exact tyx_tup (gS_sub.t h)
  | ref a =>
    simp only [W.tg] at e
    cases q : S a with
    | none => rw [q] at e; cases e
    | some c =>
      rw [q] at e
      cases k a c q with
      | lst h r => cases e; exact .base (.lst h)
      | obj h r => cases e; exact tyx_ins h (T.ty _ hc)
      | dct h r => cases e; exact .base (.dK h)
      | dctT h r => cases e; exact .base (.dT h)
      | lk h r => cases e; exact .fDict h
theorem isI_in {cs : List String} {sub : String → String → Bool} {t u : Tg} {b : Bool} (h : isI cs sub t u = some b) : t.inC cs := by
  cases t with
  | own C =>
    cases u with
    | own E =>
      simp only [isI] at h
      split at h
      · rename_i hh; exact hh.1
      · cases h
    | non => cases h
    | _ =>
      simp only [isI] at h
      split at h
      · rename_i hh; exact hh
      · cases h
  | _ => trivial
theorem ctg_v {G : Hp} {v : V} {d : D} {u : Tg} (h : DV K G v d) (e : d.ctg = some u) : ClsV v (u.val K) := by
  cases h with
  | cls C => cases e; exact .own _
  | ty n =>
    simp only [D.ctg] at e
    split at e
    · cases e; rename_i h; subst h; exact .ty _
    split at e
    · cases e; rename_i h; subst h; exact .ty _
    split at e
    · cases e; rename_i h; subst h; exact .ty _
    split at e
    · cases e; rename_i h; subst h; exact .ty _
    split at e
    · cases e; rename_i h; subst h; exact .ty _
    split at e
    · cases e; rename_i h; subst h; exact .ty _
    · cases e
  | _ => cases e
def isAny (cs : List String) (sub : String → String → Bool) (t : Tg) : List D → Option Bool
  | [] => some false
  | d :: ds => match d.ctg with
    | some u => match isI cs sub t u with
      | some true => some true
      | some false => isAny cs sub t ds
      | none => none
    | none => none
def bIsi (cs : List String) (sub : String → String → Bool) : ON := fun xs S P => match xs with
  | [x, .d c] => match x.tg S, c.ctg with
    | some t, some u => match isI cs sub t u with
      | some b => P (.d (.bl b)) S
      | none => False
    | _, _ => False
  | _ => False
theorem ctgs_v {G : Hp} : ∀ {vs : List V} {ds : List D}, DVs K G vs ds → ds.all (fun d => d.ctg.isSome) = true → ∃ us, Paired ClsV vs us ∧ us = ds.map fun d => (d.ctg.getD .non).val K
  | _, _, .nil, _ => ⟨[], .nil, rfl⟩
  | _, d :: ds, .cons h r, e => by
    rw [List.all_cons, Bool.and_eq_true] at e
    obtain ⟨us, h1, h2⟩ := ctgs_v r e.2
    cases q : d.ctg with
    | none => rw [q] at e; exact absurd e.1 (by decide)
    | some u => exact ⟨_, .cons (ctg_v h q) h1, by rw [List.map_cons, q, h2]; rfl⟩
theorem kit_any {cs : List String} {sub : String → String → Bool} (T : IsiT K cs sub) {t : Tg} : ∀ {ds : List D} {b : Bool}, isAny cs sub t ds = some b → PySem.W.kitAny K (t.val K) (ds.map fun d => (d.ctg.getD .non).val K) = some b
  | [], b, h => by cases h; exact kitAny_nil
  | d :: ds, b, h => by
    rw [isAny] at h
    cases q : d.ctg with
    | none => rw [q] at h; cases h
    | some u =>
      rw [q] at h
      rw [List.map_cons, q]
      dsimp only at h
      cases q2 : isI cs sub t u with
      | none => rw [q2] at h; cases h
      | some c =>
        rw [q2] at h
        refine kitAny_cons (kit_isI T t u c q2) (fun e => ?_) (fun e => ?_)
        · subst e; exact kit_any T h
        · subst e; cases h; rfl
theorem oc_isi {cs : List String} {sub : String → String → Bool} (eK : X.K = K) (T : IsiT K cs sub) : OC X K F (.builtin "isinstance") (bIsi cs sub) := by
  subst eK
  refine ⟨_, call_isi, fun M S H xs vs P k a p Q q => ?_⟩
  unfold bIsi at p
  split at p
  · obtain ⟨v, z, rfl, a1, b1⟩ := a.two
    split at p
    · rename_i t u et eu
      split at p
      · rename_i r er
        exact ⟨v, z, _, _, r, rfl, ctg_v b1.to_d eu, a1.tyX T k.cell et (isI_in er), kit_isI T t u r er, q _ H _ S p (.refl k) (.d (.bl _))⟩
      · exact p.elim
    · exact p.elim
  · exact p.elim
def fIsiT (cs : List String) (sub : String → String → Bool) (x : W) (ws : List W) (S : Store) (P : W → Store → Prop) : Prop := match allD ws with
  | some ds => match x.tg S with
    | some t => match isAny cs sub t ds with
      | some b => Tg.inC cs t ∧ ds.all (fun d => d.ctg.isSome) = true ∧ P (.d (.bl b)) S
      | none => False
    | none => False
  | none => False
theorem isiT_ok {cs : List String} {sub : String → String → Bool} (T : IsiT K cs sub) {M : Hid} {S : Store} {H : Hp} {x : W} {ws : List W} {v : V} {vs : List V} {P : W → Store → Prop} {l : Addr} (k : Ok K F M S H) (hn : H l = none) (a : Wv K (gS M S H) v x) (b : Wvs K (gS M S H) vs ws) (p : fIsiT cs sub x ws S P)
    (Q : VK) (q : ∀ z H' w S', P w S' → St K F M S H S' H' → Wv K (gS M S' H') z w → Q z H') : rIsiT K [v, .ref l] (upd H l (.tup vs)) Q := by
  unfold fIsiT at p
  split at p
  · rename_i ds ed
    rw [allD_inv ed] at b
    split at p
    · rename_i t et
      split at p
      · rename_i r er
        obtain ⟨hc, hall, p⟩ := p
        obtain ⟨cs', c1, c2⟩ := ctgs_v b.ds hall
        have s : St K F M S H S (upd H l (.tup vs)) := .new k hn
        have kk := kit_any T er
        rw [← c2] at kk
        exact ⟨v, l, vs, _, cs', r, rfl, upd_same, c1, (a.mono s.sub).tyX T s.ok.cell et hc, kk, q _ _ _ S p s (.d (.bl _))⟩
      · exact p.elim
    · exact p.elim
  · exact p.elim
end DX

set_option Elab.async false
set_option linter.all false
set_option maxRecDepth 100000
namespace DX
open PySem L2

section
variable (X : Cx)
def tW (e : Expr) : TE := fun σ H Q => ∀ (pins : List (Addr × Obj)) (s : Shared), Inv X pins σ H s → wpAny (model X.prog X.w) X.A (eval e X.env) (EP X pins σ Q) X.xe s
def tWT (e : Expr) : TT := fun σ H Q => ∀ (pins : List (Addr × Obj)) (s : Shared), Inv X pins σ H s → wpAny (model X.prog X.w) X.A (isTrue e X.env (eval e X.env)) (TP X pins σ Q) X.xe s
def tWW (e : Expr) : TT := fun σ H Q => ∀ (whole : Sem Value) (pins : List (Addr × Obj)) (s : Shared), Inv X pins σ H s → wpAny (model X.prog X.w) X.A (isTrue e X.env whole) (TP X pins σ Q) X.xe s
def tWA (es : List Expr) : TA := fun σ H Q => ∀ (pos : Pos) (pins : List (Addr × Obj)) (s : Shared), Inv X pins σ H s → wpAny (model X.prog X.w) X.A (spliced (backTo pos (starEach es X.env))) (AP X pins σ Q) X.xe s
def tWS (st : Stmt) : TS := fun D σ H => ∀ (pins : List (Addr × Obj)) (s : Shared), Inv X pins σ H s → wpAny (model X.prog X.w) X.A (exec st X.env) (SP X pins D) X.xe s
def tWSs (st : List Stmt) : TS := fun D σ H => ∀ (pins : List (Addr × Obj)) (s : Shared), Inv X pins σ H s → wpAny (model X.prog X.w) X.A (execs st X.env) (SP X pins D) X.xe s
def tWG (tg : Expr) : TG := fun v σ H Q => ∀ (pins : List (Addr × Obj)) (s : Shared) (u : Value), Inv X pins σ H s → RelV v u → wpAny (model X.prog X.w) X.A (assign tg X.env u) (fun _ s' => ∃ σ' H', Inv X pins σ' H' s' ∧ Q σ' H') X.xe s
def tWGs (ts : List Expr) : TGs := fun vs σ H Q => ∀ (pins : List (Addr × Obj)) (s : Shared) (us : List Value), Inv X pins σ H s → Vals vs us → wpAny (model X.prog X.w) X.A (assignInOrder ((assignEach ts X.env).map (·.2)) us) (fun _ s' => ∃ σ' H', Inv X pins σ' H' s' ∧ Q σ' H') X.xe s
end
section
variable {X : Cx} {e : Expr} {es : List Expr} {st : Stmt} {sts : List Stmt}
theorem pe : PE X e (tW X e) := ⟨fun pins s σ H Q I h => h pins s I⟩
theorem pt : PT X e (tWT X e) := ⟨fun pins s σ H Q I h => h pins s I⟩
theorem pw : PW X e (tWW X e) := ⟨fun wh pins s σ H Q I h => h wh pins s I⟩
theorem pa : PA X es (tWA X es) := ⟨fun pos pins s σ H Q I h => h pos pins s I⟩
theorem ps : PS X st (tWS X st) := ⟨fun pins s σ H D I h => h pins s I⟩
theorem pss : PSs X sts (tWSs X sts) := ⟨fun pins s σ H D I h => h pins s I⟩
theorem pg : PG X e (tWG X e) := ⟨fun pins s σ H v u Q I r h => h pins s u I r⟩
theorem pgs : PGs X es (tWGs X es) := ⟨fun pins s σ H v u Q I r h => h pins s u I r⟩
end
section
variable (X : Cx) (K : PySem.W.Frag) (F : Fr)
def JE (e : Expr) (m : EM) : Prop := ∀ δ S P, m δ S P (fun x T => F.X x δ T) → WE K F (tW X e) δ S P
def JT (e : Expr) (m : TM) : Prop := ∀ δ S P, m δ S P (fun x T => F.X x δ T) → WT K F (tWT X e) δ S P
def JW (e : Expr) (m : TM) : Prop := ∀ δ S P, m δ S P (fun x T => F.X x δ T) → WT K F (tWW X e) δ S P
def JA (es : List Expr) (m : AM) : Prop := ∀ δ S P, m δ S P (fun x T => F.X x δ T) → WA K F (tWA X es) δ S P
end
section
variable {X : Cx} {K : PySem.W.Frag} {F : Fr} {S : Store} {δ : Slots} {a b c e : Expr} {es rest : List Expr} {ma mb mc m : EM} {pos : Pos}
theorem WE.imp {te : TE} {P P' : W → Store → Prop} (h : WE K F te δ S P) (i : ∀ w T, P w T → P' w T) : WE K F te δ S P' := fun M σ H k x Q q => h M σ H k x Q fun v H' w S' p => q v H' w S' (i w S' p)
theorem WT.imp {te : TT} {P P' : Bool → Store → Prop} (h : WT K F te δ S P) (i : ∀ w T, P w T → P' w T) : WT K F te δ S P' := fun M σ H k x Q q => h M σ H k x Q fun v H' S' p => q v H' S' (i v S' p)
theorem WA.imp {te : TA} {P P' : List W → Store → Prop} (h : WA K F te δ S P) (i : ∀ w T, P w T → P' w T) : WA K F te δ S P' := fun M σ H k x Q q => h M σ H k x Q fun v H' w S' p => q v H' w S' (i w S' p)
theorem JE.of {t : TE} (h : PE X e t) (w : ∀ δ S P, m δ S P (fun x T => F.X x δ T) → WE K F t δ S P) : JE X K F e m := fun δ S P q M σ H k x Q c pins s I => h.run pins s σ H Q I (w δ S P q M σ H k x Q c)
theorem JT.of {t : TT} {m : TM} (h : PT X e t) (w : ∀ δ S P, m δ S P (fun x T => F.X x δ T) → WT K F t δ S P) : JT X K F e m := fun δ S P q M σ H k x Q c pins s I => h.run pins s σ H Q I (w δ S P q M σ H k x Q c)
theorem JW.of {t : TT} {m : TM} (h : PW X e t) (w : ∀ δ S P, m δ S P (fun x T => F.X x δ T) → WT K F t δ S P) : JW X K F e m := fun δ S P q M σ H k x Q c wh pins s I => h.run wh pins s σ H Q I (w δ S P q M σ H k x Q c)
theorem JA.of {t : TA} {m : AM} (h : PA X es t) (w : ∀ δ S P, m δ S P (fun x T => F.X x δ T) → WA K F t δ S P) : JA X K F es m := fun δ S P q M σ H k x Q c ps pins s I => h.run ps pins s σ H Q I (w δ S P q M σ H k x Q c)

def mC (d : D) : EM := fun δ S P X => P (.d d) S
def mVar (i : Nat) : EM := fun δ S P X => match δ[i]? with
  | some (some w) => P w S
  | _ => False
theorem we_c {v : V} {d : D} {P : W → Store → Prop} (hv : ∀ G, DV K G v d) (q : P (.d d) S) : WE K F (tC v) δ S P := fun M σ H k x Q c => c v H _ S q (.refl k) (.d (hv _))
theorem je_var (i : Nat) (h : PE X e (tVar i)) : JE X K F e (mVar i) := .of h fun δ S P q M σ H k x Q c => by
  unfold mVar at q
  split at q
  · rename_i w ew
    obtain ⟨v, h1, h2⟩ := x.at_ i w ew
    exact ⟨v, h1, c v H w S q (.refl k) h2⟩
  · exact q.elim
theorem je_int {i : Int} {j p} : JE X K F (.Constant (.int i) j p) (mC (.int i)) := .of pe_int fun δ S P q => we_c (fun _ => .int i) q
theorem je_bl {i : Bool} {j p} : JE X K F (.Constant (.bool i) j p) (mC (.bl i)) := .of pe_bl fun δ S P q => we_c (fun _ => .bl i) q
theorem je_non {j p} : JE X K F (.Constant .none j p) (mC .non) := .of pe_non fun δ S P q => we_c (fun _ => .non) q
theorem je_str {i : Str} {j p} : JE X K F (.Constant (.str i) j p) (mC (.str i)) := .of pe_str fun δ S P q => we_c (fun _ => .str i) q
theorem je_con {v : V} {d : D} (h : PE X e (tC v)) (hv : ∀ G, DV K G v d) : JE X K F e (mC d) := .of h fun δ S P q => we_c hv q

def mOp (o : O2) (ma mb : EM) : EM := fun δ S P X => ma δ S (fun x S1 => mb δ S1 (fun y S2 => o x y S2 P) X) X
def mUn (o : O1) (ma : EM) : EM := fun δ S P X => ma δ S (fun x S1 => o x S1 P) X
theorem we_op {r : R2} {o : O2} {ta tb : TE} {P : W → Store → Prop} (hr : RO2 K F r o) (h : WE K F ta δ S fun x S1 => WE K F tb δ S1 fun y S2 => o x y S2 P) : WE K F (tOp r ta tb) δ S P := fun M σ H k x Q c =>
  h M σ H k x _ fun v H1 w1 S1 p1 s1 v1 => p1 M σ H1 s1.ok (s1.slots x) _ fun u H2 w2 S2 p2 s2 v2 => hr M S2 H2 w1 w2 v u P s2.ok (v1.mono s2.sub) v2 p2 Q fun z H3 w3 S3 p3 s3 v3 => c z H3 w3 S3 p3 ((s1.trans s2).trans s3) v3
theorem je_op {op : Operator} {o : O2} (ho : OB X K F (binaryOp op) o) (ja : JE X K F a ma) (jb : JE X K F b mb) : JE X K F (.BinOp a op b pos) (mOp o ma mb) := by
  obtain ⟨r, h1, h2⟩ := ho
  exact .of (pe_op h1 pe pe) fun δ S P q => we_op h2 ((ja δ S _ q).imp fun w T q => jb δ T _ q)
theorem je_cmp {op : CmpOp} {o : O2} (ho : OB X K F (compareOp op) o) (hm : behindInMarks op b = false) (ja : JE X K F a ma) (jb : JE X K F b mb) : JE X K F (.Compare a [op] [b] pos) (mOp o ma mb) := by
  obtain ⟨r, h1, h2⟩ := ho
  exact .of (pe_cmpR h1 pe pe hm) fun δ S P q => we_op h2 ((ja δ S _ q).imp fun w T q => jb δ T _ q)
def mChain (o o' : O2) (ma mb mc : EM) : EM := fun δ S P X => ma δ S (fun x S1 => mb δ S1 (fun y S2 => o x y S2 fun z S3 => match z with
  | .d (.bl true) => mc δ S3 (fun w S4 => o' y w S4 P) X
  | .d (.bl false) => P (.d (.bl false)) S3
  | _ => False) X) X
theorem je_chain {op op' : CmpOp} {o o' : O2} (ho : OB X K F (compareOp op) o) (ho' : OB X K F (compareOp op') o') (ja : JE X K F a ma) (jb : JE X K F b mb) (jc : JE X K F c mc)
    (h : ∀ {r r' : R2}, OpR X (compareOp op) r → OpR X (compareOp op') r' → PE X e (tChain r r' (tW X a) (tW X b) (tW X c))) : JE X K F e (mChain o o' ma mb mc) := by
  obtain ⟨r, h1, h2⟩ := ho
  obtain ⟨r', h3, h4⟩ := ho'
  refine .of (h h1 h3) fun δ S P q M σ H k x Q c => ?_
  refine ja δ S _ q M σ H k x _ fun v H1 w1 S1 p1 s1 v1 => jb δ S1 _ p1 M σ H1 s1.ok (s1.slots x) _ fun u H2 w2 S2 p2 s2 v2 => h2 M S2 H2 w1 w2 v u _ s2.ok (v1.mono s2.sub) v2 p2 _ fun z H3 w3 S3 p3 s3 v3 => ?_
  have st := (s1.trans s2).trans s3
  cases w3 with
  | d d =>
    cases d with
    | bl t =>
      cases v3.to_d.to_bl
      refine ⟨t, rfl, ?_⟩
      cases t with
      | true =>
        exact jc δ S3 _ p3 M σ H3 s3.ok (st.slots x) _ fun y H4 w4 S4 p4 s4 v4 => h4 M S4 H4 w2 w4 u y P s4.ok (v2.mono (s3.sub.trans s4.sub)) v4 p4 Q fun z H5 w5 S5 p5 s5 v5 => c z H5 w5 S5 p5 ((st.trans s4).trans s5) v5
      | false => exact c _ H3 _ S3 p3 st (.d (.bl _))
    | _ => exact p3.elim
  | _ => exact p3.elim

def truW (S : Store) (w : W) : Option Bool := match w with
  | .d .non => some false
  | .d (.bl b) => some b
  | .d (.int i) => some (i != 0)
  | .d (.str s) => if s.length ≤ 100000 then some ((s.length : Int) != 0) else none
  | w => match seqW S w with
    | some ws => some (!ws.isEmpty)
    | none => match w with
      | .ref a => match S a with
        | some (.dct l) => some (!l.isEmpty)
        | _ => none
      | _ => none
theorem Wvs.isEmpty {G : Hp} {vs : List V} {ws : List W} (h : Wvs K G vs ws) : vs.isEmpty = ws.isEmpty := by cases h <;> rfl
theorem DVk.isEmpty {G : Hp} {vs : List (Key × V)} {ws : List (Key × D)} (h : DVk K G vs ws) : vs.isEmpty = ws.isEmpty := by cases h <;> rfl
theorem Wvk.isEmpty {G : Hp} {vs : List (Key × V)} {ws : List (Key × W)} (h : Wvk K G vs ws) : vs.isEmpty = ws.isEmpty := by cases h <;> rfl
theorem truW_ok {M : Hid} {H : Hp} (k : OkC K M S H) {v : V} {w : W} {b : Bool} (h : Wv K (gS M S H) v w) (e : truW S w = some b) : TruV K v H b := by
  unfold truW at e
  split at e
  · cases h.to_d.to_non; cases e; rfl
  · cases h.to_d.to_bl; cases e; rfl
  · cases h.to_d.to_int; cases e; rfl
  · cases h.to_d.to_str
    split at e
    · rename_i hl
      cases e
      exact ⟨Nat.le_trans hl (by decide), rfl⟩
    · cases e
  · split at e
    · rename_i ws es
      cases e
      obtain ⟨a, vs, rfl, h1, h2⟩ := seqW_ok k h es
      rcases h1 with h1 | h1
      · exact .inl ⟨vs, h1, by rw [h2.isEmpty]⟩
      · exact .inr (.inl ⟨vs, h1, by rw [h2.isEmpty]⟩)
    · split at e
      · rename_i a0 hq
        split at e
        · rename_i l el
          cases e
          cases h.to_ref
          cases k _ _ el with
          | dct h1 h2 => exact .inr (.inr ⟨_, h1, by rw [h2.isEmpty]⟩)
        · cases e
      · cases e
def mTru (ma : EM) : TM := fun δ S P X => ma δ S (fun w S1 => match truW S1 w with
  | some b => P b S1
  | none => False) X
theorem jt_tru (ja : JE X K F a ma) (eK : X.K = K) (he : ∀ whole, isTrue a X.env whole = (do let v ← whole; standAt a.pos; holding [v] (truthy v))) : JT X K F a (mTru ma) := by
  subst eK
  refine .of (pt_truth pe he) fun δ S P q M σ H k x Q c => ja δ S _ q M σ H k x _ fun v H1 w1 S1 p1 s1 v1 => ?_
  split at p1
  · rename_i b eb
    exact ⟨b, truW_ok s1.ok.cell v1 eb, c b H1 S1 p1 s1⟩
  · exact p1.elim
def mBl (ma : EM) : TM := fun δ S P X => ma δ S (fun w S1 => match w with
  | .d (.bl b) => P b S1
  | _ => False) X
theorem wt_bl {te : TE} {P : Bool → Store → Prop} (h : WE K F te δ S fun w S1 => match w with
  | .d (.bl b) => P b S1
  | _ => False) : WT K F (tTest te) δ S P := fun M σ H k x Q c => h M σ H k x _ fun v H1 w1 S1 p1 s1 v1 => by
  dsimp only at p1
  split at p1
  · cases v1.to_d.to_bl
    exact ⟨_, rfl, c _ H1 S1 p1 s1⟩
  · exact p1.elim
theorem jt_cmp {op : CmpOp} {o : O2} (ho : OB X K F (compareOp op) o) (hm : behindInMarks op b = false) (ja : JE X K F a ma) (jb : JE X K F b mb) : JT X K F (.Compare a [op] [b] pos) (mBl (mOp o ma mb)) := by
  obtain ⟨r, h1, h2⟩ := ho
  exact .of (pt_cmpR h1 pe pe hm) fun δ S P q => wt_bl (we_op h2 ((ja δ S _ q).imp fun w T q => jb δ T _ q))
theorem jt_chain {op op' : CmpOp} {o o' : O2} (ho : OB X K F (compareOp op) o) (ho' : OB X K F (compareOp op') o') (ja : JE X K F a ma) (jb : JE X K F b mb) (jc : JE X K F c mc)
    (h : ∀ {r r' : R2}, OpR X (compareOp op) r → OpR X (compareOp op') r' → PT X e (tTest (tChain r r' (tW X a) (tW X b) (tW X c)))) : JT X K F e (mBl (mChain o o' ma mb mc)) := by
  obtain ⟨r, h1, h2⟩ := ho
  obtain ⟨r', h3, h4⟩ := ho'
  refine .of (h h1 h3) fun δ S P q => wt_bl fun M σ H k x Q c => ?_
  refine ja δ S _ q M σ H k x _ fun v H1 w1 S1 p1 s1 v1 => jb δ S1 _ p1 M σ H1 s1.ok (s1.slots x) _ fun u H2 w2 S2 p2 s2 v2 => h2 M S2 H2 w1 w2 v u _ s2.ok (v1.mono s2.sub) v2 p2 _ fun z H3 w3 S3 p3 s3 v3 => ?_
  have st := (s1.trans s2).trans s3
  cases w3 with
  | d d =>
    cases d with
    | bl t =>
      cases v3.to_d.to_bl
      refine ⟨t, rfl, ?_⟩
      cases t with
      | true =>
        exact jc δ S3 _ p3 M σ H3 s3.ok (st.slots x) _ fun y H4 w4 S4 p4 s4 v4 => h4 M S4 H4 w2 w4 u y _ s4.ok (v2.mono (s3.sub.trans s4.sub)) v4 p4 Q fun z H5 w5 S5 p5 s5 v5 => c z H5 w5 S5 p5 ((st.trans s4).trans s5) v5
      | false => exact c _ H3 _ S3 p3 st (.d (.bl _))
    | _ => exact p3.elim
  | _ => exact p3.elim
def mAnd (t u : TM) : TM := fun δ S P X => t δ S (fun b S1 => if b = true then u δ S1 P X else P false S1) X
def mOr (t u : TM) : TM := fun δ S P X => t δ S (fun b S1 => if b = true then P true S1 else u δ S1 P X) X
def mNot (t : TM) : TM := fun δ S P X => t δ S (fun b S1 => P (!b) S1) X
theorem jw_and1 {t : TM} (h : JT X K F a t) : JW X K F (.BoolOp .And [a] pos) t := .of (pw_and1 pt) fun δ S P q => h δ S P q
theorem jw_or1 {t : TM} (h : JT X K F a t) : JW X K F (.BoolOp .Or [a] pos) t := .of (pw_or1 pt) fun δ S P q => h δ S P q
theorem jw_and {t u : TM} (h : JT X K F a t) (g : JW X K F (.BoolOp .And (b :: rest) pos) u) : JW X K F (.BoolOp .And (a :: b :: rest) pos) (mAnd t u) := .of (pw_and pt pw) fun δ S P q M σ H k x Q c =>
  h δ S _ q M σ H k x _ fun t H1 S1 p1 s1 => by
    cases t with
    | true => exact g δ S1 P p1 M σ H1 s1.ok (s1.slots x) Q fun t H2 S2 p2 s2 => c t H2 S2 p2 (s1.trans s2)
    | false => exact c false H1 S1 p1 s1
theorem jw_or {t u : TM} (h : JT X K F a t) (g : JW X K F (.BoolOp .Or (b :: rest) pos) u) : JW X K F (.BoolOp .Or (a :: b :: rest) pos) (mOr t u) := .of (pw_or pt pw) fun δ S P q M σ H k x Q c =>
  h δ S _ q M σ H k x _ fun t H1 S1 p1 s1 => by
    cases t with
    | false => exact g δ S1 P p1 M σ H1 s1.ok (s1.slots x) Q fun t H2 S2 p2 s2 => c t H2 S2 p2 (s1.trans s2)
    | true => exact c true H1 S1 p1 s1
theorem JW.jt {t : TM} (h : JW X K F a t) : JT X K F a t := .of pw.pt fun δ S P q => h δ S P q
theorem jt_not {t : TM} (h : JT X K F a t) : JT X K F (.UnaryOp .Not a pos) (mNot t) := .of (pt_not pt) fun δ S P q M σ H k x Q c => h δ S _ q M σ H k x _ fun t H1 S1 p1 s1 => c _ H1 S1 p1 s1
def mAndV (ma mb : EM) : EM := fun δ S P X => ma δ S (fun w S1 => match truW S1 w with
  | some true => mb δ S1 P X
  | some false => P w S1
  | none => False) X
def mOrV (ma mb : EM) : EM := fun δ S P X => ma δ S (fun w S1 => match truW S1 w with
  | some true => P w S1
  | some false => mb δ S1 P X
  | none => False) X
def mNotV (ma : EM) : EM := fun δ S P X => ma δ S (fun w S1 => match truW S1 w with
  | some b => P (.d (.bl (!b))) S1
  | none => False) X
theorem je_one {op} (h : JE X K F a m) : JE X K F (.BoolOp op [a] pos) m := .of (pe_one pe) fun δ S P q => h δ S P q
theorem je_and (eK : X.K = K) (ja : JE X K F a ma) (jb : JE X K F (.BoolOp .And (b :: rest) pos) mb) : JE X K F (.BoolOp .And (a :: b :: rest) pos) (mAndV ma mb) := by
  subst eK
  refine .of (pe_andT pe pe) fun δ S P q M σ H k x Q c => ja δ S _ q M σ H k x _ fun v H1 w1 S1 p1 s1 v1 => ?_
  split at p1
  · rename_i eb
    exact ⟨true, truW_ok s1.ok.cell v1 eb, jb δ S1 P p1 M σ H1 s1.ok (s1.slots x) Q fun z H2 w2 S2 p2 s2 v2 => c z H2 w2 S2 p2 (s1.trans s2) v2⟩
  · rename_i eb
    exact ⟨false, truW_ok s1.ok.cell v1 eb, c v H1 w1 S1 p1 s1 v1⟩
  · exact p1.elim
theorem je_or (eK : X.K = K) (ja : JE X K F a ma) (jb : JE X K F (.BoolOp .Or (b :: rest) pos) mb) : JE X K F (.BoolOp .Or (a :: b :: rest) pos) (mOrV ma mb) := by
  subst eK
  refine .of (pe_orT pe pe) fun δ S P q M σ H k x Q c => ja δ S _ q M σ H k x _ fun v H1 w1 S1 p1 s1 v1 => ?_
  split at p1
  · rename_i eb
    exact ⟨true, truW_ok s1.ok.cell v1 eb, c v H1 w1 S1 p1 s1 v1⟩
  · rename_i eb
    exact ⟨false, truW_ok s1.ok.cell v1 eb, jb δ S1 P p1 M σ H1 s1.ok (s1.slots x) Q fun z H2 w2 S2 p2 s2 v2 => c z H2 w2 S2 p2 (s1.trans s2) v2⟩
  · exact p1.elim
def mIf (t : TM) (ma mb : EM) : EM := fun δ S P X => t δ S (fun b S1 => if b = true then ma δ S1 P X else mb δ S1 P X) X
theorem je_if {t : TM} (jt : JT X K F c t) (ja : JE X K F a ma) (jb : JE X K F b mb) : JE X K F (.IfExp c a b pos) (mIf t ma mb) := .of (pe_ifExp pt pe pe) fun δ S P q M σ H k x Q cc =>
  jt δ S _ q M σ H k x _ fun t H1 S1 p1 s1 => by
    cases t with
    | true => exact ja δ S1 P p1 M σ H1 s1.ok (s1.slots x) Q fun z H2 w2 S2 p2 s2 v2 => cc z H2 w2 S2 p2 (s1.trans s2) v2
    | false => exact jb δ S1 P p1 M σ H1 s1.ok (s1.slots x) Q fun z H2 w2 S2 p2 s2 v2 => cc z H2 w2 S2 p2 (s1.trans s2) v2

def aNil : AM := fun δ S P X => P [] S
def aCons (ma : EM) (mr : AM) : AM := fun δ S P X => ma δ S (fun w S1 => mr δ S1 (fun ws S2 => P (w :: ws) S2) X) X
def aStar (ma : EM) (mr : AM) : AM := fun δ S P X => ma δ S (fun w S1 => match seqW S1 w with
  | some us => mr δ S1 (fun ws S2 => P (us ++ ws) S2) X
  | none => False) X
theorem ja_nil : JA X K F [] aNil := .of pa_nil fun δ S P q M σ H k x Q c => c [] H [] S q (.refl k) .nil
theorem ja_cons {mr : AM} (ja : JE X K F e m) (jr : JA X K F es mr) (hs : starEach (e :: es) X.env = (false, eval e X.env) :: starEach es X.env := by rfl) : JA X K F (e :: es) (aCons m mr) := .of (pa_cons pe pa hs) fun δ S P q M σ H k x Q c =>
  ja δ S _ q M σ H k x _ fun v H1 w1 S1 p1 s1 v1 => jr δ S1 _ p1 M σ H1 s1.ok (s1.slots x) _ fun vs H2 ws S2 p2 s2 v2 => c (v :: vs) H2 (w1 :: ws) S2 p2 (s1.trans s2) (.cons (v1.mono s2.sub) v2)
theorem ja_star {mr : AM} (eK : X.K = K) (ja : JE X K F e m) (jr : JA X K F es mr) (hs : starEach (.Starred e pos :: es) X.env = (true, eval e X.env) :: starEach es X.env := by rfl) : JA X K F (.Starred e pos :: es) (aStar m mr) := by
  subst eK
  refine .of (StX.pa_star pe pa hs) fun δ S P q M σ H k x Q c => ja δ S _ q M σ H k x _ fun v H1 w1 S1 p1 s1 v1 => ?_
  split at p1
  · rename_i us eu
    obtain ⟨l, vs, rfl, h1, h2⟩ := seqW_ok s1.ok.cell v1 eu
    exact ⟨l, vs, rfl, h1.symm, jr δ S1 _ p1 M σ H1 s1.ok (s1.slots x) _ fun zs H2 ws S2 p2 s2 v2 => c (vs ++ zs) H2 (us ++ ws) S2 p2 (s1.trans s2) ((h2.mono s2.sub).append v2)⟩
  · exact p1.elim

def mTup (ma : AM) : EM := fun δ S P X => ma δ S (fun ws S1 => ws.length ≤ 1000 ∧ P (mkT ws) S1) X
def mLst (c : Bool) (ma : AM) : EM := fun δ S P X => ma δ S (fun ws S1 => ws.length ≤ 1000 ∧ newLC c ws S1 P) X
theorem je_lst {ma : AM} {cc : Bool} (ja : JA X K F es ma) : JE X K F (.List es pos) (mLst cc ma) := .of (pe_lst pa) fun δ S P q M σ H kk x Q c =>
  ja δ S _ q M σ H kk x _ fun vs H1 ws S1 p1 s1 v1 => ⟨Nat.le_trans (by rw [v1.length]; exact p1.1) (by decide), fun n hn => new_lst s1.ok v1 hn p1.2 fun z H2 w S2 p2 s2 v2 => c z H2 w S2 p2 (s1.trans s2) v2⟩
def frzW : Nat → Store → W → Option (D × Store)
  | _, S, .d x => some (x, S)
  | 0, _, _ => none
  | n + 1, S, .ref a => match S a with
    | some (.lst ws) => (frzs (frzW n) (erS S a) ws).map fun p => (.lst p.1, p.2)
    | some (.obj C fs) => (frzf (frzW n) (erS S a) fs).map fun p => (.ins C p.1, p.2)
    | _ => none
  | n + 1, S, .tup ws => (frzs (frzW n) S ws).map fun p => (.tup p.1, p.2)
where
  frzs (f : Store → W → Option (D × Store)) (S : Store) : List W → Option (List D × Store)
    | [] => some ([], S)
    | w :: ws => match f S w with
      | some (d, S1) => (frzs f S1 ws).map fun p => (d :: p.1, p.2)
      | none => none
  frzf (f : Store → W → Option (D × Store)) (S : Store) : List (String × W) → Option (List (String × D) × Store)
    | [] => some ([], S)
    | (n, w) :: ws => match f S w with
      | some (d, S1) => (frzf f S1 ws).map fun p => ((n, d) :: p.1, p.2)
      | none => none
  frzk (f : Store → W → Option (D × Store)) (S : Store) : List (Key × W) → Option (List (Key × D) × Store)
    | [] => some ([], S)
    | (n, w) :: ws => match f S w with
      | some (d, S1) => (frzk f S1 ws).map fun p => ((n, d) :: p.1, p.2)
      | none => none
theorem noneLe {M : Hid} {S S' : Store} (hm : ∀ a, M a → S a = none) (h : ∀ a c, S' a = some c → S a = some c) : ∀ a, M a → S' a = none := fun a m => by
  cases q : S' a with
  | none => rfl
  | some c => have := h a c q; rw [hm a m] at this; cases this
def FrzOk (K : PySem.W.Frag) (M : Hid) (H : Hp) (f : Store → W → Option (D × Store)) : Prop := ∀ S w d S', f S w = some (d, S') → OkC K M S H → (∀ a, M a → S a = none) → (∀ a c, S' a = some c → S a = some c) ∧ ∀ S0 v, (∀ a c, S a = some c → S0 a = some c) → Wv K (gS M S0 H) v w → DV K (gS M S' H) v d
theorem frzs_ok {M : Hid} {H : Hp} {f : Store → W → Option (D × Store)} (hf : FrzOk K M H f) : ∀ (ws : List W) (S : Store) (ds : List D) (S' : Store), frzW.frzs f S ws = some (ds, S') → OkC K M S H → (∀ a, M a → S a = none) → (∀ a c, S' a = some c → S a = some c) ∧ ∀ S0 vs, (∀ a c, S a = some c → S0 a = some c) → Wvs K (gS M S0 H) vs ws → DVs K (gS M S' H) vs ds
  | [], S, ds, S', h, k, hm => by
    cases h
    exact ⟨fun _ _ h => h, fun S0 vs _ r => by cases r; exact .nil⟩
  | w :: ws, S, ds, S', h, k, hm => by
    rw [frzW.frzs] at h
    cases q : f S w with
    | none => rw [q] at h; cases h
    | some p =>
      obtain ⟨d, S1⟩ := p
      rw [q] at h
      dsimp only at h
      cases q2 : frzW.frzs f S1 ws with
      | none => rw [q2] at h; cases h
      | some p =>
        rw [q2] at h
        cases h
        obtain ⟨a1, a2⟩ := hf S w d S1 q k hm
        obtain ⟨b1, b2⟩ := frzs_ok hf ws S1 p.1 p.2 q2 (k.cut a1) (noneLe hm a1)
        refine ⟨fun a c h => a1 a c (b1 a c h), fun S0 vs h r => ?_⟩
        cases r with
        | cons r t => exact .cons ((a2 S0 _ h r).mono (sub_cut b1)) (b2 S0 _ (fun a c z => h a c (a1 a c z)) t)
theorem frzf_ok {M : Hid} {H : Hp} {f : Store → W → Option (D × Store)} (hf : FrzOk K M H f) : ∀ (ws : List (String × W)) (S : Store) (ds : List (String × D)) (S' : Store), frzW.frzf f S ws = some (ds, S') → OkC K M S H → (∀ a, M a → S a = none) → (∀ a c, S' a = some c → S a = some c) ∧ ∀ S0 vs, (∀ a c, S a = some c → S0 a = some c) → Wvf K (gS M S0 H) vs ws → DVf K (gS M S' H) vs ds
  | [], S, ds, S', h, k, hm => by
    cases h
    exact ⟨fun _ _ h => h, fun S0 vs _ r => by cases r; exact .nil⟩
  | (n, w) :: ws, S, ds, S', h, k, hm => by
    rw [frzW.frzf] at h
    cases q : f S w with
    | none => rw [q] at h; cases h
    | some p =>
      obtain ⟨d, S1⟩ := p
      rw [q] at h
      dsimp only at h
      cases q2 : frzW.frzf f S1 ws with
      | none => rw [q2] at h; cases h
      | some p =>
        rw [q2] at h
        cases h
        obtain ⟨a1, a2⟩ := hf S w d S1 q k hm
        obtain ⟨b1, b2⟩ := frzf_ok hf ws S1 p.1 p.2 q2 (k.cut a1) (noneLe hm a1)
        refine ⟨fun a c h => a1 a c (b1 a c h), fun S0 vs h r => ?_⟩
        cases r with
        | cons r t => exact .cons ((a2 S0 _ h r).mono (sub_cut b1)) (b2 S0 _ (fun a c z => h a c (a1 a c z)) t)
theorem frz_ok {M : Hid} {H : Hp} : ∀ n, FrzOk K M H (frzW n) := by
  intro n
  induction n with
  | zero =>
    intro S w d S' h k hm
    cases w with
    | d x => cases h; exact ⟨fun _ _ h => h, fun S0 v hs r => r.to_d.mono (sub_cut hs)⟩
    | ref a => cases h
    | tup l => cases h
  | succ n ih =>
    intro S w d S' h k hm
    cases w with
    | d x => cases h; exact ⟨fun _ _ h => h, fun S0 v hs r => r.to_d.mono (sub_cut hs)⟩
    | tup l =>
      rw [frzW] at h
      cases q : frzW.frzs (frzW n) S l with
      | none => rw [q] at h; cases h
      | some p =>
        rw [q] at h
        cases h
        obtain ⟨a1, a2⟩ := frzs_ok ih l S p.1 p.2 q k hm
        refine ⟨a1, fun S0 v hs r => ?_⟩
        obtain ⟨a, vs, rfl, h1, h2⟩ := r.to_tup
        exact .tup (((sub_cut hs).trans (sub_cut a1)).t h1) (a2 S0 vs hs h2)
    | ref a =>
      rw [frzW] at h
      cases q : S a with
      | none => rw [q] at h; cases h
      | some c =>
        rw [q] at h
        have there : ∀ {S1 : Store} {o : HO}, (∀ b c, S1 b = some c → erS S a b = some c) → H a = some o → NoT o → gS M S1 H a = some o := fun {S1 o} hle ho hn => gS_some.mpr ⟨(fun m => by rw [hm a m] at q; cases q), (by
          cases z : S1 a with
          | none => rfl
          | some c => have := hle a c z; rw [erS_same] at this; cases this), ho, hn⟩
        cases k a c q with
        | lst h1 h2 =>
          dsimp only at h
          rename_i vs ws
          cases q2 : frzW.frzs (frzW n) (erS S a) ws with
          | none => rw [q2] at h; cases h
          | some p =>
            rw [q2] at h
            cases h
            obtain ⟨a1, a2⟩ := frzs_ok ih ws _ p.1 p.2 q2 (k.cut er_le) (noneLe hm er_le)
            refine ⟨fun b c z => er_le b c (a1 b c z), fun S0 v hs r => ?_⟩
            cases r.to_ref
            exact .lst (there a1 h1 (fun ps z => by cases z)) (a2 S vs er_le h2)
        | obj h1 h2 =>
          dsimp only at h
          rename_i C dx vs ws
          cases q2 : frzW.frzf (frzW n) (erS S a) ws with
          | none => rw [q2] at h; cases h
          | some p =>
            rw [q2] at h
            cases h
            obtain ⟨a1, a2⟩ := frzf_ok ih ws _ p.1 p.2 q2 (k.cut er_le) (noneLe hm er_le)
            refine ⟨fun b c z => er_le b c (a1 b c z), fun S0 v hs r => ?_⟩
            cases r.to_ref
            exact .ins (there a1 h1 (fun ps z => by cases z)) (a2 S vs er_le h2)
        | dct h1 h2 => cases h
        | dctT h1 h2 => cases h
        | lk h1 h2 => cases h
def mFrz (ma : EM) : EM := fun δ S P X => ma δ S (fun w S1 => match frzW 4 S1 w with
  | some (d, S2) => P (.d d) S2
  | none => False) X
theorem je_frz (ja : JE X K F a ma) : JE X K F a (mFrz ma) := fun δ S P q M σ H k x Q c => ja δ S _ q M σ H k x Q fun v H1 w S1 p1 s1 v1 => by
  split at p1
  · rename_i d S2 e
    obtain ⟨a1, a2⟩ := frz_ok 4 S1 w d S2 e s1.ok.cell fun a m => (s1.ok.hid a m).1
    exact c v H1 _ S2 p1 (s1.trans (.cut s1.ok a1)) (.d (a2 S1 v (fun _ _ h => h) v1))
  · exact p1.elim

theorem je_ix (eK : X.K = K) (ja : JE X K F a ma) (jb : JE X K F b mb) (hs : PlainIx b) : JE X K F (.Subscript a b pos) (mOp oIx ma mb) := by
  subst eK
  exact .of (pe_ix ix_seq pe pe hs) fun δ S P q => we_op ro_ix ((ja δ S _ q).imp fun w T q => jb δ T _ q)
abbrev PM := Slots → Store → (Option Int → Store → Prop) → XP → Prop
def pNo : PM := fun δ S P X => P none S
def pAt (ma : EM) : PM := fun δ S P X => ma δ S (fun w S1 => match w with
  | .d (.int i) => P (some i) S1
  | _ => False) X
def JP (X : Cx) (K : PySem.W.Frag) (F : Fr) (o : Option Expr) (m : PM) : Prop := ∃ t, PO X o t ∧ ∀ δ S P, m δ S P (fun x T => F.X x δ T) → ∀ (M : Hid) (σ : L2.St) (H : Hp), Ok K F M S H → SlotsOk K M S H σ δ → ∀ Q : Option Int → Hp → Prop, (∀ i H' S', P i S' → St K F M S H S' H' → Q i H') → t σ H Q
theorem jp_no : JP X K F none pNo := ⟨_, po_none, fun δ S P q M σ H k x Q c => c none H S q (.refl k)⟩
theorem jp_at (ja : JE X K F a ma) : JP X K F (some a) (pAt ma) := ⟨_, po_some pe, fun δ S P q M σ H k x Q c => ja δ S _ q M σ H k x _ fun v H1 w S1 p1 s1 v1 => by
  split at p1
  · cases v1.to_d.to_int
    exact ⟨_, rfl, c _ H1 S1 p1 s1⟩
  · exact p1.elim⟩
def mSl (o : OS) (ma : EM) (lo hi : PM) : EM := fun δ S P X => ma δ S (fun w S1 => lo δ S1 (fun l S2 => hi δ S2 (fun h S3 => o w l h S3 P) X) X) X
theorem je_sl {lo hi : Option Expr} {ml mh : PM} {p2 : Pos} {cc : Bool} (eK : X.K = K) (ja : JE X K F a ma) (jl : JP X K F lo ml) (jh : JP X K F hi mh) : JE X K F (.Subscript a (.Slice lo hi none p2) pos) (mSl (oSl cc) ma ml mh) := by
  obtain ⟨tl, l1, l2⟩ := jl
  obtain ⟨th, h1, h2⟩ := jh
  exact .of (pe_slice (sl_A eK) pe l1 h1) fun δ S P q M σ H k x Q c => ja δ S _ q M σ H k x _ fun v H1 w S1 p1 s1 v1 => l2 δ S1 _ p1 M σ H1 s1.ok (s1.slots x) _ fun i H2 S2 p2 s2 => h2 δ S2 _ p2 M σ H2 s2.ok ((s1.trans s2).slots x) _ fun j H3 S3 p3 s3 =>
    ro_sl M S3 H3 w i j v P s3.ok (v1.mono (s2.sub.trans s3.sub)) p3 Q fun z H4 w4 S4 p4 s4 v4 => c z H4 w4 S4 p4 (((s1.trans s2).trans s3).trans s4) v4

def mCB (o : ON) (ma : AM) : EM := fun δ S P X => ma δ S (fun ws S1 => o ws S1 P) X
theorem we_cb {r : List V → Hp → VK → Prop} {o : ON} {ta : TA} {P : W → Store → Prop} (hr : RON K F r o) (h : WA K F ta δ S fun ws S1 => o ws S1 P) : WE K F (tCB r ta) δ S P := fun M σ H k x Q c =>
  h M σ H k x _ fun vs H1 ws S1 p1 s1 v1 => hr M S1 H1 ws vs P s1.ok v1 p1 Q fun z H3 w3 S3 p3 s3 v3 => c z H3 w3 S3 p3 (s1.trans s3) v3
theorem je_cb {f : Value} {o : ON} {mr : AM} (ho : OC X K F f o) (ja : JA X K F es mr) (h : ∀ {r : List V → Hp → VK → Prop}, CallR X f r → PE X e (tCB r (tWA X es))) : JE X K F e (mCB o mr) := by
  obtain ⟨r, h1, h2⟩ := ho
  exact .of (h h1) fun δ S P q => we_cb h2 (ja δ S _ q)
def mIsiT (cs : List String) (sub : String → String → Bool) (ma : EM) (mr : AM) : EM := fun δ S P X => ma δ S (fun w S1 => mr δ S1 (fun ws S2 => ws.length ≤ 1000 ∧ fIsiT cs sub w ws S2 P) X) X
theorem je_isiT {cs : List String} {sub : String → String → Bool} {mr : AM} {k : Nat} {p : Pos} (eK : X.K = K) (T : IsiT K cs sub) (ja : JE X K F a ma) (jr : JA X K F es mr)
    (h : ∀ {r : List V → Hp → VK → Prop} {ta : TA}, CallR X (.builtin "isinstance") r → PA X [a, .Tuple es k p] ta → PE X e (tCB r ta)) (h1 : starEach [a, .Tuple es k p] X.env = (false, eval a X.env) :: starEach [.Tuple es k p] X.env := by rfl)
    (h2 : starEach [.Tuple es k p] X.env = (false, eval (.Tuple es k p) X.env) :: starEach [] X.env := by rfl) : JE X K F e (mIsiT cs sub ma mr) := by
  subst eK
  refine .of (h call_isiT (pa_cons pe (pa_cons (pe_tup pa) pa_nil h2) h1)) fun δ S P q M σ H kk x Q c => ja δ S _ q M σ H kk x _ fun v H1 w S1 p1 s1 v1 => jr δ S1 _ p1 M σ H1 s1.ok (s1.slots x) _ fun vs H2 ws S2 p2 s2 v2 => ?_
  exact ⟨Nat.le_trans (by rw [v2.length]; exact p2.1) (by decide), fun n hn => isiT_ok T s2.ok hn (v1.mono s2.sub) v2 p2.2 Q fun z H3 w3 S3 p3 s3 v3 => c z H3 w3 S3 p3 ((s1.trans s2).trans s3) v3⟩
end
end DX

set_option Elab.async false
set_option linter.all false
set_option maxRecDepth 100000
namespace DX
open PySem PySem.Spec PyProof.Rows L2
variable {X : Cx} {K : PySem.W.Frag} {F : Fr} {M : Hid} {S : Store} {H : Hp} {σ : L2.St} {δ : Slots} {a b c e : Expr} {es : List Expr} {ma mb m : EM} {pos : Pos}

abbrev GM := W → Slots → Store → (Slots → Store → Prop) → XP → Prop
abbrev GsM := List W → Slots → Store → (Slots → Store → Prop) → XP → Prop
def WG (K : PySem.W.Frag) (F : Fr) (g : TG) (ts : List Nat) (w : W) (δ : Slots) (S : Store) (P : Slots → Store → Prop) : Prop := ∀ (M : Hid) (σ : L2.St) (H : Hp) (v : V), Ok K F M S H → SlotsOk K M S H σ δ → Wv K (gS M S H) v w → ∀ Q : L2.St → Hp → Prop,
  (∀ σ' H' δ' S', P δ' S' → St K F M S H S' H' → SlotsOk K M S' H' σ' δ' → σ'.length = σ.length → (∀ (j : Nat), j ∉ ts → σ'[j]? = σ[j]?) → Q σ' H') → g v σ H Q
def WGs (K : PySem.W.Frag) (F : Fr) (g : TGs) (ts : List Nat) (ws : List W) (δ : Slots) (S : Store) (P : Slots → Store → Prop) : Prop := ∀ (M : Hid) (σ : L2.St) (H : Hp) (vs : List V), Ok K F M S H → SlotsOk K M S H σ δ → Wvs K (gS M S H) vs ws → ∀ Q : L2.St → Hp → Prop,
  (∀ σ' H' δ' S', P δ' S' → St K F M S H S' H' → SlotsOk K M S' H' σ' δ' → σ'.length = σ.length → (∀ (j : Nat), j ∉ ts → σ'[j]? = σ[j]?) → Q σ' H') → g vs σ H Q
def JG (X : Cx) (K : PySem.W.Frag) (F : Fr) (tg : Expr) (ts : List Nat) (m : GM) : Prop := ∀ w δ S P, m w δ S P (fun x T => F.X x δ T) → WG K F (tWG X tg) ts w δ S P
def JGs (X : Cx) (K : PySem.W.Frag) (F : Fr) (tg : List Expr) (ts : List Nat) (m : GsM) : Prop := ∀ ws δ S P, m ws δ S P (fun x T => F.X x δ T) → WGs K F (tWGs X tg) ts ws δ S P
theorem JG.of {g : TG} {ts : List Nat} {m : GM} (h : PG X e g) (w : ∀ w δ S P, m w δ S P (fun x T => F.X x δ T) → WG K F g ts w δ S P) : JG X K F e ts m := fun u δ S P q M σ H v k x r Q c pins s z I rz => h.run pins s σ H v z Q I rz (w u δ S P q M σ H v k x r Q c)
theorem JGs.of {g : TGs} {ts : List Nat} {m : GsM} (h : PGs X es g) (w : ∀ w δ S P, m w δ S P (fun x T => F.X x δ T) → WGs K F g ts w δ S P) : JGs X K F es ts m := fun u δ S P q M σ H v k x r Q c pins s z I rz => h.run pins s σ H v z Q I rz (w u δ S P q M σ H v k x r Q c)
def tgN (i : Nat) : GM := fun w δ S P X => P (δ.set i (some w)) S
def tgsNil : GsM := fun ws δ S P X => match ws with
  | [] => P δ S
  | _ => False
def tgsCons (m : GM) (ms : GsM) : GsM := fun ws δ S P X => match ws with
  | w :: ws => m w δ S (fun δ1 S1 => ms ws δ1 S1 P X) X
  | [] => False
def tgT (n : Nat) (ms : GsM) : GM := fun w δ S P X => match tseq w with
  | some ws => ws.length = n ∧ ms ws δ S P X
  | none => False
theorem jg_name {i : Nat} (h : PG X e (gName i)) : JG X K F e [i] (tgN i) := .of h fun w δ S P q M σ H v k x r Q c =>
  c _ H _ S q (.refl k) (x.set r) (by simp) fun j hj => List.getElem?_set_ne fun z => hj (by simp [z])
theorem jgs_nil : JGs X K F [] [] tgsNil := .of pgs_nil fun ws δ S P q M σ H vs k x r Q c => by
  unfold tgsNil at q
  split at q
  · cases r
    exact ⟨rfl, c σ H δ S q (.refl k) x rfl fun _ _ => rfl⟩
  · exact q.elim
def QuietGs (m : GsM) : Prop := ∀ w δ S P X Y, m w δ S P X → m w δ S P Y
theorem quiet_nil : QuietGs tgsNil := fun _ _ _ _ _ _ h => h
theorem jgs_cons {m : GM} {ms : GsM} {ts us : List Nat} (hq : QuietGs ms) (jg : JG X K F e ts m) (js : JGs X K F es us ms) (hs : (assignEach (e :: es) X.env).map (·.2) = assign e X.env :: (assignEach es X.env).map (·.2) := by rfl) : JGs X K F (e :: es) (ts ++ us) (tgsCons m ms) := .of (pgs_cons pg pgs hs) fun ws δ S P q M σ H vs k x r Q c => by
  unfold tgsCons at q
  split at q
  · cases r with
    | cons r rr =>
      refine ⟨_, _, rfl, jg _ δ S _ q M σ H _ k x r _ fun σ1 H1 δ1 S1 p1 s1 x1 l1 f1 => js _ δ1 S1 P (hq _ _ _ _ _ _ p1) M σ1 H1 _ s1.ok x1 (rr.mono s1.sub) Q fun σ2 H2 δ2 S2 p2 s2 x2 l2 f2 => ?_⟩
      exact c σ2 H2 δ2 S2 p2 (s1.trans s2) x2 (l2.trans l1) fun j hj => (f2 j fun z => hj (List.mem_append_right _ z)).trans (f1 j fun z => hj (List.mem_append_left _ z))
  · exact q.elim
theorem jg_tup {ms : GsM} {ts : List Nat} {n k : Nat} (eK : X.K = K) (hc : X.calm = true) (js : JGs X K F es ts ms) (hn : (assignEach es X.env).length = n := by rfl) (hst : (assignEach es X.env).findIdx? (·.1) = none := by rfl) : JG X K F (.Tuple es k pos) ts (tgT n ms) := by
  subst eK
  refine .of (pg_tup hc pgs hn hst) fun w δ S P q M σ H v kk x r Q c => ?_
  unfold tgT at q
  split at q
  · rename_i ws e
    obtain ⟨a, xs, rfl, h1, h2⟩ := tseq_ok r e
    exact ⟨a, xs, rfl, gS_sub.t h1, h2.length.trans q.1, js ws δ S P q.2 M σ H xs kk x h2 Q c⟩
  · exact q.elim

abbrev IM := Slots → Store → (List W → (Store → Prop) → Store → Prop) → XP → Prop
def ItD (K : PySem.W.Frag) (F : Fr) (M : Hid) (J : It) (G1 : Hp) (ws : List W) (g : Store → Prop) : Prop := ∀ S H, Ok K F M S H → Sub G1 (gS M S H) → g S → ∀ i, (ws.length ≤ i → J.stop i H) ∧ ∀ w, ws[i]? = some w → J.go i H ∧ ∀ x H', J.yld i H x H' → St K F M S H S H' ∧ Wv K (gS M S H') x w
def WI (K : PySem.W.Frag) (F : Fr) (wi : TI) (δ : Slots) (S : Store) (P : List W → (Store → Prop) → Store → Prop) : Prop := ∀ (M : Hid) (σ : L2.St) (H : Hp), Ok K F M S H → SlotsOk K M S H σ δ → ∀ R : It → Hp → Prop,
  (∀ J H' ws g S', P ws g S' → St K F M S H S' H' → (∀ N, (∀ a, N a → ¬ M a → S' a = none ∧ gS M S' H' a = none) → (∀ a, M a → N a) → ItD K F N J (gS N S' H') ws g) → R J H') → wi σ H R
def JI (X : Cx) (K : PySem.W.Frag) (F : Fr) (tg it : Expr) (m : IM) : Prop := ∃ wi, PI X tg it wi ∧ ∀ δ S P, m δ S P (fun x T => F.X x δ T) → WI K F wi δ S P
abbrev allS : Store → Prop := fun _ => True
def iSeq (K : PySem.W.Frag) (tl : TE) : TI := fun σ H R => tl σ H fun x H1 => ∃ a, x = .ref a ∧ (((∃ xs, SqL K H1 a xs) ∧ R (Itl K a) H1) ∨ ((∃ xs, SqT K H1 a xs) ∧ R (Itt K a) H1))
theorem pi_seq {tg l : Expr} {tl : TE} (eK : X.K = K) (hl : PE X l tl) : PI X tg l (iSeq K tl) := by
  subst eK
  constructor
  intro pins s σ H R I h
  apply thn (hl.run pins s σ H _ I h)
  rintro v s1 ⟨x, H1, I1, r1, a, rfl, q⟩
  cases r1
  have new : ∀ {h' : Shared}, s1.heap.objs.size ∈ [s1.heap.objs.size] := by simp
  rcases q with ⟨⟨xs, hq⟩, q⟩ | ⟨⟨xs, hq⟩, q⟩
  · obtain ⟨its, rv, p, hz⟩ := I1.list hq
    apply wpAny_pyIter_list p.isList
    refine ⟨s1.heap.objs.size, [s1.heap.objs.size], _, Itl X.K a, H1, rfl, I1.kept (t' := s1.toks) (fun b o e => Heap.get?_push_of_some _ e), turn_list a _, ⟨_, Heap.get?_push_size _ rfl, rfl, rfl⟩, ?_, q⟩
    intro b hb
    rw [List.mem_singleton.mp hb]
    exact I1.fpOk (Nat.le_refl _) (I1.hok.fresh (Nat.le_refl _))
  · obtain ⟨its, rv, p, hz⟩ := I1.tuple hq
    apply wpAny_pyIter_tuple (show s1.heap.IsTuple a its.toArray from p)
    refine ⟨s1.heap.objs.size, [s1.heap.objs.size], _, Itt X.K a, H1, rfl, I1.kept (t' := s1.toks) (fun b o e => Heap.get?_push_of_some _ e), turn_tuple a _, ⟨_, Heap.get?_push_size _ rfl, rfl, rfl⟩, ?_, q⟩
    intro b hb
    rw [List.mem_singleton.mp hb]
    exact I1.fpOk (Nat.le_refl _) (I1.hok.fresh (Nat.le_refl _))
def itemsOf (S : Store) (w : W) : Option (List W × (Store → Prop)) := match w with
  | .ref a => match S a with
    | some (.lst ws) => some (ws, fun T => T a = some (.lst ws))
    | _ => none
  | w => match seqW S w with
    | some ws => some (ws, allS)
    | none => none
theorem itd_of {J : It} {G1 : Hp} {ws : List W} {g : Store → Prop} (h : ∀ S H, Ok K F M S H → Sub G1 (gS M S H) → g S → ∃ vs, Wvs K (gS M S H) vs ws ∧ ∀ i, (vs.length ≤ i → J.stop i H) ∧ ∀ v, vs[i]? = some v → J.go i H ∧ ∀ x H', J.yld i H x H' → H' = H ∧ x = v) : ItD K F M J G1 ws g := fun S H k s gg i => by
  obtain ⟨vs, h1, h2⟩ := h S H k s gg
  refine ⟨fun hi => (h2 i).1 (by rw [h1.length]; exact hi), fun w hw => ?_⟩
  obtain ⟨v, g1, g2⟩ := h1.get hw
  obtain ⟨go, y⟩ := (h2 i).2 v g1
  refine ⟨go, fun x H' hy => ?_⟩
  obtain ⟨rfl, rfl⟩ := y x H' hy
  exact ⟨.refl k, g2⟩
theorem itl_facts {a : Addr} {vs : List V} {H : Hp} (h : SqL K H a vs) (i : Nat) : (vs.length ≤ i → (Itl K a).stop i H) ∧ ∀ v, vs[i]? = some v → (Itl K a).go i H ∧ ∀ x H', (Itl K a).yld i H x H' → H' = H ∧ x = v :=
  ⟨fun hi => ⟨vs, h, hi⟩, fun v hv => ⟨⟨vs, v, h, hv⟩, fun x H' ⟨e, hy⟩ => ⟨e, by have := hy vs h; rw [hv] at this; cases this; rfl⟩⟩⟩
theorem itt_facts {a : Addr} {vs : List V} {H : Hp} (h : SqT K H a vs) (i : Nat) : (vs.length ≤ i → (Itt K a).stop i H) ∧ ∀ v, vs[i]? = some v → (Itt K a).go i H ∧ ∀ x H', (Itt K a).yld i H x H' → H' = H ∧ x = v :=
  ⟨fun hi => ⟨vs, h, hi⟩, fun v hv => ⟨⟨vs, v, h, hv⟩, fun x H' ⟨e, hy⟩ => ⟨e, by have := hy vs h; rw [hv] at this; cases this; rfl⟩⟩⟩
theorem gS_hide {N : Hid} (h : ∀ a, N a → ¬ M a → S a = none ∧ gS M S H a = none) (hm : ∀ a, M a → N a) : gS N S H = gS M S H := by
  funext a
  by_cases n : N a
  · have e : gS N S H a = none := by unfold gS; rw [if_pos n]
    rw [e]
    by_cases mm : M a
    · unfold gS; rw [if_pos mm]
    · exact (h a n mm).2.symm
  · have mm : ¬ M a := fun z => n (hm a z)
    unfold gS
    rw [if_neg n, if_neg mm]
theorem seqW_ref {S : Store} {w : W} {ws : List W} (h : ∀ a, w ≠ .ref a) (e : seqW S w = some ws) {G : Hp} {v : V} (r : Wv K G v w) : ∃ a vs, v = .ref a ∧ Wvs K G vs ws ∧ ((G a = some (.lst vs)) ∨ SqT K G a vs) := by
  cases w with
  | ref a => exact absurd rfl (h a)
  | tup l =>
    obtain ⟨a, vs, rfl, h1, h2⟩ := r.to_tup
    have e : some l = some ws := e
    cases e
    exact ⟨a, vs, rfl, h2, .inr h1⟩
  | d x =>
    cases x with
    | lst ds =>
      obtain ⟨a, vs, rfl, h1, h2⟩ := r.to_d.to_lst
      have e : some (ds.map W.d) = some ws := e
      cases e
      exact ⟨a, vs, rfl, h2.w, .inl h1⟩
    | tup ds =>
      obtain ⟨a, vs, rfl, h1, h2⟩ := r.to_d.to_tup
      have e : some (ds.map W.d) = some ws := e
      cases e
      exact ⟨a, vs, rfl, h2.w, .inr h1⟩
    | _ => cases e
def itSeq (ma : EM) : IM := fun δ S P X => ma δ S (fun w S1 => match itemsOf S1 w with
  | some (ws, g) => P ws g S1
  | none => False) X
theorem ji_seq {tg : Expr} (eK : X.K = K) (ja : JE X K F a ma) : JI X K F tg a (itSeq ma) := ⟨_, pi_seq eK pe, fun δ S P q M σ H k x R r => ja δ S _ q M σ H k x _ fun v H1 w S1 p1 s1 v1 => by
  split at p1
  · rename_i ws g e
    unfold itemsOf at e
    split at e
    · rename_i a0
      split at e
      · rename_i l el
        cases e
        cases v1.to_ref
        have hk : ∃ vs, H1 a0 = some (.lst vs) := by cases s1.ok.cell _ _ el with | lst h1 h2 => exact ⟨_, h1⟩
        obtain ⟨vs, hv⟩ := hk
        refine ⟨a0, rfl, .inl ⟨⟨vs, sqL hv⟩, r _ H1 _ _ S1 p1 s1 fun N hN hM => itd_of fun S2 H2 k2 sb gg => ?_⟩⟩
        cases k2.cell _ _ gg with
        | lst h1 h2 => exact ⟨_, h2, itl_facts (sqL h1)⟩
      · cases e
    · rename_i hne
      split at e
      · rename_i l el
        cases e
        obtain ⟨a0, vs, rfl, h2, h1⟩ := seqW_ref (fun a z => hne a z) el v1
        rcases h1 with h1 | h1
        · refine ⟨a0, rfl, .inl ⟨⟨vs, sqL (gS_sub _ _ h1)⟩, r _ H1 _ _ S1 p1 s1 fun N hN hM => itd_of fun S2 H2 k2 sb gg => ?_⟩⟩
          rw [gS_hide hN hM] at sb
          exact ⟨vs, h2.mono sb, itl_facts (sqL (gS_sub _ _ (sb _ _ h1)))⟩
        · refine ⟨a0, rfl, .inr ⟨⟨vs, gS_sub.t h1⟩, r _ H1 _ _ S1 p1 s1 fun N hN hM => itd_of fun S2 H2 k2 sb gg => ?_⟩⟩
          rw [gS_hide hN hM] at sb
          exact ⟨vs, h2.mono sb, itt_facts (gS_sub.t (sb.t h1))⟩
      · cases e
  · exact p1.elim⟩
def rng (lo : Int) (n : Nat) : List W := (List.range n).map fun (i : Nat) => W.d (.int (lo + (i : Int)))
theorem itd_rng {lo : Int} {n : Nat} {G1 : Hp} : ItD K F M (Itr lo n) G1 (rng lo n) allS := fun S H k s _ i => ⟨fun hi => (by show n ≤ i; simpa [rng] using hi), fun w hw => by
  unfold rng at hw
  rw [List.getElem?_map] at hw
  by_cases hi : i < n
  · rw [List.getElem?_range hi] at hw
    cases hw
    refine ⟨hi, fun x H' ⟨e, hx⟩ => ?_⟩
    subst e hx
    exact ⟨.refl k, .d (.int _)⟩
  · rw [List.getElem?_eq_none (by simpa using hi)] at hw
    cases hw⟩
def itRng1 (ma : AM) : IM := fun δ S P X => ma δ S (fun ws S1 => match ws with
  | [.d (.int j)] => (-(2 ^ 62) ≤ j ∧ j < 2 ^ 62) ∧ P (rng 0 j.toNat) allS S1
  | _ => False) X
theorem ji_rng1 {tg : Expr} {mr : AM} (ja : JA X K F es mr) (h : PI X tg e (iRng1 (tWA X es))) : JI X K F tg e (itRng1 mr) := ⟨_, h, fun δ S P q M σ H k x R r => ja δ S _ q M σ H k x _ fun vs H1 ws S1 p1 s1 v1 => by
  split at p1
  · obtain ⟨v, rfl, v2⟩ := v1.one
    cases v2.to_d.to_int
    exact ⟨_, rfl, p1.1.1, p1.1.2, r _ H1 _ _ S1 p1.2 s1 fun N _ _ => itd_rng⟩
  · exact p1.elim⟩
end DX

set_option Elab.async false
set_option linter.all false
set_option maxRecDepth 100000
namespace DX
open PySem PySem.Spec PyProof.Rows L2
variable {X : Cx} {K : PySem.W.Frag} {F : Fr} {M : Hid} {S : Store} {H : Hp} {σ : L2.St} {δ : Slots} {a b c e : Expr} {es : List Expr} {st : Stmt} {rest sts sts' : List Stmt} {ma mb m : EM} {pos : Pos}

def XF (C : Ct) (δ : Slots) : XP := fun x T => C.X x δ T
def JS (X : Cx) (K : PySem.W.Frag) (F : Fr) (st : Stmt) (m : SM) : Prop := ∀ C δ S, C.X = F.X → m C δ S → WS K F (tWS X st) δ S C
def JSs (X : Cx) (K : PySem.W.Frag) (F : Fr) (sts : List Stmt) (m : SM) : Prop := ∀ C δ S, C.X = F.X → m C δ S → WS K F (tWSs X sts) δ S C
theorem JS.of {t : TS} {m : SM} (h : PS X st t) (w : ∀ C δ S, C.X = F.X → m C δ S → WS K F t δ S C) : JS X K F st m := fun C δ S e q M E σ H k x c pins s I => h.run pins s σ H E I (w C δ S e q M E σ H k x c)
theorem JSs.of {t : TS} {m : SM} (h : PSs X sts t) (w : ∀ C δ S, C.X = F.X → m C δ S → WS K F t δ S C) : JSs X K F sts m := fun C δ S e q M E σ H k x c pins s I => h.run pins s σ H E I (w C δ S e q M E σ H k x c)
theorem XF_eq {C : Ct} (e : C.X = F.X) : XF C δ = fun x T => F.X x δ T := by unfold XF; rw [e]
theorem XF_on {C : Ct} {δ : Slots} (e : C.X = F.X) {Pr : XP → Prop} (h : Pr (XF C δ)) : Pr (fun x T => F.X x δ T) := XF_eq e ▸ h
def mNil : SM := fun C δ S => C.nx δ S
def mCons (m n : SM) : SM := fun C δ S => m { C with nx := fun δ1 S1 => n C δ1 S1 } δ S
theorem EndsOk.nx1 {E : Ends} {C : Ct} (c : EndsOk K F M (gS M S H) H E C) (k : Ok K F M S H) (x : SlotsOk K M S H σ δ) (q : C.nx δ S) : E.nx σ H := c.nx S σ H δ q k x (Sub.refl _) fun _ _ => rfl
theorem EndsOk.rt1 {E : Ends} {C : Ct} {v : V} {w : W} (c : EndsOk K F M (gS M S H) H E C) (k : Ok K F M S H) (x : Wv K (gS M S H) v w) (q : C.rt w S) : E.rt v H := c.rt S v H w q k x (Sub.refl _) fun _ _ => rfl
theorem jss_nil : JSs X K F [] mNil := .of pss_nil fun C δ S e q M E σ H k x c => c.nx1 k x q
theorem jss_cons {m n : SM} (h : JS X K F st m) (g : JSs X K F rest n) : JSs X K F (st :: rest) (mCons m n) := .of (pss_cons ps pss) fun C δ S e q M E σ H k x c =>
  h { C with nx := fun δ1 S1 => n C δ1 S1 } δ S e q M _ σ H k x ⟨fun S1 σ1 H1 δ1 p k1 x1 s1 t1 => g C δ1 S1 e p M E σ1 H1 k1 x1 (c.on ⟨k1, s1, t1⟩), c.rt, c.bk, c.ct⟩
theorem jss_one {m : SM} (h : JS X K F st m) : JSs X K F [st] m := .of (pss_one ps) fun C δ S e q M E σ H k x c => h C δ S e q M E σ H k x c
def mNoS : SM := fun _ _ _ => False
theorem js_no : JS X K F st mNoS := fun _ _ _ _ q => q.elim
def mSet (i : Nat) (m : EM) : SM := fun C δ S => m δ S (fun w S1 => C.nx (δ.set i (some w)) S1) (XF C δ)
theorem ws_set {i : Nat} {te : TE} {C : Ct} (h : WE K F te δ S fun w S1 => C.nx (δ.set i (some w)) S1) : WS K F (tAsg te (gName i)) δ S C := fun M E σ H k x c => h M σ H k x _ fun v H1 w S1 p s1 v1 =>
  (c.on s1).nx1 s1.ok ((s1.slots x).set v1) p
theorem js_set {i : Nat} (h : ∀ {te : TE}, PE X e te → PS X st (tAsg te (gName i))) (je : JE X K F e m) : JS X K F st (mSet i m) := .of (h pe) fun C δ S ex q => ws_set (je δ S _ (XF_on (Pr := m δ S _) ex q))
def mAsg (m : EM) (g : GM) : SM := fun C δ S => m δ S (fun w S1 => g w δ S1 C.nx (XF C δ)) (XF C δ)
theorem js_asg {tg : Expr} {ts : List Nat} {g : GM} (h : ∀ {te : TE} {g : TG}, PE X e te → PG X tg g → PS X st (tAsg te g)) (je : JE X K F e m) (jg : JG X K F tg ts g) : JS X K F st (mAsg m g) := .of (h pe pg) fun C δ S ex q M E σ H k x c => by
  have q : m δ S (fun w S1 => g w δ S1 C.nx (XF C δ)) (XF C δ) := q
  rw [XF_eq ex] at q
  exact je δ S _ q M σ H k x _ fun v H1 w S1 p s1 v1 => jg w δ S1 _ p M σ H1 v s1.ok (s1.slots x) v1 _ fun σ2 H2 δ2 S2 p2 s2 x2 _ _ => (c.on (s1.trans s2)).nx1 s2.ok x2 p2
def mDrp (m : EM) : SM := fun C δ S => m δ S (fun _ S1 => C.nx δ S1) (XF C δ)
theorem js_drp {p : Pos} (je : JE X K F e m) (hs : swapsWith e none p.line X.env = pure false := by rfl) : JS X K F (.Expr e p) (mDrp m) := .of (ps_expr pe hs) fun C δ S ex q M E σ H k x c => je δ S _ (XF_on (Pr := m δ S _) ex q) M σ H k x _ fun v H1 w S1 p s1 v1 =>
  (c.on s1).nx1 s1.ok (s1.slots x) p
def mRet (m : EM) : SM := fun C δ S => m δ S C.rt (XF C δ)
def mRetN : SM := fun C δ S => C.rt (.d .non) S
theorem js_ret {p : Pos} (je : JE X K F e m) : JS X K F (.Return (some e) p) (mRet m) := .of (ps_ret pe) fun C δ S ex q M E σ H k x c => je δ S _ (XF_on (Pr := m δ S _) ex q) M σ H k x _ fun v H1 w S1 p s1 v1 =>
  (c.on s1).rt1 s1.ok v1 p
def mIfS (t : TM) (m n : SM) : SM := fun C δ S => t δ S (fun b S1 => if b = true then m C δ S1 else n C δ S1) (XF C δ)
theorem js_if {p : Pos} {t : TM} {m n : SM} (jt : JT X K F c t) (h : JSs X K F sts m) (g : JSs X K F sts' n) : JS X K F (.If c sts sts' p) (mIfS t m n) := .of (ps_if pt pss pss) fun C δ S ex q M E σ H k x cc =>
  jt δ S _ (XF_on (Pr := t δ S _) ex q) M σ H k x _ fun t H1 S1 p s1 => by
    cases t with
    | true => exact h C δ S1 ex p M E σ H1 s1.ok (s1.slots x) (cc.on s1)
    | false => exact g C δ S1 ex p M E σ H1 s1.ok (s1.slots x) (cc.on s1)
def mPar (i j : Nat) (ma : AM) : SM := fun C δ S => ma δ S (fun ws S1 => match ws with
  | [v, w] => C.nx ((δ.set i (some v)).set j (some w)) S1
  | _ => False) (XF C δ)
theorem js_par {i j : Nat} {mr : AM} (h : ∀ {ta : TA}, PA X es ta → PS X st (tPar i j ta)) (ja : JA X K F es mr) : JS X K F st (mPar i j mr) := .of (h pa) fun C δ S ex q M E σ H k x c => ja δ S _ (XF_on (Pr := mr δ S _) ex q) M σ H k x _ fun vs H1 ws S1 p s1 v1 => by
  split at p
  · obtain ⟨v, u, rfl, v2, v3⟩ := v1.two
    exact ⟨v, u, rfl, (c.on s1).nx1 s1.ok (((s1.slots x).set v2).set v3) p⟩
  · exact p.elim

def Dn (P : Slots → Store → Prop) (δ : Slots) (S : Store) : Prop := ∃ δ' S', (∀ (i : Nat) w, δ'[i]? = some (some w) → δ[i]? = some (some w)) ∧ δ'.length ≤ δ.length ∧ (∀ a c, S' a = some c → S a = some c) ∧ P δ' S'
theorem Dn.of {P : Slots → Store → Prop} (h : P δ S) : Dn P δ S := ⟨δ, S, fun _ _ h => h, Nat.le_refl _, fun _ _ h => h, h⟩
theorem SlotsOk.less {δ' : Slots} (x : SlotsOk K M S H σ δ) (h : ∀ (i : Nat) w, δ'[i]? = some (some w) → δ[i]? = some (some w)) (hl : δ'.length ≤ δ.length) : SlotsOk K M S H σ δ' := ⟨fun i w e => x.at_ i w (h i w e), Nat.le_trans hl x.len⟩
def mFor (im : IM) (g : GM) (body : SM) : SM := fun C δ S => im δ S (fun ws gd S1 => ∃ I : Nat → Slots → Store → Prop, I 0 δ S1 ∧ ∀ i δ S, I i δ S → i ≤ ws.length ∧ gd S ∧ (∀ w, ws[i]? = some w →
    g w δ S (fun δ1 S1 => body { nx := Dn (I (i + 1)), rt := C.rt, bk := C.nx, ct := Dn (I (i + 1)), X := C.X } δ1 S1) (XF C δ)) ∧ (ws.length = i → C.nx δ S)) (XF C δ)
theorem js_for {tg it : Expr} {im : IM} {g : GM} {ts : List Nat} {body : SM} (h : ∀ {wi : TI} {g : TG} {tb : TS}, PI X tg it wi → PG X tg g → PSs X sts tb → PS X st (tFor wi g tb)) (ji : JI X K F tg it im) (jg : JG X K F tg ts g) (jb : JSs X K F sts body) : JS X K F st (mFor im g body) := by
  obtain ⟨wi, h1, h2⟩ := ji
  refine .of (h h1 pg pss) fun C δ S ex q M E σ H k x c => ?_
  refine h2 δ S _ (XF_on (Pr := im δ S _) ex q) M σ H k x _ fun J H1 ws gd S1 p s1 jt => ?_
  obtain ⟨I, p0, pt⟩ := p
  have jd := jt M (fun a n z => absurd n z) (fun _ z => z)
  refine ⟨fun i m σ H => m = ws.length - i ∧ ∃ δ S, I i δ S ∧ St K F M S1 H1 S H ∧ SlotsOk K M S H σ δ, ⟨ws.length, by simp, δ, S1, p0, .refl s1.ok, s1.slots x⟩, ?_⟩
  rintro i m σ2 H2 ⟨rfl, δ2, S2, i2, s2, x2⟩
  obtain ⟨hi, g2, pb, pe⟩ := pt i δ2 S2 i2
  obtain ⟨hs, hg⟩ := jd S2 H2 s2.ok s2.sub g2 i
  by_cases hlt : i < ws.length
  · obtain ⟨go, hy⟩ := hg ws[i] (List.getElem?_eq_getElem hlt)
    refine .inr ⟨go, fun σ H => ∃ δ S, I (i + 1) δ S ∧ St K F M S1 H1 S H ∧ SlotsOk K M S H σ δ, fun σ' H' w => ⟨ws.length - (i + 1), by omega, rfl, w⟩, fun v H3 y => ?_⟩
    obtain ⟨s3, v3⟩ := hy v H3 y
    have q4 := pb ws[i] (List.getElem?_eq_getElem hlt)
    rw [XF_eq ex] at q4
    refine jg ws[i] δ2 S2 _ q4 M σ2 H3 v s3.ok (s3.slots x2) v3 _ fun σ4 H4 δ4 S4 p4 s4 x4 _ _ => ?_
    have s14 := (s2.trans s3).trans s4
    have dn : ∀ S5 σ5 H5 δ5, Dn (I (i + 1)) δ5 S5 → Ok K F M S5 H5 → SlotsOk K M S5 H5 σ5 δ5 → Sub (gS M S4 H4) (gS M S5 H5) → (∀ a, M a → H5 a = H4 a) → ∃ δ S, I (i + 1) δ S ∧ St K F M S1 H1 S H5 ∧ SlotsOk K M S H5 σ5 δ := fun S5 σ5 H5 δ5 ⟨δ6, S6, d1, dl, d2, p6⟩ k5 x5 u5 y5 => by
      have c5 : St K F M S5 H5 S6 H5 := .cut k5 d2
      exact ⟨δ6, S6, p6, (s14.trans ⟨k5, u5, y5⟩).trans c5, (c5.slots x5).less d1 dl⟩
    exact jb { nx := Dn (I (i + 1)), rt := C.rt, bk := C.nx, ct := Dn (I (i + 1)), X := C.X } δ4 S4 ex p4 M _ σ4 H4 s4.ok x4 ⟨dn, (c.on (s1.trans s14)).rt, (c.on (s1.trans s14)).nx, dn⟩
  · have ei : ws.length = i := by omega
    exact .inl ⟨hs (by omega), (c.on (s1.trans s2)).nx1 s2.ok x2 (pe ei)⟩
end DX

set_option Elab.async false
set_option linter.all false
set_option maxRecDepth 100000
namespace DX
open PySem PySem.Spec PyProof.Rows L2
variable {X : Cx} {K : PySem.W.Frag} {F : Fr} {M : Hid} {S : Store} {H : Hp} {σ : L2.St} {δ : Slots} {a b c e : Expr} {es : List Expr} {st : Stmt} {rest sts sts' : List Stmt} {ma mb m : EM} {pos : Pos}

abbrev DSp := List W → Store → (W → Store → Prop) → XP → Prop
def spD (K : PySem.W.Frag) (T : List (Addr × Str)) (sp : DSp) : Sp := fun vs H Q E => ∃ (F : Fr) (M : Hid) (S : Store) (ws : List W) (P : W → Store → Prop), Ok K F M S H ∧ F.T = T ∧ Wvs K (gS M S H) vs ws ∧ F.Wx = (fun cls d _ H => E cls d H) ∧ sp ws S P (fun x T => F.X x [] T) ∧
  ∀ v H' w S', P w S' → St K F M S H S' H' → Wv K (gS M S' H') v w → Q v H'
theorem Ok.keepOn {H' : Hp} (k : Ok K F M S H) (h : ∀ a, M a → H' a = H a) : ∀ a, F.M0 a → M a ∧ H' a = F.Hm a := fun a q => by
  obtain ⟨m, e⟩ := k.keep a q
  exact ⟨m, (h a m).trans e⟩
theorem call_sp {sp : DSp} {ws : List W} {vs : List V} {P : W → Store → Prop} {Q : VK} (k : Ok K F M S H) (x : SlotsOk K M S H σ δ) (a : Wvs K (gS M S H) vs ws) (p : sp ws S P (fun x T => F.X x δ T))
    (c : ∀ v H' w S', P w S' → St K F M S H S' H' → Wv K (gS M S' H') v w → Q v H') : spD K F.T sp vs H Q (L2.WE F.Wx σ) :=
  ⟨{ G := gS M S H, Wx := fun cls d _ H => F.Wx cls d σ H, X := fun y _ T => F.X y δ T, T := F.T, M0 := M, Hm := H }, M, S, ws, P, ⟨⟨k.hid, k.cell, Sub.refl _, k.tabs, fun a m => ⟨m, rfl⟩⟩, fun C d fs δ' S' σ' H' q o _ xd => k.hX C d fs δ S' σ H' q ⟨o.hid, o.cell, k.sub.trans o.sub, o.tabs, k.keepOn fun a m => (o.keep a m).2⟩ (x.mono o.sub) xd⟩, rfl, a, rfl, p,
    fun v H' w S' pw s r => c v H' w S' pw ⟨⟨⟨s.ok.hid, s.ok.cell, k.sub.trans s.ok.sub, s.ok.tabs, k.keepOn s.stay⟩, k.hX⟩, s.sub, s.stay⟩ r⟩
theorem call_sp0 {sp : DSp} {ws : List W} {vs : List V} {P : W → Store → Prop} {Q : VK} (k : Ok K F M S H) (a : Wvs K (gS M S H) vs ws) (p : sp ws S P (fun _ _ => False))
    (c : ∀ v H' w S', P w S' → St K F M S H S' H' → Wv K (gS M S' H') v w → Q v H') : spD K F.T sp vs H Q (fun _ _ _ => False) :=
  ⟨{ G := gS M S H, Wx := fun _ _ _ _ => False, X := fun _ _ _ => False, T := F.T, M0 := M, Hm := H }, M, S, ws, P, ⟨⟨k.hid, k.cell, Sub.refl _, k.tabs, fun a m => ⟨m, rfl⟩⟩, fun C d fs δ' S' σ' H' q o _ xd => q.elim⟩, rfl, a, rfl, p,
    fun v H' w S' pw s r => c v H' w S' pw ⟨⟨⟨s.ok.hid, s.ok.cell, k.sub.trans s.ok.sub, s.ok.tabs, k.keepOn s.stay⟩, k.hX⟩, s.sub, s.stay⟩ r⟩
def dnW (P : W → Store → Prop) (w : W) (S : Store) : Prop := ∃ S', (∀ a c, S' a = some c → S a = some c) ∧ P w S'
theorem dnW.of {P : W → Store → Prop} {w : W} (h : P w S) : dnW P w S := ⟨S, fun _ _ h => h, h⟩
def startD (N : Nat) (ws : List W) : Slots := ws.map some ++ List.replicate (N - ws.length) none
def bodyD (n N : Nat) (m : SM) : DSp := fun ws S P X => ws.length = n ∧ m { nx := fun _ T => dnW P (.d .non) T, rt := dnW P, X := fun x _ T => X x T } (startD N ws) S
theorem SlotsOk.start {N : List Str} {vs : List V} {ws : List W} (a : Wvs K (gS M S H) vs ws) : SlotsOk K M S H (L2.start N vs) (startD N.length ws) := by
  refine ⟨fun i w e => ?_, by unfold L2.start startD; simp [a.length]⟩
  unfold startD at e
  by_cases hi : i < ws.length
  · rw [List.getElem?_append_left (by simpa using hi), List.getElem?_map] at e
    cases q : ws[i]? with
    | none => rw [q] at e; cases e
    | some z =>
      rw [q] at e
      cases e
      obtain ⟨v, h1, h2⟩ := a.get q
      refine ⟨v, ?_, h2⟩
      unfold L2.start
      rw [List.getElem?_append_left (by rw [List.length_map, a.length]; exact hi), List.getElem?_map, h1]
      rfl
  · rw [List.getElem?_append_right (by simpa using hi), List.getElem?_replicate] at e
    split at e <;> cases e
theorem body_run {N : List Str} {n : Nat} {m : SM} {vs : List V} {Q : VK} {E : XK} {TT : List (Addr × Str)} (h : spD K TT (bodyD n N.length m) vs H Q E) (hb : ∀ F : Fr, F.Wx = (fun cls d _ H => E cls d H) → F.T = TT → JSs X K F sts m) : tWSs X sts { nx := fun _ H' => Q .non H', rt := Q } (L2.start N vs) H := by
  obtain ⟨F, M, S, ws, P, k, eT, a, eW, ⟨hn, p⟩, c⟩ := h
  have k0 : Ok K { F with X := fun x _ T => F.X x [] T } M S H := ⟨⟨k.hid, k.cell, k.sub, k.tabs, k.keep⟩, fun C d fs δ S' σ H' q o x xd => k.hX C d fs [] S' σ H' q ⟨o.hid, o.cell, o.sub, o.tabs, o.keep⟩ ⟨fun i w e => by simp at e, Nat.zero_le _⟩ xd⟩
  have back : ∀ {S1 H1}, Ok K { F with X := fun x _ T => F.X x [] T } M S1 H1 → Sub (gS M S H) (gS M S1 H1) → (∀ a, M a → H1 a = H a) → St K F M S H S1 H1 := fun k1 s1 t1 => ⟨⟨⟨k1.hid, k1.cell, k1.sub, k1.tabs, k1.keep⟩, k.hX⟩, s1, t1⟩
  refine hb { F with X := fun x _ T => F.X x [] T } eW eT { nx := fun _ T => dnW P (.d .non) T, rt := dnW P, X := fun x _ T => F.X x [] T } _ S rfl p M _ _ H k0 (.start a) ⟨fun S1 σ1 H1 δ1 q k1 x1 s1 t1 => ?_, fun S1 v H1 w q k1 r s1 t1 => ?_, fun _ _ _ _ q => q.elim, fun _ _ _ _ q => q.elim⟩
  · obtain ⟨T, le, pw⟩ := q
    have s2 := back k1 s1 t1
    exact c .non H1 _ T pw (s2.trans (.cut s2.ok le)) (.d .non)
  · obtain ⟨T, le, pw⟩ := q
    have s2 := back k1 s1 t1
    exact c v H1 w T pw (s2.trans (.cut s2.ok le)) (r.mono (sub_cut le))
theorem spD_len {n N : Nat} {m : SM} {vs : List V} {Q : VK} {E : XK} {TT : List (Addr × Str)} (h : spD K TT (bodyD n N m) vs H Q E) : vs.length = n := by
  obtain ⟨F, M, S, ws, P, k, eT, a, eW, ⟨hn, p⟩, c⟩ := h
  exact a.length.trans hn
section
variable {P : Program} {w : World} {mg : Str → Option Value} {base : Heap} {TT : List (Addr × Str)}
theorem fnD {x qual : Str} {st : Stmt} {f : Addr} {fd : FuncData} {N ps : List Str} {k n : Nat} {m : SM} (Fn : Fun K x qual st f fd) (Sc : FnScope N ps (defScope st)) (hn : n = ps.length)
    (hb : ∀ (cdv : Value) (A : Around) (outer : List Env) (s : Shared) (H : Hp) (E : XK) (F : Fr), F.T = TT → Room k (A.deeper (envOfC qual (defScope st) s.heap.objs.size f cdv)) → L2N.Takes (cxOf (L2N.CX P w) P w K mg base N qual (defScope st) f cdv A outer s H E) F.Wx →
      JSs (cxOf (L2N.CX P w) P w K mg base N qual (defScope st) f cdv A outer s H E) K F (defBody st) m) : FnOk P w K mg base (L2N.CX P w) (k + 1) f fd ps (spD K TT (bodyD n N.length m)) := by
  obtain ⟨oc, od, kV, doc, pm, an, cdv, ct, osl, rfl, lk, hcd⟩ := Fn.ex
  exact fn_of lk hcd Sc (fun vs H Q E h => (spD_len h).trans hn) fun A outer s H vs Q E hr h => ⟨_, pss, body_run h fun F eW eT => hb cdv A outer s H E F eT hr (eW ▸ L2N.takes_of rfl rfl rfl rfl)⟩
theorem fnDD {x qual : Str} {st : Stmt} {dvs : List V} {kws : List (Str × V)} {f : Addr} {fd : FuncData} {N ps : List Str} {k n : Nat} {m : SM} (Fn : FunD K x qual (defArgs st) (defBody st) (defScope st) dvs kws f fd) (Sc : FnScope N ps (defScope st)) (hn : n = ps.length)
    (hb : ∀ (cdv : Value) (A : Around) (outer : List Env) (s : Shared) (H : Hp) (E : XK) (F : Fr), F.T = TT → Room k (A.deeper (envOfC qual (defScope st) s.heap.objs.size f cdv)) → L2N.Takes (cxOf (L2N.CX P w) P w K mg base N qual (defScope st) f cdv A outer s H E) F.Wx →
      JSs (cxOf (L2N.CX P w) P w K mg base N qual (defScope st) f cdv A outer s H E) K F (defBody st) m) : FnOk P w K mg base (L2N.CX P w) (k + 1) f fd ps (spD K TT (bodyD n N.length m)) :=
  Fn.ok Sc (fun vs H Q E h => (spD_len h).trans hn) fun cdv A outer s H vs Q E hr h => ⟨_, pss, body_run h fun F eW eT => hb cdv A outer s H E F eT hr (eW ▸ L2N.takes_of rfl rfl rfl rfl)⟩
end

def Rn (X : Cx) (K : PySem.W.Frag) (F : Fr) (f : Value) (n : Option Nat) (ks : List Str) (sp : DSp) : Prop := ∀ (M : Hid) (S : Store) (H : Hp) (σ : L2.St) (δ : Slots) (ws zs : List W) (vs us' : List V) (P : W → Store → Prop), Ok K F M S H → SlotsOk K M S H σ δ → Wvs K (gS M S H) vs ws → Wvs K (gS M S H) us' zs →
  (∀ j, n = some j → ws.length = j) → zs.length = ks.length → sp (ws ++ zs) S P (fun x T => F.X x δ T) →
  ∀ (pins : List (Addr × Obj)) (s : Shared) (us uz : List Value) (Q : VK), Inv X pins σ H s → Vals vs us → Vals us' uz → (∀ v H' w S', P w S' → St K F M S H S' H' → Wv K (gS M S' H') v w → Q v H') → wpAny (model X.prog X.w) X.A (call f us (ks.zip uz)) (EP X pins σ Q) X.xe s
section
variable {k n : Nat} {f C : Addr} {fd : FuncData} {ps ks : List Str} {sp : DSp} {Sp0 : Sp}
theorem run_fnA {pins : List (Addr × Obj)} {s : Shared} {Q : VK} {args : Args} {us : List Value} {vs : List V} (G : FnOk X.prog X.w X.K X.mg X.base (L2N.CX X.prog X.w) k f fd ps Sp0) (hr : Room k X.A) (hb : BindsTo s fd args (ps.zip us)) {W : WX} (tk : L2N.Takes X W)
    (I : Inv X pins σ H s) (r : Vals vs us) (h : Sp0 vs H Q (L2.WE W σ)) : wpAny (model X.prog X.w) X.A (call (.ref f) args.pos args.kw) (EP X pins σ Q) X.xe s := by
  refine wpAny_call (codeAny_mono (G.run X.A X.stack s H args us vs Q (L2.WE W σ) hr I.env0 hb r h) fun rr s' hq => ?_)
  cases rr with
  | error e => exact L2N.passAt tk σ pins H s e s' I hq
  | ok fl =>
    cases fl with
    | ret u => exact I.after hq
    | next => exact False.elim hq
    | brk => exact False.elim hq
    | cont => exact False.elim hq
theorem rn_fn {dvs : List V} {ds : List Value} {dds : List W} (eK : X.K = K) (G : FnOk X.prog X.w K X.mg X.base (L2N.CX X.prog X.w) k f fd ps (spD K F.T sp)) (hr : Room k X.A) (hb : Binds K fd ps ds) (hd : Vals dvs ds) (hw : ∀ G, Wvs K G dvs dds) (tk : L2N.Takes X F.Wx) : Rn X K F (.ref f) none [] fun ws => sp (ws ++ dds) := by
  subst eK
  intro M S H σ δ ws zs vs us' P kk x w z _ hz p pins s us uz Q I r rz c
  have ez : zs = [] := List.length_eq_zero_iff.mp hz
  subst ez
  cases z
  cases rz
  rw [List.append_nil] at p
  have a : Wvs X.K (gS M S H) (vs ++ dvs) (ws ++ dds) := w.append (hw _)
  have h := call_sp (sp := sp) kk x a p c
  have r2 : Vals (vs ++ dvs) (us ++ ds) := r.append hd
  have hl : (us ++ ds).length = ps.length := by rw [← r2.length]; exact G.len _ _ _ _ h
  exact run_fnA (args := ⟨us, []⟩) G hr (hb s us I.kIn hl) tk I r2 h
theorem rn_fnK {g : List Value → List Value → List Value} {gV : List V → List V → List V} {gD : List W → List W} (eK : X.K = K) (G : FnOk X.prog X.w K X.mg X.base (L2N.CX X.prog X.w) k f fd ps (spD K F.T sp)) (hr : Room k X.A) (hb : KBn K fd ps n ks g gV)
    (hw : ∀ G vs zs ws us, Wvs K G vs ws → Wvs K G zs us → ws.length = n → Wvs K G (gV vs zs) (gD (ws ++ us))) (tk : L2N.Takes X F.Wx) : Rn X K F (.ref f) (some n) ks fun ws => sp (gD ws) := by
  subst eK
  intro M S H σ δ ws zs vs us' P kk x w z hn hz p pins s us uz Q I r rz c
  have a : Wvs X.K (gS M S H) (gV vs us') (gD (ws ++ zs)) := hw _ _ _ _ _ w z (hn n rfl)
  have h := call_sp (sp := sp) kk x a p c
  have r2 := hb.rel r rz
  exact run_fnA (args := ⟨us, ks.zip uz⟩) G hr (hb.to s us uz I.kIn (by rw [← r.length, w.length]; exact hn n rfl) (by rw [← rz.length, z.length]; exact hz)) tk I r2 h
def mkD (C : String) (sp : DSp) : DSp := fun ws S P X => ∀ a, S a = none → sp (.ref a :: ws) (upS S a (.obj C [])) (fun w S' => match w with
  | .d .non => P (.ref a) S'
  | _ => False) X
theorem made_ok {C : String} {ws : List W} {vs : List V} {x dx : Addr} (k : Ok K F M S H) (w : Wvs K (gS M S H) vs ws) (hx : H x = none) (hd : H dx = none) (ne : dx ≠ x) : St K F M S H (upS S x (.obj C [])) (upd (upd H dx (.own x)) x (.ins (clsAt K C) dx [])) := by
  have s1 : St K F M S H S (upd H dx (.own x)) := .new k hd
  exact s1.trans (.newC s1.ok (by rw [upd_ne (Ne.symm ne)]; exact hx) (.obj upd_same .nil))
theorem rn_mkA {C : String} {vs1 : List V} {ws1 : List W} {P : W → Store → Prop} {args : Args} {pins : List (Addr × Obj)} {s : Shared} {Q : VK} {us1 : List Value} (Mk0 : Mk X.K (clsAt X.K C) f) (G : FnOk X.prog X.w X.K X.mg X.base (L2N.CX X.prog X.w) k f fd ps (spD X.K F.T sp)) (hr : Room (k + 1) X.A) (tk : L2N.Takes X F.Wx)
    (kk : Ok X.K F M S H) (x : SlotsOk X.K M S H σ δ) (hb : ∀ (s : Shared) (o : Value), X.K.In s.heap → BindsTo s fd ⟨o :: args.pos, args.kw⟩ (ps.zip (o :: us1))) (w : Wvs X.K (gS M S H) vs1 ws1) (I : Inv X pins σ H s) (r : Vals vs1 us1)
    (p : mkD C sp ws1 S P (fun x T => F.X x δ T)) (c : ∀ v H' w S', P w S' → St X.K F M S H S' H' → Wv X.K (gS M S' H') v w → Q v H') : wpAny (model X.prog X.w) X.A (call (.ref (clsAt X.K C)) args.pos args.kw) (EP X pins σ Q) X.xe s := by
  have hn1 : H (s.heap.objs.size + 1) = none := I.hok.fresh (Nat.le_succ _)
  have hn2 : H s.heap.objs.size = none := I.hok.fresh (Nat.le_refl _)
  have ne : s.heap.objs.size ≠ s.heap.objs.size + 1 := Nat.ne_of_lt (Nat.lt_succ_self _)
  have s1 := made_ok (C := C) kk w hn1 hn2 ne
  have I2 := Inv.made (C := clsAt X.K C) I
  have h := call_sp (sp := sp) (Q := fun v H2 => v = .non ∧ Q (.ref (s.heap.objs.size + 1)) H2) s1.ok (s1.slots x) (Wvs.cons (.ref _) (w.mono s1.sub)) (p _ (kk.cell.none hn1)) fun v H' w' S' pw s2 r2 => by
    split at pw
    · exact ⟨r2.to_d.to_non, c _ H' _ S' pw (s1.trans s2) (.ref _)⟩
    · exact pw.elim
  have r2 : Vals (V.ref (s.heap.objs.size + 1) :: vs1) (Value.ref (s.heap.objs.size + 1) :: us1) := .cons rfl r
  refine wpAny_call (make_map (f := f) I.kIn Mk0.makes Mk0.init (beq_iff_eq.mp Mk0.fn) (codeAny_mono (G.run _ X.stack _ _ ⟨Value.ref (s.heap.objs.size + 1) :: args.pos, args.kw⟩ (Value.ref (s.heap.objs.size + 1) :: us1) _ _ (L2.WE F.Wx σ) (hr.make (clsAt X.K C) args.pos args.kw)
    (I2.env0.make (clsAt X.K C) args.pos args.kw) (hb _ _ I2.kIn) r2 h) fun rr s' hq => ?_))
  cases rr with
  | error e => exact L2N.passAt tk σ pins _ _ e s' I2 hq
  | ok fl =>
    cases fl with
    | ret u =>
      obtain ⟨v, H', I3, rv, ev, q3⟩ := I2.after hq
      subst ev
      exact ⟨rv, ⟨V.ref (s.heap.objs.size + 1), H', I3, rfl, q3⟩⟩
    | next => exact False.elim hq
    | brk => exact False.elim hq
    | cont => exact False.elim hq
end
end DX

set_option Elab.async false
set_option linter.all false
set_option maxRecDepth 100000
namespace DX
open PySem PySem.Spec PyProof.Rows L2
variable {X : Cx} {K : PySem.W.Frag} {F : Fr} {M : Hid} {S : Store} {H : Hp} {σ : L2.St} {δ : Slots} {a b c e o : Expr} {es : List Expr} {kws : List Keyword} {st : Stmt} {rest sts sts' : List Stmt} {ma mb m mo : EM} {mr mk : AM} {pos p apos : Pos} {k n : Nat} {f C : Addr} {fd : FuncData} {ps ks : List Str} {sp : DSp} {x : Str} {nm : Option Str} {kpos : Pos}

def tWK (X : Cx) (kws : List Keyword) : TA := fun σ H Q => ∀ (pos : Pos) (pins : List (Addr × Obj)) (s : Shared), Inv X pins σ H s → wpAny (model X.prog X.w) X.A (evalAll ((backToKw pos (keywordEach kws X.env)).map (·.2))) (AP X pins σ Q) X.xe s
theorem pk : PK X kws (tWK X kws) := ⟨fun pos pins s σ H Q I h => h pos pins s I⟩
def JK (X : Cx) (K : PySem.W.Frag) (F : Fr) (kws : List Keyword) (m : AM) : Prop := ∀ δ S P, m δ S P (fun x T => F.X x δ T) → WA K F (tWK X kws) δ S P
theorem JK.of {t : TA} {m : AM} (h : PK X kws t) (w : ∀ δ S P, m δ S P (fun x T => F.X x δ T) → WA K F t δ S P) : JK X K F kws m := fun δ S P q M σ H k x Q c ps pins s I => h.run ps pins s σ H Q I (w δ S P q M σ H k x Q c)
theorem jk_nil : JK X K F [] aNil := .of pk_nil fun δ S P q M σ H k x Q c => c [] H [] S q (.refl k) .nil
theorem jk_cons (ja : JE X K F e m) (jr : JK X K F kws mr) : JK X K F (⟨nm, e, kpos⟩ :: kws) (aCons m mr) := .of (pk_cons pe pk) fun δ S P q M σ H k x Q c =>
  ja δ S _ q M σ H k x _ fun v H1 w1 S1 p1 s1 v1 => jr δ S1 _ p1 M σ H1 s1.ok (s1.slots x) _ fun vs H2 ws S2 p2 s2 v2 => c (v :: vs) H2 (w1 :: ws) S2 p2 (s1.trans s2) (.cons (v1.mono s2.sub) v2)

theorem rn_mkK {cl : String} {g : List Value → List Value → List Value} {gV : List V → List V → List V} {gD : List W → List W} (eK : X.K = K) (Mk0 : Mk K (clsAt K cl) f) (G : FnOk X.prog X.w K X.mg X.base (L2N.CX X.prog X.w) k f fd ps (spD K F.T sp)) (hr : Room (k + 1) X.A) (hb : KBn K fd ps (n + 1) ks g gV)
    (hg : ∀ o us uz, g (o :: us) uz = o :: (g (o :: us) uz).tail) (hgV : ∀ o us uz, gV (o :: us) uz = o :: (gV (o :: us) uz).tail) (hw : ∀ G o vs zs ws us, Wvs K G vs ws → Wvs K G zs us → ws.length = n → Wvs K G (gV (o :: vs) zs).tail (gD (ws ++ us)))
    (hgt : ∀ o o' us uz, (g (o :: us) uz).tail = (g (o' :: us) uz).tail) (tk : L2N.Takes X F.Wx) : Rn X K F (.ref (clsAt K cl)) (some n) ks fun ws => mkD cl sp (gD ws) := by
  subst eK
  intro M S H σ δ ws zs vs us' P kk x w z hn hz p pins s us uz Q I r rz c
  have a : Wvs X.K (gS M S H) (gV (.non :: vs) us').tail (gD (ws ++ zs)) := hw _ _ _ _ _ _ w z (hn n rfl)
  have r2 : Vals (gV (.non :: vs) us') (g (.none :: us) uz) := hb.rel (.cons rfl r) rz
  have r3 : Vals (gV (.non :: vs) us').tail (g (.none :: us) uz).tail := by
    rw [hg, hgV] at r2
    cases r2 with
    | cons h t => exact t
  refine rn_mkA (C := cl) (args := ⟨us, ks.zip uz⟩) (us1 := (g (.none :: us) uz).tail) Mk0 G hr tk kk x (fun s o ki => ?_) a I r3 p c
  have h1 := hb.to s (o :: us) uz ki (by show us.length + 1 = n + 1; rw [← r.length, w.length, hn n rfl]) (by rw [← rz.length, z.length]; exact hz)
  rw [hg, hgt o .none] at h1
  exact h1

def mCall (sp : DSp) (ma : AM) : EM := fun δ S P X => ma δ S (fun ws S1 => sp ws S1 P X) X
def mCallK (n j : Nat) (sp : DSp) (ma mk : AM) : EM := fun δ S P X => ma δ S (fun ws S1 => mk δ S1 (fun zs S2 => ws.length = n ∧ zs.length = j ∧ sp (ws ++ zs) S2 P X) X) X
theorem je_call (eK : X.K = K) (R : Rn X K F (.ref f) none [] sp) (hg : Gl X x) (hm : X.mg x = some (.ref f)) (hk : PySem.W.keepIn K (.ref f) = true) (ja : JA X K F (e :: es) mr)
    (hdb : (x == ("__debug__" : Str)) = false := by decide) (he : starEach (e :: es) X.env = (false, eval e X.env) :: starEach es X.env := by rfl) (hpl : (backTo pos (starEach es X.env)).any (·.1) = false := by rfl) :
    JE X K F (.Call (.Name x p) (e :: es) [] pos) (mCall sp mr) := by
  subst eK
  intro δ S P q M σ H k xx Q c pins s I
  refine wpAny_Call_Name_kw (ld_glob I hg hm ?_ hdb)
  refine PySem.W.callWith_K (h₀ := X.base) I.ok.mod.kin hk (thn (ja δ S _ q M σ H k xx (fun vs H1 => ∃ ws S1, sp ws S1 P (fun y T => F.X y δ T) ∧ St X.K F M S H S1 H1 ∧ Wvs X.K (gS M S1 H1) vs ws) (fun vs H1 ws S1 p s v => ⟨ws, S1, p, s, v⟩) pos pins s I) fun us s1 ⟨vs, H1, I1, r, ws, S1, p1, st, v1⟩ => ⟨I1.kIn, ?_⟩) he hpl
  exact R M S1 H1 σ δ ws [] vs [] P st.ok (st.slots xx) v1 .nil (fun _ z => nomatch z) rfl (by rw [List.append_nil]; exact p1) pins s1 us [] Q I1 r .nil fun v H' w S' pw s2 v2 => c v H' w S' pw (st.trans s2) v2
theorem je_callK {jj : Nat} (eK : X.K = K) (R : Rn X K F (.ref f) (some n) ks sp) (hg : Gl X x) (hm : X.mg x = some (.ref f)) (hk : PySem.W.keepIn K (.ref f) = true) (ja : JA X K F (e :: es) mr) (jk : JK X K F kws mk)
    (hj : ks.length = jj := by rfl) (hall : (backToKw pos (keywordEach kws X.env)).all (·.1.isSome) = true := by rfl) (hks : (backToKw pos (keywordEach kws X.env)).filterMap (·.1) = ks := by rfl)
    (hdb : (x == ("__debug__" : Str)) = false := by decide) (he : starEach (e :: es) X.env = (false, eval e X.env) :: starEach es X.env := by rfl)
    (hpl : ((backTo pos (starEach (e :: es) X.env)).any (·.1) || (backToKw pos (keywordEach kws X.env)).any (·.1.isNone)) = false := by rfl) :
    JE X K F (.Call (.Name x p) (e :: es) kws pos) (mCallK n jj sp mr mk) := by
  subst hj
  subst eK
  intro δ S P q M σ H k xx Q c pins s I
  refine wpAny_Call_Name_kw (ld_glob I hg hm ?_ hdb)
  refine PySem.W.callWith_KW (h₀ := X.base) I.ok.mod.kin hk hall (thn (ja δ S _ q M σ H k xx (fun vs H1 => ∃ ws S1, mk δ S1 (fun zs S2 => ws.length = n ∧ zs.length = ks.length ∧ sp (ws ++ zs) S2 P (fun y T => F.X y δ T)) (fun y T => F.X y δ T) ∧ St X.K F M S H S1 H1 ∧ Wvs X.K (gS M S1 H1) vs ws) (fun vs H1 ws S1 p s v => ⟨ws, S1, p, s, v⟩) pos pins s I) fun us s1 ⟨vs, H1, I1, r, ws, S1, p1, st, v1⟩ => ?_) hpl he
  refine thn (jk δ S1 _ p1 M σ H1 st.ok (st.slots xx) (fun vs' H2 => ∃ zs S2, (ws.length = n ∧ zs.length = ks.length ∧ sp (ws ++ zs) S2 P (fun y T => F.X y δ T)) ∧ St X.K F M S1 H1 S2 H2 ∧ Wvs X.K (gS M S2 H2) vs' zs) (fun vs H1 ws S1 p s v => ⟨ws, S1, p, s, v⟩) pos pins s1 I1) fun uz s2 ⟨vs', H2, I2, rz, zs, S2, ⟨q1, q2, q3⟩, st2, v2⟩ => ⟨I2.kIn, ?_⟩
  rw [hks]
  refine R M S2 H2 σ δ ws zs vs vs' P st2.ok ((st.trans st2).slots xx) (v1.mono st2.sub) v2 (fun j z => by cases z; exact q1) q2 q3 pins s2 us uz Q I2 r rz fun v H' w S' pw s3 v3 => c v H' w S' pw ((st.trans st2).trans s3) v3
def insOf (S : Store) (w : W) : Option (String × List (String × W)) := match w with
  | .ref a => match S a with
    | some (.obj C fs) => some (C, fs)
    | _ => none
  | .d (.ins C fs) => some (C, fs.map fun p => (p.1, .d p.2))
  | _ => none
theorem DVf.w {G : Hp} : ∀ {vs : List (Str × V)} {ds : List (String × D)}, DVf K G vs ds → Wvf K G vs (ds.map fun p => (p.1, .d p.2))
  | _, _, .nil => .nil
  | _, _, .cons h r => .cons (.d h) (DVf.w r)
theorem insOf_ok {w : W} {v : V} {cl : String} {fs : List (String × W)} (k : OkC K M S H) (h : Wv K (gS M S H) v w) (e : insOf S w = some (cl, fs)) : ∃ a dx vs, v = .ref a ∧ H a = some (.ins (clsAt K cl) dx vs) ∧ Wvf K (gS M S H) vs fs := by
  unfold insOf at e
  split at e
  · rename_i a
    split at e
    · rename_i C l el
      cases e
      cases h.to_ref
      cases k _ _ el with | obj h1 h2 => exact ⟨_, _, _, rfl, h1, h2⟩
    · cases e
  · rename_i C l
    cases e
    obtain ⟨a, dx, vs, rfl, h1, h2⟩ := h.to_d.to_ins
    exact ⟨a, dx, vs, rfl, gS_sub _ _ h1, h2.w⟩
  · cases e
theorem Wvf.lookup_none {G : Hp} {n : String} : ∀ {vs : List (Str × V)} {ws : List (String × W)}, Wvf K G vs ws → ws.lookup n = none → vs.lookup (Str.ofString n) = none
  | _, _, .nil, _ => rfl
  | _, _, .cons (f := g) h r, e => by
    rw [List.lookup_cons] at e ⊢
    rw [ofString_beq]
    split at e
    · cases e
    · exact Wvf.lookup_none r e
theorem Wvf.lookup_some {G : Hp} {n : String} {w : W} : ∀ {vs : List (Str × V)} {ws : List (String × W)}, Wvf K G vs ws → ws.lookup n = some w → ∃ v, vs.lookup (Str.ofString n) = some v ∧ Wv K G v w
  | _, _, .nil, e => by cases e
  | _, _, .cons (f := g) h r, e => by
    rw [List.lookup_cons] at e ⊢
    rw [ofString_beq]
    split at e
    · cases e
      exact ⟨_, rfl, h⟩
    · exact Wvf.lookup_some r e
structure MethOk (X : Cx) (K : PySem.W.Frag) (F : Fr) (m : String) (n : Option Nat) (ks : List Str) (cl : String) (sp : DSp) : Prop where
  c : Cls K (clsAt K cl)
  at_ : ∃ f, Meth K (clsAt K cl) (Str.ofString m) f ∧ Rn X K F (.ref f) n ks sp
def mMeth (m : String) (tb : List (String × DSp)) (mo : EM) (mr : AM) : EM := fun δ S P X => mo δ S (fun w S1 => match insOf S1 w with
  | some (cl, fs) => fs.lookup m = none ∧ (match tb.lookup cl with
    | some sp => mr δ S1 (fun ws S2 => sp (w :: ws) S2 P X) X
    | none => False)
  | none => False) X
def mMethK (m : String) (n j : Nat) (tb : List (String × DSp)) (mo : EM) (mr mk : AM) : EM := fun δ S P X => mo δ S (fun w S1 => match insOf S1 w with
  | some (cl, fs) => fs.lookup m = none ∧ (match tb.lookup cl with
    | some sp => mr δ S1 (fun ws S2 => mk δ S2 (fun zs S3 => ws.length + 1 = n ∧ zs.length = j ∧ sp (w :: (ws ++ zs)) S3 P X) X) X
    | none => False)
  | none => False) X
abbrev MethsOk (X : Cx) (K : PySem.W.Frag) (F : Fr) (m : String) (n : Option Nat) (ks : List Str) (tb : List (String × DSp)) : Prop := ∀ cl sp, tb.lookup cl = some sp → MethOk X K F m n ks cl sp
theorem meths_nil {m : String} {n : Option Nat} {ks : List Str} : MethsOk X K F m n ks [] := fun cl sp e => by cases e
theorem meths_cons {m cl : String} {n : Option Nat} {ks : List Str} {tb : List (String × DSp)} (h : MethOk X K F m n ks cl sp) (r : MethsOk X K F m n ks tb) : MethsOk X K F m n ks ((cl, sp) :: tb) := fun c2 s2 e => by
  rw [List.lookup_cons] at e
  split at e
  · rename_i hb
    cases e
    rw [beq_iff_eq.mp hb]
    exact h
  · exact r c2 s2 e
theorem je_meth {m : String} {tb : List (String × DSp)} {pl : Sem Bool} (eK : X.K = K) (hT : MethsOk X K F m none [] tb) (jo : JE X K F o mo) (ja : JA X K F (e :: es) mr)
    (hst : starEach (e :: es) X.env = (false, eval e X.env) :: starEach es X.env := by rfl) (hpl : (backTo pos (starEach es X.env)).any (·.1) = false := by rfl)
    (ht : eval (.Call (.Attribute o (Str.ofString m) apos) (e :: es) [] pos) X.env = (do
      let ov ← eval o X.env
      standAt apos.atName
      let (f, first) ← holding [ov] (getMethod ov (Str.ofString m) pl)
      callWith pos f first (backTo pos (starEach (e :: es) X.env)) (backToKw pos (keywordEach [] X.env))) := by rfl) :
    JE X K F (.Call (.Attribute o (Str.ofString m) apos) (e :: es) [] pos) (mMeth m tb mo mr) := by
  subst eK
  intro δ S P q M σ H k xx Q c pins s I
  refine PySem.W.methodCall_KW (pl := pl) (thn (jo δ S _ q M σ H k xx (fun v H1 => ∃ w S1, _ ∧ St X.K F M S H S1 H1 ∧ Wv X.K (gS M S1 H1) v w) (fun v H1 w S1 p s v => ⟨w, S1, p, s, v⟩) pins s I) fun u s1 ⟨v, H1, I1, rx, w, S1, p1, st, v1⟩ => ?_) ht
  split at p1
  · rename_i cl fs e1
    obtain ⟨hl, p1⟩ := p1
    split at p1
    · rename_i sp e2
      obtain ⟨a, dx, vs, rfl, h1, h2⟩ := insOf_ok st.ok.cell v1 e1
      obtain rfl : u = Value.ref a := rx
      obtain ⟨hc, f, hm, R⟩ := hT cl sp e2
      refine getmeth_ok I1 h1 hc hm (h2.lookup_none hl) ?_
      refine PySem.W.callWith_K (first := [.ref a]) (h₀ := X.base) I.ok.mod.kin hm.kp (thn (ja δ S1 _ p1 M σ H1 st.ok (st.slots xx) (fun vs H2 => ∃ ws S2, sp (w :: ws) S2 P (fun y T => F.X y δ T) ∧ St X.K F M S1 H1 S2 H2 ∧ Wvs X.K (gS M S2 H2) vs ws) (fun vs H1 ws S1 p s v => ⟨ws, S1, p, s, v⟩) pos pins s1 I1) fun us s2 ⟨vs2, H2, I2, r, ws, S2, p2, st2, v2⟩ => ⟨I2.kIn, ?_⟩) hst hpl
      exact R M S2 H2 σ δ (w :: ws) [] (.ref a :: vs2) [] P st2.ok ((st.trans st2).slots xx) (.cons (v1.mono st2.sub) v2) .nil (fun _ z => nomatch z) rfl (by rw [List.append_nil]; exact p2) pins s2 (.ref a :: us) [] Q I2 (.cons rfl r) .nil fun v H' w S' pw s3 v3 => c v H' w S' pw ((st.trans st2).trans s3) v3
    · exact p1.elim
  · exact p1.elim
end DX

set_option Elab.async false
set_option linter.all false
set_option maxRecDepth 100000
namespace DX
open PySem PySem.Spec PyProof.Rows L2
variable {X : Cx} {K : PySem.W.Frag} {F : Fr} {M : Hid} {S : Store} {H : Hp} {σ : L2.St} {δ : Slots} {a b c e o : Expr} {es : List Expr} {kws : List Keyword} {st : Stmt} {rest sts sts' : List Stmt} {ma mb m mo : EM} {mr mk : AM} {pos p apos : Pos} {k n : Nat} {f C : Addr} {fd : FuncData} {ps ks : List Str} {sp : DSp} {x : Str} {nm : Option Str} {kpos : Pos}
theorem je_methK0 {m : String} {tb : List (String × DSp)} {pl : Sem Bool} {jj : Nat} (eK : X.K = K) (hT : MethsOk X K F m (some n) ks tb) (jo : JE X K F o mo) (jk : JK X K F kws mk)
    (hj : ks.length = jj := by rfl) (hall : (backToKw pos (keywordEach kws X.env)).all (·.1.isSome) = true := by rfl) (hks : (backToKw pos (keywordEach kws X.env)).filterMap (·.1) = ks := by rfl)
    (hpl : ((backTo pos (starEach [] X.env)).any (·.1) || (backToKw pos (keywordEach kws X.env)).any (·.1.isNone)) = false := by rfl)
    (ht : eval (.Call (.Attribute o (Str.ofString m) apos) [] kws pos) X.env = (do
      let ov ← eval o X.env
      standAt apos.atName
      let (f, first) ← holding [ov] (getMethod ov (Str.ofString m) pl)
      callWith pos f first (backTo pos (starEach [] X.env)) (backToKw pos (keywordEach kws X.env))) := by rfl) :
    JE X K F (.Call (.Attribute o (Str.ofString m) apos) [] kws pos) (mMethK m n jj tb mo aNil mk) := by
  subst hj
  subst eK
  intro δ S P q M σ H k xx Q c pins s I
  refine PySem.W.methodCall_KW (pl := pl) (thn (jo δ S _ q M σ H k xx (fun v H1 => ∃ w S1, _ ∧ St X.K F M S H S1 H1 ∧ Wv X.K (gS M S1 H1) v w) (fun v H1 w S1 p s v => ⟨w, S1, p, s, v⟩) pins s I) fun u s1 ⟨v, H1, I1, rx, w, S1, p1, st, v1⟩ => ?_) ht
  split at p1
  · rename_i cl fs e1
    obtain ⟨hl, p1⟩ := p1
    split at p1
    · rename_i sp e2
      obtain ⟨a, dx, vs, rfl, h1, h2⟩ := insOf_ok st.ok.cell v1 e1
      obtain rfl : u = Value.ref a := rx
      obtain ⟨hc, f, hm, R⟩ := hT cl sp e2
      refine getmeth_ok I1 h1 hc hm (h2.lookup_none hl) ?_
      refine PySem.W.callWith_KW0 (first := [.ref a]) (h₀ := X.base) I.ok.mod.kin hm.kp hall ?_ hpl
      refine thn (jk δ S1 _ p1 M σ H1 st.ok (st.slots xx) (fun vs' H3 => ∃ zs S3, (([] : List W).length + 1 = n ∧ zs.length = ks.length ∧ sp (w :: ([] ++ zs)) S3 P (fun y T => F.X y δ T)) ∧ St X.K F M S1 H1 S3 H3 ∧ Wvs X.K (gS M S3 H3) vs' zs) (fun vs H1 ws S1 p s v => ⟨ws, S1, p, s, v⟩) pos pins s1 I1) fun uz s3 ⟨vs', H3, I3, rz, zs, S3, ⟨q1, q2, q3⟩, st3, v3⟩ => ⟨I3.kIn, ?_⟩
      rw [hks]
      exact R M S3 H3 σ δ [w] zs [.ref a] vs' P st3.ok ((st.trans st3).slots xx) (.cons (v1.mono st3.sub) .nil) v3 (fun j z => by cases z; exact q1) q2 q3 pins s3 [.ref a] uz Q I3 (.cons rfl .nil) rz fun v H' w S' pw s4 v4 => c v H' w S' pw ((st.trans st3).trans s4) v4
    · exact p1.elim
  · exact p1.elim

inductive AtK where
  | fld | con (d : D) | prp (sp : DSp)
def mAttr (f : String) (tb : List (String × AtK)) (mo : EM) : EM := fun δ S P X => mo δ S (fun w S1 => match insOf S1 w with
  | some (cl, fs) => (match tb.lookup cl with
    | some .fld => (match fs.lookup f with
      | some u => P u S1
      | none => False)
    | some (.con d) => fs.lookup f = none ∧ P (.d d) S1
    | some (.prp sp) => sp [w] S1 P (fun _ _ => False)
    | none => False)
  | none => False) X
inductive AtOk (X : Cx) (K : PySem.W.Frag) (F : Fr) (f : String) (cl : String) : AtK → Prop
  | fld : Cls K (clsAt K cl) → NoAttr K (clsAt K cl) (Str.ofString f) → AtOk X K F f cl .fld
  | con {d : D} {v : V} {u : Value} : Cls K (clsAt K cl) → Con K (clsAt K cl) (Str.ofString f) v u → (∀ G, DV K G v d) → AtOk X K F f cl (.con d)
  | prp {k : Nat} {p g : Addr} {fd : FuncData} {ps : List Str} {sp : DSp} : Cls K (clsAt K cl) → PropOf K (clsAt K cl) (Str.ofString f) p g → FnOk X.prog X.w K X.mg X.base (L2N.CX X.prog X.w) k g fd ps (spD K F.T sp) → Room (k + 1) X.A → Binds K fd ps [] → AtOk X K F f cl (.prp sp)
abbrev AtsOk (X : Cx) (K : PySem.W.Frag) (F : Fr) (f : String) (tb : List (String × AtK)) : Prop := ∀ cl t, tb.lookup cl = some t → AtOk X K F f cl t
theorem ats_nil {f : String} : AtsOk X K F f [] := fun cl t e => by cases e
theorem ats_cons {f cl : String} {t : AtK} {tb : List (String × AtK)} (h : AtOk X K F f cl t) (r : AtsOk X K F f tb) : AtsOk X K F f ((cl, t) :: tb) := fun c2 s2 e => by
  rw [List.lookup_cons] at e
  split at e
  · rename_i hb
    cases e
    rw [beq_iff_eq.mp hb]
    exact h
  · exact r c2 s2 e
theorem passes_none {X : Cx} : Passes (L2N.CX X.prog X.w) X.nox (fun _ _ _ => False) := fun pins σ H s e s' I ⟨_, _, _, _, _, _, _, _, _, _, _, _, h⟩ => h.elim
theorem je_attr {f : String} {tb : List (String × AtK)} (eK : X.K = K) (hT : AtsOk X K F f tb) (jo : JE X K F o mo) (hb : attributeBase o (Str.ofString f) X.env (eval o X.env) = eval o X.env := by rfl) : JE X K F (.Attribute o (Str.ofString f) pos) (mAttr f tb mo) := by
  subst eK
  intro δ S P q M σ H k xx Q c pins s I
  refine attr_of hb (thn (jo δ S _ q M σ H k xx (fun v H1 => ∃ w S1, _ ∧ St X.K F M S H S1 H1 ∧ Wv X.K (gS M S1 H1) v w) (fun v H1 w S1 p s v => ⟨w, S1, p, s, v⟩) pins s I) fun u s1 ⟨v, H1, I1, rx, w, S1, p1, st, v1⟩ => ?_)
  split at p1
  · rename_i cl fs e1
    obtain ⟨a, dx, vs, rfl, h1, h2⟩ := insOf_ok st.ok.cell v1 e1
    obtain rfl : u = Value.ref a := rx
    split at p1
    · rename_i e2
      cases hT cl _ e2 with
      | fld hc hn =>
        split at p1
        · rename_i z ez
          obtain ⟨v', l1, l2⟩ := h2.lookup_some ez
          exact getattr_ok I1 h1 hc hn l1 fun u' s2 I2 ru => ⟨v', H1, I2, ru, c v' H1 z S1 p1 st l2⟩
        · exact p1.elim
    · rename_i d e2
      cases hT cl _ e2 with
      | con hc hn hd => exact getcon_ok I1 h1 hc hn (h2.lookup_none p1.1) fun s2 I2 => ⟨_, H1, I2, hn.rel, c _ H1 _ S1 p1.2 st (.d (hd _))⟩
    · rename_i sp e2
      cases hT cl _ e2 with
      | prp hc hp G hr hbi =>
        refine getprop_ok I1 h1 hc hp G hr hbi .nil passes_none ?_
        exact call_sp0 st.ok (.cons v1 .nil) p1 fun v' H' w' S' pw s2 r2 => c v' H' w' S' pw (st.trans s2) r2
    · exact p1.elim
  · exact p1.elim

def putW (f : String) (w : W) : List (String × W) → List (String × W)
  | [] => [(f, w)]
  | (g, u) :: r => if g = f then (g, w) :: r else (g, u) :: putW f w r
theorem putW_ok {G : Hp} {f : String} {v : V} {w : W} (h : Wv K G v w) : ∀ {vs : List (Str × V)} {ws : List (String × W)}, Wvf K G vs ws → Wvf K G (putF (Str.ofString f) v vs) (putW f w ws)
  | _, _, .nil => .cons h .nil
  | _, _, .cons (f := g) h1 r => by
    unfold putF putW
    by_cases e : g = f
    · rw [if_pos e, e]
      first
        | rw [if_pos rfl]
        | rw [if_pos (beq_self_eq_true _)]
      exact .cons h r
    · rw [if_neg e]
      first
        | rw [if_neg (fun z => e (ofString_inj z))]
        | rw [if_neg (fun z => e (ofString_inj (beq_iff_eq.mp z)))]
      exact .cons h1 (putW_ok h r)
theorem Wvf.length {G : Hp} : ∀ {vs : List (Str × V)} {ws : List (String × W)}, Wvf K G vs ws → vs.length = ws.length
  | _, _, .nil => rfl
  | _, _, .cons _ r => congrArg (· + 1) (Wvf.length r)
def putA (f : String) (cs : List String) (w x : W) (S : Store) (P : Store → Prop) : Prop := match x with
  | .ref a => (match S a with
    | some (.obj cl fs) => cs.contains cl = true ∧ fs.length < 1000 ∧ P (upS S a (.obj cl (putW f w fs)))
    | _ => False)
  | _ => False
theorem putA_ok {f : String} {cs : List String} {w x : W} {P : Store → Prop} {v y : V} (hT : ∀ cl, cs.contains cl = true → Cls K (clsAt K cl) ∧ NoAttr K (clsAt K cl) (Str.ofString f)) (k : Ok K F M S H) (hw : Wv K (gS M S H) v w) (hx : Wv K (gS M S H) y x) (p : putA f cs w x S P) :
    ∃ a C dx fs S', y = .ref a ∧ H a = some (.ins C dx fs) ∧ Cls K C ∧ NoAttr K C (Str.ofString f) ∧ fs.length < 1000 ∧ P S' ∧ St K F M S H S' (upd H a (.ins C dx (putF (Str.ofString f) v fs))) := by
  unfold putA at p
  split at p
  · rename_i a
    split at p
    · rename_i cl fs e
      obtain ⟨p1, p2, p3⟩ := p
      cases hx.to_ref
      obtain ⟨h1, h2⟩ := hT cl p1
      cases k.cell _ _ e with
      | obj h3 h4 => exact ⟨a, _, _, _, _, rfl, h3, h1, h2, by rw [h4.length]; exact p2, p3, .write k e (.obj upd_same (putW_ok hw h4))⟩
    · exact p.elim
  · exact p.elim
def mFldS (f : String) (cs : List String) (mo mv : EM) : SM := fun C δ S => mv δ S (fun w S1 => mo δ S1 (fun x S2 => putA f cs w x S2 fun S3 => C.nx δ S3) (XF C δ)) (XF C δ)
theorem js_fld {f : String} {cs : List String} {mv : EM} {p p' : Pos} (eK : X.K = K) (hT : ∀ cl, cs.contains cl = true → Cls K (clsAt K cl) ∧ NoAttr K (clsAt K cl) (Str.ofString f)) (jo : JE X K F o mo) (jv : JE X K F e mv) (hs : swapsWith e (some (.Attribute o (Str.ofString f) p')) p.line X.env = pure false := by rfl) :
    JS X K F (.Assign [.Attribute o (Str.ofString f) p'] e p) (mFldS f cs mo mv) := by
  subst eK
  refine .of (ps_fld pe pe hs) fun C δ S ex q M E σ H k x c => ?_
  have q := XF_on (Pr := fun Y => mv δ S (fun w S1 => mo δ S1 (fun x S2 => putA f cs w x S2 fun S3 => C.nx δ S3) Y) Y) ex q
  refine jv δ S _ q M σ H k x _ fun v H1 w S1 p1 s1 v1 => jo δ S1 _ p1 M σ H1 s1.ok (s1.slots x) _ fun y H2 z S2 p2 s2 v2 => ?_
  obtain ⟨a, C', dx, fs, S', e1, e2, e3, e4, e5, e6, e7⟩ := putA_ok hT s2.ok (v1.mono s2.sub) v2 p2
  exact ⟨a, C', dx, fs, e1, e2, e3, e4, e5, (c.on ((s1.trans s2).trans e7)).nx1 e7.ok (((s1.trans s2).trans e7).slots x) e6⟩
end DX

set_option Elab.async false
set_option linter.all false
set_option maxRecDepth 100000
namespace DX
open PySem PySem.Spec PyProof.Rows L2
variable {X : Cx} {K : PySem.W.Frag} {F : Fr} {M : Hid} {S S' : Store} {H H' : Hp} {σ : L2.St} {δ : Slots} {a b c e o : Expr} {es ifs : List Expr} {st : Stmt} {ma mb m mo : EM} {mr mk : AM} {pos p apos : Pos}

def Fr.nox (F : Fr) : Fr := { F with Wx := fun _ _ _ _ => False, X := fun _ _ _ => False }
theorem Ok.nox (k : Ok K F M S H) : Ok K F.nox M S H := ⟨⟨k.hid, k.cell, k.sub, k.tabs, k.keep⟩, fun _ _ _ _ _ _ _ q => q.elim⟩
theorem St.nox (s : St K F M S H S' H') : St K F.nox M S H S' H' := ⟨s.ok.nox, s.sub, s.stay⟩
def hide (M : Hid) (D : Addr) : Hid := fun a => M a ∨ a = D
theorem gS_hideNew {D : Addr} {o : HO} (h : H D = none) : gS (hide M D) S (upd H D o) = gS M S H := by
  funext a
  by_cases e : a = D
  · subst e
    rw [gS_free h]
    unfold gS
    rw [if_pos (.inr rfl)]
  · unfold gS
    rw [upd_ne e]
    by_cases n : M a
    · rw [if_pos n, if_pos (.inl n)]
    · rw [if_neg n, if_neg (fun z => z.elim n e)]
theorem gS_hideW {D : Addr} {o : HO} : gS (hide M D) S (upd H D o) = gS (hide M D) S H := by
  funext a
  by_cases e : a = D
  · subst e
    unfold gS
    rw [if_pos (.inr rfl), if_pos (.inr rfl)]
  · unfold gS
    rw [upd_ne e]
theorem gS_le {M N : Hid} (h : ∀ a, M a → N a) : Sub (gS N S H) (gS M S H) := fun a o e => by
  obtain ⟨h0, h1, h2, h3⟩ := gS_some.mp e
  exact gS_some.mpr ⟨fun z => h0 (h a z), h1, h2, h3⟩
theorem Ok.hide (k : Ok K F M S H) {D : Addr} {o : HO} (h : H D = none) (n : NoX o := by exact ⟨fun ps z => (by cases z), fun φ z => (by cases z), fun gs z => (by cases z)⟩) : Ok K F.nox (hide M D) S (upd H D o) := by
  refine ⟨⟨fun a q => ?_, fun a c e => ?_, by rw [gS_hideNew h]; exact k.sub, fun p hp => ?_, fun a q => ?_⟩, fun _ _ _ _ _ _ _ q => q.elim⟩
  rotate_right 2
  · obtain ⟨t, t1, t2⟩ := k.tabs p hp
    have ne := k.tabNew h p hp
    exact ⟨t.mono (upd_ne ne) (by rw [gS_hideNew h]; exact Sub.refl _), t1, fun z => z.elim t2 ne⟩
  · obtain ⟨m, e⟩ := k.keep a q
    have ne : a ≠ D := fun z => (k.hid a m).2.ne (by rw [z]; exact h)
    exact ⟨.inl m, by rw [upd_ne ne]; exact e⟩
  · rcases q with q | q
    · exact ⟨(k.hid a q).1, by
        by_cases z : a = D
        · exact ⟨o, by rw [z, upd_same], n⟩
        · rw [upd_ne z]; exact (k.hid a q).2⟩
    · rw [q]
      exact ⟨k.cell.none h, ⟨o, by rw [upd_same], n⟩⟩
  · rw [gS_hideNew h]
    have ne : a ≠ D := neS e (k.cell.none h)
    exact (k.cell a c e).mono (Sub.refl _) (upd_ne ne)
theorem Ok.hideW {D : Addr} {o : HO} (k : Ok K F.nox (DX.hide M D) S H) (nm : ¬ F.M0 D) (n : NoX o := by exact ⟨fun ps z => (by cases z), fun φ z => (by cases z), fun gs z => (by cases z)⟩) : Ok K F.nox (DX.hide M D) S (upd H D o) := by
  have nD : S D = none := (k.hid D (.inr rfl)).1
  refine ⟨⟨fun a q => ⟨(k.hid a q).1, ?_⟩, fun a c e => ?_, by rw [gS_hideW]; exact k.sub, fun p hp => ?_, fun a q => ?_⟩, fun _ _ _ _ _ _ _ q => q.elim⟩
  rotate_right 2
  · obtain ⟨t, t1, t2⟩ := k.tabs p hp
    have ne : p.1 ≠ D := fun z => t2 (.inr z)
    exact ⟨t.mono (upd_ne ne) (by rw [gS_hideW]; exact Sub.refl _), t1, t2⟩
  · obtain ⟨m, e⟩ := k.keep a q
    have ne : a ≠ D := fun z => nm (by rw [← z]; exact q)
    exact ⟨m, by rw [upd_ne ne]; exact e⟩
  · by_cases z : a = D
    · exact ⟨o, by rw [z, upd_same], n⟩
    · rw [upd_ne z]; exact (k.hid a q).2
  · rw [gS_hideW]
    have ne : a ≠ D := neS e nD
    exact (k.cell a c e).mono (Sub.refl _) (upd_ne ne)
theorem gS_reveal {D : Addr} {c : Cell} : gS M (upS S D c) H = gS (hide M D) S H := by
  funext a
  by_cases e : a = D
  · subst e
    unfold gS
    rw [if_pos (show hide M a a from Or.inr rfl), upS_same]
    split <;> rfl
  · unfold gS
    rw [upS_ne e]
    by_cases n : M a
    · rw [if_pos n, if_pos (.inl n)]
    · rw [if_neg n, if_neg (fun z => z.elim n e)]
theorem Ok.reveal (k0 : Ok K F M S' H') {D : Addr} {c : Cell} (k : Ok K F.nox (DX.hide M D) S H) (nm : ¬ M D) (hc : CellV K (gS (DX.hide M D) S H) H D c) : Ok K F M (upS S D c) H := by
  refine ⟨⟨fun a q => ⟨?_, (k.hid a (.inl q)).2⟩, fun a e h => ?_, by rw [gS_reveal]; exact k.sub, fun p hp => ?_, fun a q => ⟨(k0.keep a q).1, (k.keep a q).2⟩⟩, k0.hX⟩
  rotate_right 1
  · obtain ⟨t, t1, t2⟩ := k.tabs p hp
    have ne : p.1 ≠ D := fun z => t2 (.inr z)
    exact ⟨t.mono rfl (by rw [gS_reveal]; exact Sub.refl _), by rw [upS_ne ne]; exact t1, fun z => t2 (.inl z)⟩
  · have ne : a ≠ D := fun z => nm (by rw [← z]; exact q)
    rw [upS_ne ne]
    exact (k.hid a (.inl q)).1
  · rw [gS_reveal]
    by_cases z : a = D
    · subst z
      rw [upS_same] at h
      cases h
      exact hc
    · rw [upS_ne z] at h
      exact k.cell a e h
theorem SlotsOk.to {N : Hid} (x : SlotsOk K M S H σ δ) (s : Sub (gS M S H) (gS N S' H')) : SlotsOk K N S' H' σ δ := ⟨fun i w e => let ⟨v, h1, h2⟩ := x.at_ i w e; ⟨v, h1, h2.mono s⟩, x.len⟩
theorem OkC.le {N : Hid} (h : ∀ a, M a → N a) (k : OkC K N S H) : OkC K M S H := fun a c e => (k a c e).mono (gS_le h) rfl
theorem Ok.full {N : Hid} (k0 : Ok K F M S' H') (h : ∀ a, M a → N a) (k : Ok K F.nox N S H) : Ok K F N S H := ⟨⟨k.hid, k.cell, k.sub, k.tabs, k.keep⟩, fun C d fs δ S1 σ H1 q o x xd => k0.hX C d fs δ S1 σ H1 q ⟨fun a m => o.hid a (h a m), o.cell.le h, o.sub.trans (gS_le h), fun p hp => (by
    obtain ⟨t, t1, t2⟩ := o.tabs p hp
    exact ⟨t.mono rfl (gS_le h), t1, fun z => t2 (h _ z)⟩), fun a q => ⟨(k0.keep a q).1, (o.keep a q).2⟩⟩ (x.to (gS_le h)) (by
  rcases xd with xd | ⟨a, vs, h1, h2, h3⟩
  · exact .inl xd
  · exact .inr ⟨a, vs, h1, h2, h3.mono (gS_le h)⟩)⟩
theorem Ok.unhide (k0 : Ok K F M S' H') {D : Addr} (k : Ok K F.nox (DX.hide M D) S H) : Ok K F M S H := by
  have sb : Sub (gS (DX.hide M D) S H) (gS M S H) := gS_le fun _ z => .inl z
  exact ⟨⟨fun a q => k.hid a (.inl q), fun a e h => (k.cell a e h).mono sb rfl, k.sub.trans sb, fun p hp => (by
    obtain ⟨t, t1, t2⟩ := k.tabs p hp
    exact ⟨t.mono rfl sb, t1, fun z => t2 (.inl z)⟩), fun a q => ⟨(k0.keep a q).1, (k.keep a q).2⟩⟩, k0.hX⟩

def tWTs (X : Cx) (ifs : List Expr) : TT := fun σ H Q => ∀ (pins : List (Addr × Obj)) (s : Shared), Inv X pins σ H s →
    wpAny (model X.prog X.w) X.A (forIn ifs true fun c r => if r = true then do let ok ← isTrue c X.env (eval c X.env); pure (ForInStep.yield ok) else pure (ForInStep.yield r)) (TP X pins σ Q) X.xe s
def JTs (X : Cx) (K : PySem.W.Frag) (F : Fr) (ifs : List Expr) (m : TM) : Prop := ∀ δ S P, m δ S P (fun x T => F.X x δ T) → WT K F (tWTs X ifs) δ S P
def mYes : TM := fun δ S P X => P true S
theorem jts_nil : JTs X K F [] mYes := fun δ S P q M σ H k x Q c pins s I => pts_nil.run pins s σ H Q I (c true H S q (.refl k))
theorem jts_one {t : TM} (h : JT X K F c t) : JTs X K F [c] t := fun δ S P q M σ H k x Q cc pins s I => (pts_one pt).run pins s σ H Q I (h δ S P q M σ H k x Q cc)

def wipeD (δ : Slots) : List Nat → Slots
  | [] => δ
  | v :: vs => (wipeD δ vs).set v none
theorem SlotsOk.wipe (x : SlotsOk K M S H σ δ) : ∀ vs : List Nat, SlotsOk K M S H (L2.wipe σ vs) (wipeD δ vs)
  | [] => x
  | v :: vs => (SlotsOk.wipe x vs).dropV
theorem wipe_get (σ : L2.St) (j : Nat) : ∀ vs : List Nat, (wipe σ vs)[j]? = if j ∈ vs then (if j < σ.length then some none else none) else σ[j]?
  | [] => by simp [L2.wipe]
  | v :: vs => by
    unfold L2.wipe
    have ih := wipe_get σ j vs
    by_cases hv : v = j
    · subst hv
      rw [if_pos (List.mem_cons_self ..)]
      by_cases hl : v < σ.length
      · rw [if_pos hl, List.getElem?_set_self (by rw [wipe_length]; exact hl)]
      · rw [if_neg hl, List.getElem?_eq_none (by rw [List.length_set, wipe_length]; omega)]
    · rw [List.getElem?_set_ne hv, ih]
      by_cases hj : j ∈ vs
      · rw [if_pos hj, if_pos (List.mem_cons_of_mem _ hj)]
      · rw [if_neg hj, if_neg (by simp [hj]; exact fun z => hv z.symm)]
theorem wipe_same {σ' σ : L2.St} {vs ts : List Nat} (hl : σ'.length = (wipe σ vs).length) (hf : ∀ (j : Nat), j ∉ ts → σ'[j]? = (wipe σ vs)[j]?) (ht : ∀ t ∈ ts, t ∈ vs) : wipe σ' vs = wipe σ vs := by
  apply List.ext_getElem?
  intro j
  rw [wipe_get, wipe_get]
  rw [wipe_length] at hl
  by_cases hj : j ∈ vs
  · rw [if_pos hj, if_pos hj, hl]
  · rw [if_neg hj, if_neg hj, hf j fun z => hj (ht j z), wipe_get, if_neg hj]
def noX : XP := fun _ _ => False
def lcW (gd : Store → Prop) (g : GM) (t : TM) (m : EM) (δ0 : Slots) (P : List W → Store → Prop) : List W → List W → Store → Prop
  | [], acc, S => gd S ∧ P acc S
  | w :: ws, acc, S => gd S ∧ g w δ0 S (fun δ1 S1 => t δ1 S1 (fun b S2 => if b = true then m δ1 S2 (fun y S3 => lcW gd g t m δ0 P ws (acc ++ [y]) S3) noX else lcW gd g t m δ0 P ws acc S2) noX) noX
def mLc (c : Bool) (vs : List Nat) (im : IM) (g : GM) (t : TM) (m : EM) : EM := fun δ S P X => im δ S (fun ws gd S1 => ws.length < 10000000 ∧ lcW gd g t m (wipeD δ vs) (fun acc S2 => newLC c acc S2 P) ws [] S1) X
theorem lcW_gd {gd : Store → Prop} {g : GM} {t : TM} {m : EM} {δ0 : Slots} {P : List W → Store → Prop} {ws acc : List W} (h : lcW gd g t m δ0 P ws acc S) : gd S := by
  cases ws with
  | nil => exact h.1
  | cons w ws => exact h.1
theorem we_lc {wi : TI} {im : IM} {tg : TG} {g : GM} {tt : TT} {t : TM} {te : TE} {m : EM} {vs ts : List Nat} {cc : Bool} {P : W → Store → Prop} {XX : XP} (ht : ∀ t ∈ ts, t ∈ vs)
    (hi : ∀ P, im δ S P XX → WI K F wi δ S P) (hg : ∀ w δ S P, g w δ S P noX → WG K F.nox tg ts w δ S P) (hq : ∀ δ S P, t δ S P noX → WT K F.nox tt δ S P) (hm : ∀ δ S P, m δ S P noX → WE K F.nox te δ S P)
    (h : mLc cc vs im g t m δ S P XX) : WE K F (tLc wi tg tt te vs) δ S P := fun M σ H k x Q c => by
  refine hi _ h M σ H k x _ fun J H1 ws gd S1 p1 s1 jt => ?_
  obtain ⟨hlen, p1⟩ := p1
  intro Dl hD
  have nm := s1.ok.notM hD
  have nS := s1.ok.cell.none hD
  have e1 : gS (hide M Dl) S1 (upd H1 Dl (.lst [])) = gS M S1 H1 := gS_hideNew hD
  have e2 : gS (hide M Dl) S1 H1 = gS M S1 H1 := gS_hide (M := M) (N := hide M Dl) (fun a n z => by
    rcases n with n | n
    · exact absurd n z
    · rw [n]; exact ⟨nS, gS_free hD⟩) fun _ z => .inl z
  have jd := jt (hide M Dl) (fun a n z => by
    rcases n with n | n
    · exact absurd n z
    · rw [n]; exact ⟨nS, gS_free hD⟩) fun _ z => .inl z
  have kN := s1.ok.hide (o := .lst []) hD
  refine ⟨fun i m' H => m' = ws.length - i ∧ i ≤ ws.length ∧ ∃ acc xs S, lcW gd g t m (wipeD δ vs) (fun acc S2 => newLC cc acc S2 P) (ws.drop i) acc S ∧ acc.length ≤ i ∧ Ok K F.nox (hide M Dl) S H ∧ H Dl = some (.lst xs) ∧ Wvs K (gS (hide M Dl) S H) xs acc ∧ Sub (gS M S1 H1) (gS (hide M Dl) S H) ∧ ∀ a, M a → H a = H1 a,
    ⟨ws.length, by simp, Nat.zero_le _, [], [], S1, p1, Nat.le_refl _, kN, upd_same, .nil, by rw [e1]; exact Sub.refl _, fun a q => upd_ne fun z => nm (z ▸ q)⟩, ?_⟩
  rintro i m' H2 ⟨rfl, hi2, acc, xs, S2, p2, la, k2, hH, dv, u2, y2⟩
  have g2 := lcW_gd p2
  have jd2 : ItD K F (hide M Dl) J (gS (hide M Dl) S1 H1) ws gd := jd
  have hN : ∀ a, M a → hide M Dl a := fun _ z => .inl z
  obtain ⟨hs, hgo⟩ := jd2 S2 H2 (s1.ok.full hN k2) (by rw [e2]; exact u2) g2 i
  by_cases hlt : i < ws.length
  · obtain ⟨go, hy⟩ := hgo ws[i] (List.getElem?_eq_getElem hlt)
    rw [List.drop_eq_getElem_cons hlt] at p2
    obtain ⟨_, p3⟩ := p2
    refine .inr ⟨go, fun H => i < ws.length ∧ ∃ acc xs S, lcW gd g t m (wipeD δ vs) (fun acc S2 => newLC cc acc S2 P) (ws.drop (i + 1)) acc S ∧ acc.length ≤ i + 1 ∧ Ok K F.nox (hide M Dl) S H ∧ H Dl = some (.lst xs) ∧ Wvs K (gS (hide M Dl) S H) xs acc ∧ Sub (gS M S1 H1) (gS (hide M Dl) S H) ∧ ∀ a, M a → H a = H1 a,
      fun H' w => ⟨ws.length - (i + 1), by omega, rfl, by omega, w.2⟩, fun v H3 y => ?_⟩
    obtain ⟨s3, v3⟩ := hy v H3 y
    have s3n := s3.nox
    refine hg ws[i] _ S2 _ p3 (hide M Dl) (wipe σ vs) H3 v s3n.ok (((s1.slots x).to (u2.trans s3n.sub)).wipe vs) v3 _ fun σ4 H4 δ4 S4 p4 s4 x4 l4 f4 => ⟨wipe_same l4 f4 ht, ?_⟩
    refine hq δ4 S4 _ p4 (hide M Dl) σ4 H4 s4.ok x4 _ fun b H5 S5 p5 s5 => ?_
    have st5 := (s3n.trans s4).trans s5
    cases b with
    | true =>
      show te σ4 H5 _
      refine hm δ4 S5 _ p5 (hide M Dl) σ4 H5 s5.ok (s5.slots x4) _ fun u H6 w6 S6 p6 s6 v6 => ?_
      have st := st5.trans s6
      have hl6 : xs.length < sizeLine := by rw [dv.length, sizeLine_eq]; omega
      refine ⟨xs, (st.stay Dl (.inr rfl)).trans hH, hl6, hlt, acc ++ [w6], xs ++ [u], S6, p6, by simp; omega, st.ok.hideW (fun q => nm (s1.ok.keep Dl q).1), upd_same, ?_, ?_, fun a q => ?_⟩
      · rw [gS_hideW]
        exact (dv.mono st.sub).append (.cons v6 .nil)
      · rw [gS_hideW]
        exact u2.trans st.sub
      · have ne : a ≠ Dl := fun z => nm (by rw [← z]; exact q)
        rw [upd_ne ne]
        exact (st.stay a (.inl q)).trans (y2 a q)
    | false =>
      show i < ws.length ∧ _
      exact ⟨hlt, acc, xs, S5, p5, by omega, st5.ok, (st5.stay Dl (.inr rfl)).trans hH, dv.mono st5.sub, u2.trans st5.sub, fun a q => (st5.stay a (.inl q)).trans (y2 a q)⟩
  · rw [List.drop_eq_nil_of_le (by omega)] at p2
    obtain ⟨_, p3⟩ := p2
    refine .inl ⟨hs (by omega), ?_⟩
    have nS2 := (k2.hid Dl (.inr rfl)).1
    unfold newLC at p3
    cases cc with
    | true =>
      rw [if_pos rfl] at p3
      exact c (.ref Dl) H2 _ _ (p3 Dl nS2) ⟨s1.ok.reveal k2 nm (.lst hH dv), s1.sub.trans (by rw [gS_reveal]; exact u2), fun a q => (y2 a q).trans (s1.stay a q)⟩ (.ref Dl)
    | false =>
      rw [if_neg (by decide)] at p3
      split at p3
      · rename_i ds e
        rw [allD_inv e] at dv
        exact c (.ref Dl) H2 _ S2 p3 ⟨s1.ok.unhide k2, s1.sub.trans (u2.trans (gS_le hN)), fun a q => (y2 a q).trans (s1.stay a q)⟩ (.d (.lst (gS_some.mpr ⟨nm, nS2, hH, fun ps z => by cases z⟩) (dv.mono (gS_le hN)).ds))
      · exact p3.elim
theorem je_lc {tg it : Expr} {im : IM} {g : GM} {t : TM} {m : EM} {vs ts : List Nat} {cc : Bool} (ht : ∀ t ∈ ts, t ∈ vs) (ji : JI X K F tg it im) {gr : TG} {tr : TT} {er : TE}
    (h : ∀ {wi : TI}, PI X tg it wi → PE X e (tLc wi gr tr er vs)) (hg : ∀ w δ S P, g w δ S P noX → WG K F.nox gr ts w δ S P) (hq : ∀ δ S P, t δ S P noX → WT K F.nox tr δ S P) (hm : ∀ δ S P, m δ S P noX → WE K F.nox er δ S P) : JE X K F e (mLc cc vs im g t m) := by
  obtain ⟨wi, h1, h2⟩ := ji
  exact .of (h h1) fun δ S P q => we_lc ht (fun P z => h2 δ S P z) hg hq hm q
theorem js_setLc {i : Nat} {tg it : Expr} {im : IM} {g : GM} {t : TM} {m : EM} {vs ts : List Nat} {cc : Bool} (ht : ∀ t ∈ ts, t ∈ vs) (ji : JI X K F tg it im) {gr : TG} {tr : TT} {er : TE}
    (h : ∀ {wi : TI}, PI X tg it wi → PS X st (tAsg (tLc wi gr tr er vs) (gName i))) (hg : ∀ w δ S P, g w δ S P noX → WG K F.nox gr ts w δ S P) (hq : ∀ δ S P, t δ S P noX → WT K F.nox tr δ S P) (hm : ∀ δ S P, m δ S P noX → WE K F.nox er δ S P) : JS X K F st (mSet i (mLc cc vs im g t m)) := by
  obtain ⟨wi, h1, h2⟩ := ji
  refine .of (h h1) fun C δ S ex q => ?_
  have q := XF_on (Pr := mLc cc vs im g t m δ S (fun w S1 => C.nx (δ.set i (some w)) S1)) ex q
  exact ws_set (we_lc ht (fun P z => h2 δ S P z) hg hq hm q)
end DX

set_option Elab.async false
set_option linter.all false
set_option maxRecDepth 100000
namespace DX
open PySem PySem.Spec PyProof.Rows L2
variable {X : Cx} {K : PySem.W.Frag} {F : Fr} {M : Hid} {S S' : Store} {H H' : Hp} {σ : L2.St} {δ : Slots} {a b c e o ee : Expr} {es ifs : List Expr} {st : Stmt} {ma mb m mo : EM} {mr mk : AM} {pos p apos : Pos}

def litems (S : Store) (w : W) : Option (List W × (Store → Prop)) := match w with
  | .ref a => match S a with
    | some (.lst ws) => some (ws, fun T => T a = some (.lst ws))
    | _ => none
  | .d (.lst ds) => some (ds.map .d, allS)
  | _ => none
def NewHid (M N : Hid) (S : Store) (H : Hp) : Prop := (∀ a, N a → ¬ M a → S a = none ∧ gS M S H a = none) ∧ ∀ a, M a → N a
theorem litems_ok {v : V} {w : W} {ws : List W} {g : Store → Prop} (k : Ok K F M S H) (r : Wv K (gS M S H) v w) (e : litems S w = some (ws, g)) : ∃ a, v = .ref a ∧ (∃ vs, SqL K H a vs) ∧ ∀ N, NewHid M N S H → ∀ S2 H2, Ok K F N S2 H2 → Sub (gS N S H) (gS N S2 H2) → g S2 → ∃ vs, SqL K H2 a vs ∧ Wvs K (gS N S2 H2) vs ws := by
  unfold litems at e
  split at e
  · rename_i a
    split at e
    · rename_i l el
      cases e
      cases r.to_ref
      refine ⟨a, rfl, ?_, fun N hN S2 H2 k2 sb gg => ?_⟩
      · cases k.cell _ _ el with | lst h1 h2 => exact ⟨_, sqL h1⟩
      · cases k2.cell _ _ gg with | lst h1 h2 => exact ⟨_, sqL h1, h2⟩
    · cases e
  · rename_i ds
    cases e
    obtain ⟨a, vs, rfl, h1, h2⟩ := r.to_d.to_lst
    refine ⟨a, rfl, ⟨vs, sqL (gS_sub _ _ h1)⟩, fun N hN S2 H2 k2 sb gg => ⟨vs, ?_, ?_⟩⟩
    · rw [gS_hide hN.1 hN.2] at sb
      exact sqL (gS_sub _ _ (sb _ _ h1))
    · rw [gS_hide hN.1 hN.2] at sb
      exact h2.w.mono sb
  · cases e
theorem titems_ok {v : V} {w : W} {ws : List W} (k : Ok K F M S H) (r : Wv K (gS M S H) v w) (e : tseq w = some ws) : ∃ a, v = .ref a ∧ (∃ vs, SqT K H a vs) ∧ ∀ N, NewHid M N S H → ∀ S2 H2, Ok K F N S2 H2 → Sub (gS N S H) (gS N S2 H2) → ∃ vs, SqT K H2 a vs ∧ Wvs K (gS N S2 H2) vs ws := by
  obtain ⟨a, vs, rfl, h1, h2⟩ := tseq_ok r e
  refine ⟨a, rfl, ⟨vs, gS_sub.t h1⟩, fun N hN S2 H2 k2 sb => ⟨vs, ?_, ?_⟩⟩
  · rw [gS_hide hN.1 hN.2] at sb
    exact gS_sub.t (sb.t h1)
  · rw [gS_hide hN.1 hN.2] at sb
    exact h2.mono sb
def zipW (xs ys : List W) : List W := List.zipWith (fun x y => mkT [x, y]) xs ys
theorem new_pair {T : Addr} {x y : V} {w u : W} (k : Ok K F M S H) (h : H T = none) (hx : Wv K (gS M S H) x w) (hy : Wv K (gS M S H) y u) : St K F M S H S (upd H T (.tup [x, y])) ∧ Wv K (gS M S (upd H T (.tup [x, y]))) (.ref T) (mkT [w, u]) := by
  have s : St K F M S H S (upd H T (.tup [x, y])) := .new k h
  exact ⟨s, Wv.mkT (sqT (gS_new k h fun ps z => by cases z)) (.cons (hx.mono s.sub) (.cons (hy.mono s.sub) .nil))⟩
theorem zip_len {xs ys : List W} {i : Nat} (h : (zipW xs ys).length ≤ i) : xs.length ≤ i ∨ ys.length ≤ i := by
  unfold zipW at h
  rw [List.length_zipWith] at h
  omega
theorem zip_get {xs ys : List W} {i : Nat} {w : W} (h : (zipW xs ys)[i]? = some w) : ∃ x y, xs[i]? = some x ∧ ys[i]? = some y ∧ w = mkT [x, y] := by
  unfold zipW at h
  rw [List.getElem?_zipWith] at h
  cases hx : xs[i]? with
  | none => simp [hx] at h
  | some x =>
    cases hy : ys[i]? with
    | none => simp [hx, hy] at h
    | some y =>
      simp only [hx, hy, Option.some.injEq] at h
      exact ⟨x, y, rfl, rfl, h.symm⟩
def itZip (ma : AM) : IM := fun δ S P X => ma δ S (fun ws S1 => match ws with
  | [x, y] => (match litems S1 x, litems S1 y with
    | some (xs, g), some (ys, h) => P (zipW xs ys) (fun T => g T ∧ h T) S1
    | _, _ => match tseq x, tseq y with
      | some xs, some ys => P (zipW xs ys) allS S1
      | _, _ => False)
  | _ => False) X
theorem ji_zip {tg : Expr} (h : PI X tg e (RZ.iZipA K (tWA X es))) (ja : JA X K F es mr) : JI X K F tg e (itZip mr) := ⟨_, h, fun δ S P q M σ H k x R r => ja δ S _ q M σ H k x _ fun vs H1 ws S1 p1 s1 v1 => by
  split at p1
  · obtain ⟨v, u, rfl, v2, v3⟩ := v1.two
    split at p1
    · rename_i xs g ys g' e1 e2
      obtain ⟨a, rfl, ⟨xs0, a0⟩, a1⟩ := litems_ok s1.ok v2 e1
      obtain ⟨b, rfl, ⟨ys0, b0⟩, b1⟩ := litems_ok s1.ok v3 e2
      refine ⟨a, b, xs0, ys0, rfl, .inl ⟨a0, b0, r _ H1 _ _ S1 p1 s1 fun N hN hM => fun S2 H2 k2 sb gg i => ?_⟩⟩
      obtain ⟨vs, h1, h2⟩ := a1 N ⟨hN, hM⟩ S2 H2 k2 sb gg.1
      obtain ⟨us, h3, h4⟩ := b1 N ⟨hN, hM⟩ S2 H2 k2 sb gg.2
      refine ⟨fun hi => ⟨vs, us, h1, h3, by rw [h2.length, h4.length]; exact zip_len hi⟩, fun w hw => ?_⟩
      obtain ⟨wx, wy, l1, l2, rfl⟩ := zip_get hw
      obtain ⟨vx, m1, m2⟩ := h2.get l1
      obtain ⟨vy, m3, m4⟩ := h4.get l2
      refine ⟨⟨vs, us, vx, vy, h1, h3, m1, m3⟩, fun z H3 ⟨T, x', y', ez, hT, eH, n1, n2⟩ => ?_⟩
      have z1 := n1 vs h1
      have z2 := n2 us h3
      rw [m1] at z1
      rw [m3] at z2
      cases z1
      cases z2
      rw [ez, eH]
      exact new_pair k2 hT m2 m4
    · split at p1
      · rename_i xs ys e1 e2
        obtain ⟨a, rfl, ⟨xs0, a0⟩, a1⟩ := titems_ok s1.ok v2 e1
        obtain ⟨b, rfl, ⟨ys0, b0⟩, b1⟩ := titems_ok s1.ok v3 e2
        refine ⟨a, b, xs0, ys0, rfl, .inr ⟨a0, b0, r _ H1 _ _ S1 p1 s1 fun N hN hM => fun S2 H2 k2 sb gg i => ?_⟩⟩
        obtain ⟨vs, h1, h2⟩ := a1 N ⟨hN, hM⟩ S2 H2 k2 sb
        obtain ⟨us, h3, h4⟩ := b1 N ⟨hN, hM⟩ S2 H2 k2 sb
        refine ⟨fun hi => ⟨vs, us, h1, h3, by rw [h2.length, h4.length]; exact zip_len hi⟩, fun w hw => ?_⟩
        obtain ⟨wx, wy, l1, l2, rfl⟩ := zip_get hw
        obtain ⟨vx, m1, m2⟩ := h2.get l1
        obtain ⟨vy, m3, m4⟩ := h4.get l2
        refine ⟨⟨vs, us, vx, vy, h1, h3, m1, m3⟩, fun z H3 ⟨T, x', y', ez, hT, eH, n1, n2⟩ => ?_⟩
        have z1 := n1 vs h1
        have z2 := n2 us h3
        rw [m1] at z1
        rw [m3] at z2
        cases z1
        cases z2
        rw [ez, eH]
        exact new_pair k2 hT m2 m4
      · exact p1.elim
  · exact p1.elim⟩
def enumW (xs : List W) : List W := xs.zipIdx.map fun p => mkT [.d (.int (p.2 : Int)), p.1]
theorem enumW_len {xs : List W} : (enumW xs).length = xs.length := by simp [enumW]
theorem enumW_get {xs : List W} {i : Nat} {w : W} (h : (enumW xs)[i]? = some w) : ∃ x, xs[i]? = some x ∧ w = mkT [.d (.int (i : Int)), x] := by
  unfold enumW at h
  rw [List.getElem?_map, List.getElem?_zipIdx] at h
  cases q : xs[i]? with
  | none => rw [q] at h; cases h
  | some x =>
    rw [q] at h
    refine ⟨x, rfl, ?_⟩
    simpa using h.symm
def itEnum (ma : AM) : IM := fun δ S P X => ma δ S (fun ws S1 => match ws with
  | [x] => (match litems S1 x with
    | some (xs, g) => P (enumW xs) g S1
    | none => False)
  | _ => False) X
theorem ji_enum {tg : Expr} (h : PI X tg e (iEnum K (tWA X es))) (ja : JA X K F es mr) : JI X K F tg e (itEnum mr) := ⟨_, h, fun δ S P q M σ H k x R r => ja δ S _ q M σ H k x _ fun vs H1 ws S1 p1 s1 v1 => by
  split at p1
  · obtain ⟨v, rfl, v2⟩ := v1.one
    split at p1
    · rename_i xs g e1
      obtain ⟨a, rfl, ⟨xs0, a0⟩, a1⟩ := litems_ok s1.ok v2 e1
      refine ⟨a, xs0, rfl, a0, r _ H1 _ _ S1 p1 s1 fun N hN hM => fun S2 H2 k2 sb gg i => ?_⟩
      obtain ⟨vs, h1, h2⟩ := a1 N ⟨hN, hM⟩ S2 H2 k2 sb gg
      refine ⟨fun hi => ⟨vs, h1, by rw [h2.length]; rw [enumW_len] at hi; exact hi⟩, fun w hw => ?_⟩
      obtain ⟨wx, l1, rfl⟩ := enumW_get hw
      obtain ⟨vx, m1, m2⟩ := h2.get l1
      refine ⟨⟨vs, vx, h1, m1⟩, fun z H3 ⟨T, x', ez, hT, eH, n1⟩ => ?_⟩
      have z1 := n1 vs h1
      rw [m1] at z1
      cases z1
      rw [ez, eH]
      exact new_pair k2 hT (.d (.int _)) m2
    · exact p1.elim
  · exact p1.elim⟩
def strW (s : Str) : List W := s.cps.toList.map fun c => W.d (.str ⟨#[c]⟩)
def itStr (ma : EM) : IM := fun δ S P X => ma δ S (fun w S1 => match w with
  | .d (.str s) => P (strW s) allS S1
  | _ => False) X
theorem ji_str {tg : Expr} (ja : JE X K F e ma) : JI X K F tg e (itStr ma) := ⟨_, pi_str pe, fun δ S P q M σ H k x R r => ja δ S _ q M σ H k x _ fun v H1 w S1 p1 s1 v1 => by
  split at p1
  · rename_i s
    cases v1.to_d.to_str
    refine ⟨s, rfl, r _ H1 _ _ S1 p1 s1 fun N hN hM => fun S2 H2 k2 sb gg i => ?_⟩
    have hl : (strW s).length = s.cps.size := by unfold strW; simp
    refine ⟨fun hi => by rw [hl] at hi; exact hi, fun w hw => ?_⟩
    unfold strW at hw
    rw [List.getElem?_map] at hw
    cases q : s.cps.toList[i]? with
    | none => rw [q] at hw; cases hw
    | some c =>
      rw [q] at hw
      cases hw
      have q2 : s.cps[i]? = some c := by simpa using q
      refine ⟨?_, fun z H3 ⟨eH, c', hc, ez⟩ => ?_⟩
      · show i < s.cps.size
        exact (Array.getElem?_eq_some_iff.mp q2).1
      · rw [q2] at hc
        cases hc
        rw [ez, eH]
        exact ⟨.refl k2, .d (.str _)⟩
  · exact p1.elim⟩

def tyW (T : String) (S : Store) (w : W) : Bool := match w with
  | .ref a => match S a with
    | some (.lst _) => T == "list"
    | some (.dct _) => T == "dict"
    | some (.dctT _) => T == "dict"
    | _ => false
  | .d (.lst _) => T == "list"
  | .d (.str _) => T == "str"
  | _ => false
theorem tyW_ok {T : String} {v : V} {w : W} (k : OkC K M S H) (r : Wv K (gS M S H) v w) (e : tyW T S w = true) : tyV K T v H := by
  unfold tyW at e
  split at e
  · rename_i a
    cases r.to_ref
    split at e
    · rename_i l el
      cases k _ _ el with | lst h1 h2 => exact .inl ⟨beq_iff_eq.mp e, _, sqL h1⟩
    · rename_i l el
      cases k _ _ el with | dct h1 h2 => exact .inr (.inr (.inl ⟨beq_iff_eq.mp e, .inl ⟨_, h1⟩⟩))
    · rename_i l el
      cases k _ _ el with | dctT h1 h2 => exact .inr (.inr (.inl ⟨beq_iff_eq.mp e, .inr ⟨_, h1⟩⟩))
    · cases e
  · obtain ⟨a, vs, rfl, h1, h2⟩ := r.to_d.to_lst
    exact .inl ⟨beq_iff_eq.mp e, _, sqL (gS_sub _ _ h1)⟩
  · cases r.to_d.to_str
    exact beq_iff_eq.mp e
  · cases e
abbrev OM := W → List W → Store → (W → Store → Prop) → Prop
def RM (K : PySem.W.Frag) (F : Fr) (r : V → List V → Hp → VK → Prop) (o : OM) : Prop := ∀ (M : Hid) (S : Store) (H : Hp) (x : W) (ws : List W) (v : V) (vs : List V) (P : W → Store → Prop), Ok K F M S H → Wv K (gS M S H) v x → Wvs K (gS M S H) vs ws → o x ws S P →
  ∀ Q : VK, (∀ z H' w S', P w S' → St K F M S H S' H' → Wv K (gS M S' H') z w → Q z H') → r v vs H Q
def mBM (T : String) (om : OM) (mo : EM) (mr : AM) : EM := fun δ S P X => mo δ S (fun w S1 => tyW T S1 w = true ∧ mr δ S1 (fun ws S2 => om w ws S2 P) X) X
theorem je_bm {T : String} {r : V → List V → Hp → VK → Prop} {om : OM} (hr : RM K F r om) (jo : JE X K F o mo) (ja : JA X K F (e :: es) mr) (h : ∀ {to : TE} {t : TA}, PE X o to → PA X (e :: es) t → PE X ee (tBM K T r to t)) : JE X K F ee (mBM T om mo mr) :=
  .of (h pe pa) fun δ S P q M σ H k x Q c => jo δ S _ q M σ H k x _ fun v H1 w S1 p1 s1 v1 => ⟨tyW_ok s1.ok.cell v1 p1.1, ja δ S1 _ p1.2 M σ H1 s1.ok (s1.slots x) _ fun vs H2 ws S2 p2 s2 v2 =>
    hr M S2 H2 w ws v vs P s2.ok (v1.mono s2.sub) v2 p2 Q fun z H' w' S' pw s3 v3 => c z H' w' S' pw ((s1.trans s2).trans s3) v3⟩
theorem RM.or {r r' : V → List V → Hp → VK → Prop} {o o' : OM} (h : RM K F r o) (h' : RM K F r' o') : RM K F (fun x vs H Q => r x vs H Q ∨ r' x vs H Q) (fun x ws S P => o x ws S P ∨ o' x ws S P) := fun M S H x ws v vs P k a b p Q q => by
  rcases p with p | p
  · exact .inl (h M S H x ws v vs P k a b p Q q)
  · exact .inr (h' M S H x ws v vs P k a b p Q q)
theorem lst_at {a : Addr} {l : List W} (k : Ok K F M S H) (e : S a = some (.lst l)) : ∃ vs, H a = some (.lst vs) ∧ Wvs K (gS M S H) vs l := by
  cases k.cell _ _ e with | lst h1 h2 => exact ⟨_, h1, h2⟩
def omAppend : OM := fun x ws S P => match x, ws with
  | .ref a, [w] => (match S a with
    | some (.lst l) => l.length < 10000000 ∧ P (.d .non) (upS S a (.lst (l ++ [w])))
    | _ => False)
  | _, _ => False
theorem rm_append : RM K F rAppend omAppend := fun M S H x ws v vs P k a b p Q q => by
  unfold omAppend at p
  split at p
  · rename_i a0 w
    split at p
    · rename_i l el
      cases a.to_ref
      obtain ⟨vs, h1, h2⟩ := lst_at k el
      obtain ⟨y, rfl, hy⟩ := b.one
      exact ⟨a0, vs, y, rfl, rfl, h1, by rw [h2.length, sizeLine_eq]; omega, q _ _ _ _ p.2 (.write k el (.lst upd_same (h2.append (.cons hy .nil)))) (.d .non)⟩
    · exact p.elim
  · exact p.elim
theorem Wvs.dropLast {G : Hp} {vs : List V} {ws : List W} (h : Wvs K G vs ws) : Wvs K G vs.dropLast ws.dropLast := by
  rw [List.dropLast_eq_take, List.dropLast_eq_take, h.length]
  exact h.take _
def setIx (x y w : W) (S : Store) (P : Store → Prop) : Prop := match x, y with
  | .ref a, .d (.int i) => (match S a with
    | some (.lst l) => (match ixN l.length i with
      | some j => P (upS S a (.lst (l.set j w)))
      | none => False)
    | _ => False)
  | _, _ => False
def tgSub (mo mi : EM) : GM := fun w δ S P X => mo δ S (fun x S1 => mi δ S1 (fun y S2 => setIx x y w S2 fun S3 => P δ S3) X) X
theorem jg_sub {i : Expr} {mi : EM} (jo : JE X K F o mo) (ji : JE X K F i mi) (h : ∀ {to ti : TE}, PE X o to → PE X i ti → PG X e (gSub to ti rSetL)) : JG X K F e [] (tgSub mo mi) := .of (h pe pe) fun w δ S P q M σ H v k x r Q c =>
  jo δ S _ q M σ H k x _ fun v1 H1 w1 S1 p1 s1 r1 => ji δ S1 _ p1 M σ H1 s1.ok (s1.slots x) _ fun v2 H2 w2 S2 p2 s2 r2 => by
    have s12 := s1.trans s2
    unfold setIx at p2
    split at p2
    · rename_i a0 i0
      split at p2
      · rename_i l el
        split at p2
        · rename_i j ej
          cases r1.to_ref
          cases r2.to_d.to_int
          obtain ⟨vs, h1, h2⟩ := lst_at s2.ok el
          have s3 : St K F M S2 H2 (upS S2 a0 (.lst (l.set j w))) (upd H2 a0 (.lst (vs.set j v))) := .write s2.ok el (.lst upd_same (Wvs.set (r.mono s12.sub) j h2))
          exact ⟨a0, vs, i0, j, rfl, rfl, h1, by rw [h2.length]; exact ej, c σ _ δ _ p2 (s12.trans s3) ((s12.trans s3).slots x) rfl fun _ _ => rfl⟩
        · exact p2.elim
      · exact p2.elim
    · exact p2.elim
end DX

set_option Elab.async false
set_option linter.all false
set_option maxRecDepth 100000
namespace DX
open PySem PySem.Spec PyProof.Rows L2
variable {X : Cx} {K : PySem.W.Frag} {F : Fr} {M : Hid} {S S' : Store} {H H' : Hp} {σ : L2.St} {δ : Slots} {a b c e o ee : Expr} {es ifs : List Expr} {st : Stmt} {ma mb m mo : EM} {mr mk : AM} {pos p apos : Pos} {k n : Nat} {f C : Addr} {fd : FuncData} {ps ks : List Str} {sp : DSp} {x : Str}

theorem quiet_consN {i : Nat} {ms : GsM} (h : QuietGs ms) : QuietGs (tgsCons (tgN i) ms) := fun ws δ S P X Y q => by
  unfold tgsCons tgN at q ⊢
  cases ws with
  | nil => exact q
  | cons w ws => exact h _ _ _ _ X Y q
section
variable {own : List (Str × Nat)} {elt tg iter : Expr} {scope : Scope} {spos : Pos} {im : IM} {g : GM} {t : TM} {ts : List Nat} {cc : Bool} {y : Str} {i : Nat} {py : Pos}
theorem je_lcG (hc : X.calm = true) (ht : ∀ t ∈ ts, t ∈ own.map (·.2)) (nd : X.N.Nodup) (ok : BlkOk X.N X.env.scope scope own) (ji : JI X K F tg iter im)
    (hg : ∀ (s : Shared) (H : Hp) (C : Addr) (cl : List (Str × Addr)) (fp : List Addr), JG (X.blk s H scope (compEnvC scope cl C X.env) fp) K F.nox tg ts g)
    (hq : ∀ (s : Shared) (H : Hp) (C : Addr) (cl : List (Str × Addr)) (fp : List Addr), JTs (X.blk s H scope (compEnvC scope cl C X.env) fp) K F.nox ifs t)
    (he : ∀ (s : Shared) (H : Hp) (C : Addr) (cl : List (Str × Addr)) (fp : List Addr), JE (X.blk s H scope (compEnvC scope cl C X.env) fp) K F.nox elt m)
    (hs : ∀ x, foldedSetIterable iter X.env x = pure x := by intro _; rfl) : JE X K F (.ListComp elt [⟨tg, iter, ifs, 0⟩] scope pos) (mLc cc (own.map (·.2)) im g t m) :=
  je_lc ht ji (gr := fun v σ H Q => ∀ s H0 C cl fp, tWG (X.blk s H0 scope (compEnvC scope cl C X.env) fp) tg v σ H Q) (tr := fun σ H Q => ∀ s H0 C cl fp, tWTs (X.blk s H0 scope (compEnvC scope cl C X.env) fp) ifs σ H Q) (er := fun σ H Q => ∀ s H0 C cl fp, tW (X.blk s H0 scope (compEnvC scope cl C X.env) fp) elt σ H Q)
    (fun h => pe_lc hc nd h ok (fun s H C cl fp => ⟨fun pins s' σ H' v u Q I r h => h s H C cl fp pins s' u I r⟩) (fun s H C cl fp => ⟨fun pins s' σ H' Q I h => h s H C cl fp pins s' I⟩) (fun s H C cl fp => ⟨fun pins s' σ H' Q I h => h s H C cl fp pins s' I⟩) hs)
    (fun w δ S P q M σ H v k x r Q c s H0 C cl fp => hg s H0 C cl fp w δ S P q M σ H v k x r Q c) (fun δ S P q M σ H k x Q c s H0 C cl fp => hq s H0 C cl fp δ S P q M σ H k x Q c) (fun δ S P q M σ H k x Q c s H0 C cl fp => he s H0 C cl fp δ S P q M σ H k x Q c)
theorem js_setLcG (hc : X.calm = true) (ht : ∀ t ∈ ts, t ∈ own.map (·.2)) (nd : X.N.Nodup) (hy : X.N[i]? = some y) (hyl : X.env.scope.names.lookup y = some .local)
    (hsw : swapsWith (.ListComp elt [⟨tg, iter, ifs, 0⟩] scope pos) (some (.Name y py)) spos.line X.env = pure true) (ok : BlkOk X.N X.env.scope scope own) (ji : JI X K F tg iter im)
    (hg : ∀ (s : Shared) (H : Hp) (C : Addr) (cl : List (Str × Addr)) (fp : List Addr), JG (X.blk s H scope (compEnvC scope cl C X.env) fp) K F.nox tg ts g)
    (hq : ∀ (s : Shared) (H : Hp) (C : Addr) (cl : List (Str × Addr)) (fp : List Addr), JTs (X.blk s H scope (compEnvC scope cl C X.env) fp) K F.nox ifs t)
    (he : ∀ (s : Shared) (H : Hp) (C : Addr) (cl : List (Str × Addr)) (fp : List Addr), JE (X.blk s H scope (compEnvC scope cl C X.env) fp) K F.nox elt m)
    (hs : ∀ x, foldedSetIterable iter X.env x = pure x := by intro _; rfl) : JS X K F (.Assign [.Name y py] (.ListComp elt [⟨tg, iter, ifs, 0⟩] scope pos) spos) (mSet i (mLc cc (own.map (·.2)) im g t m)) :=
  js_setLc ht ji (gr := fun v σ H Q => ∀ s H0 C cl fp, tWG (X.blk s H0 scope (compEnvC scope cl C X.env) fp) tg v σ H Q) (tr := fun σ H Q => ∀ s H0 C cl fp, tWTs (X.blk s H0 scope (compEnvC scope cl C X.env) fp) ifs σ H Q) (er := fun σ H Q => ∀ s H0 C cl fp, tW (X.blk s H0 scope (compEnvC scope cl C X.env) fp) elt σ H Q)
    (fun h => ps_setLc hc nd hy hyl hsw h ok (fun s H C cl fp => ⟨fun pins s' σ H' v u Q I r h => h s H C cl fp pins s' u I r⟩) (fun s H C cl fp => ⟨fun pins s' σ H' Q I h => h s H C cl fp pins s' I⟩) (fun s H C cl fp => ⟨fun pins s' σ H' Q I h => h s H C cl fp pins s' I⟩) hs)
    (fun w δ S P q M σ H v k x r Q c s H0 C cl fp => hg s H0 C cl fp w δ S P q M σ H v k x r Q c) (fun δ S P q M σ H k x Q c s H0 C cl fp => hq s H0 C cl fp δ S P q M σ H k x Q c) (fun δ S P q M σ H k x Q c s H0 C cl fp => he s H0 C cl fp δ S P q M σ H k x Q c)
end
def relabelS (scope st : Scope) : Scope := { scope with names := scope.names.map fun (n, k) => if (k == .free && st.kind == .function && st.names.lookup n == some .cell) then (n, .cell) else (n, k) }
theorem blkOk_nest {N : List Str} {sc scope : Scope} {own : List (Str × Nat)} {env : Env} (st : Scope) (e : env.scope = st) (h : blkC N (relabelS sc st) scope own = true) : BlkOk N (relabel sc env) scope own := by
  subst e
  exact blkOk_by h
theorem takes_none5 {X : Cx} : L2N.Takes X (fun _ _ _ _ => False) := fun _ _ ⟨_, _, _, _, _, _, _, _, _, _, _, _, _, _, _, _, w⟩ => w.elim

def entI (e : DictEntry) : Option (Str × Int) := match e.key, e.val with
  | .str x _, .int i _ => some (x, i)
  | _, _ => none
def WD (K : PySem.W.Frag) (w : World) (d : Addr) (rows : List (Str × Int)) : Prop := ∃ es n, KDict K w d es n ∧ es.toList.map entI = rows.map some
section
variable {w : World} {d : Addr} {rows : List (Str × Int)} {z : Str} {i : Int}
theorem ent_find (z : Str) : ∀ (l : List DictEntry) (rows : List (Str × Int)), l.map entI = rows.map some → (match rows.lookup z with
    | some i => ∃ e t, l.find? (·.key.isStr z) = some e ∧ e.val = .int i t
    | none => l.find? (·.key.isStr z) = none) ∧ l.any (·.refKey) = false
  | [], [], _ => ⟨rfl, rfl⟩
  | [], _ :: _, h => by simp at h
  | _ :: _, [], h => by simp at h
  | e :: l, (x, i) :: rows, h => by
    simp only [List.map_cons, List.cons.injEq] at h
    obtain ⟨h1, h2⟩ := h
    obtain ⟨a1, a2⟩ := ent_find z l rows h2
    obtain ⟨hash, key, val⟩ := e
    have hk : ∃ t u, key = .str x t ∧ val = .int i u := by
      unfold entI at h1
      cases key <;> cases val <;> simp at h1
      obtain ⟨rfl, rfl⟩ := h1
      exact ⟨_, _, rfl, rfl⟩
    obtain ⟨t, u, rfl, rfl⟩ := hk
    refine ⟨?_, by rw [List.any_cons, a2]; rfl⟩
    rw [List.lookup_cons, List.find?_cons]
    have hs : Value.isStr (.str x t) z = (z == x) := by
      rw [Bool.eq_iff_iff, beq_iff_eq]
      show (x == z) = true ↔ _
      rw [beq_iff_eq]
      exact ⟨Eq.symm, Eq.symm⟩
    simp only [hs]
    cases hz : z == x with
    | true => exact ⟨_, u, rfl, rfl⟩
    | false => exact a1
theorem WD.none (h : WD K w d rows) (e : rows.lookup z = none) : PySem.W.nsIn K d z = some none := by
  obtain ⟨es, n, k, hr⟩ := h
  obtain ⟨h1, h2⟩ := ent_find z _ _ hr
  rw [e] at h1
  unfold PySem.W.nsIn
  rw [k.at_]
  simp only [h1, h2]
  rfl
theorem WD.some (h : WD K w d rows) (e : rows.lookup z = some i) : ∃ t, PySem.W.nsIn K d z = some (some (.int i t)) := by
  obtain ⟨es, n, k, hr⟩ := h
  obtain ⟨h1, h2⟩ := ent_find z _ _ hr
  rw [e] at h1
  obtain ⟨e, t, h3, h4⟩ := h1
  refine ⟨t, ?_⟩
  unfold PySem.W.nsIn
  rw [k.at_]
  simp only [h3, h4]
theorem WD.isK (h : WD K w d rows) : ∃ r, PySem.W.nsIn K d z = Option.some r ∧ r.isSome = (rows.lookup z).isSome := by
  cases e : rows.lookup z with
  | none => exact ⟨_, h.none e, rfl⟩
  | some i =>
    obtain ⟨t, ht⟩ := h.some e
    exact ⟨_, ht, rfl⟩
theorem WD.kd (h : WD K w d rows) : ∃ es n, KDict K w d es n := by
  obtain ⟨es, n, k, _⟩ := h
  exact ⟨es, n, k⟩
end

section
variable {P : Program} {w : World} {mg : Str → Option Value} {base : Heap} {TT : List (Addr × Str)}
end
theorem Wvs.split {G : Hp} {vs : List V} {ws : List W} (h : Wvs K G vs ws) (n : Nat) : Wvs K G (vs.take n) (ws.take n) ∧ Wvs K G (vs.drop n) (ws.drop n) := ⟨h.take n, h.drop n⟩
end DX
namespace DX
open PySem PySem.Spec PyProof.Rows L2
theorem fn_false {TT : List (Addr × Str)} {P : Program} {w : World} {K : PySem.W.Frag} {mg : Str → Option Value} {base : Heap} {CX : CXT} {k : Nat} {f : Addr} {fd : FuncData} {ps : List Str} : FnOk P w K mg base CX k f fd ps (spD K TT fun _ _ _ _ => False) :=
  ⟨fun vs H Q E ⟨_, _, _, _, _, _, _, _, _, h, _⟩ => h.elim, fun A outer s H args us vs Q E _ _ _ _ ⟨_, _, _, _, _, _, _, _, _, h, _⟩ => h.elim⟩
def atL {α : Type} (l : List α) (i : Nat) : List α := l[i]?.toList
theorem wvs_atL {K : PySem.W.Frag} {G : Hp} {vs : List V} {ws : List W} (r : Wvs K G vs ws) (i : Nat) : Wvs K G (atL vs i) (atL ws i) := by
  unfold atL
  cases e : ws[i]? with
  | none =>
    have h : vs[i]? = none := by
      rw [List.getElem?_eq_none_iff] at e ⊢
      rw [r.length]
      exact e
    rw [h]
    exact .nil
  | some d =>
    obtain ⟨v, h1, h2⟩ := r.get e
    rw [h1]
    exact .cons h2 .nil
theorem vals_atL {vs : List V} {us : List Value} (r : Vals vs us) (i : Nat) : Vals (atL vs i) (atL us i) := by
  unfold atL
  cases e : vs[i]? with
  | none => rw [Vals.none_of r e]; exact .nil
  | some v =>
    obtain ⟨u, h1, h2⟩ := Vals.get r e
    rw [h1]
    exact .cons h2 .nil
theorem atL_l {α : Type} {ws us : List α} {n i : Nat} (h : ws.length = n) (hi : i < n) : atL (ws ++ us) i = atL ws i := by
  unfold atL
  rw [List.getElem?_append_left (by omega)]
theorem atL_r {α : Type} {ws us : List α} {n i j : Nat} (h : ws.length = n) (hi : i = n + j) : atL (ws ++ us) i = atL us j := by
  unfold atL
  rw [List.getElem?_append_right (by omega)]
  congr 2
  omega
end DX
namespace DX
open PySem PySem.Spec PyProof.Rows L2
section
variable {X : Cx} {K : PySem.W.Frag} {F : Fr} {M : Hid} {S S' : Store} {H H' : Hp} {σ : L2.St} {δ : Slots} {o : Expr} {pos : Pos}
end
end DX
namespace DX
open PySem L2
theorem fld_nil {K : PySem.W.Frag} {f : String} : ∀ cl, ([] : List String).contains cl = true → Cls K (clsAt K cl) ∧ NoAttr K (clsAt K cl) (Str.ofString f) := fun cl h => by simp at h
theorem fld_cons {K : PySem.W.Frag} {f c : String} {cs : List String} (h1 : Cls K (clsAt K c)) (h2 : NoAttr K (clsAt K c) (Str.ofString f)) (r : ∀ cl, cs.contains cl = true → Cls K (clsAt K cl) ∧ NoAttr K (clsAt K cl) (Str.ofString f)) :
    ∀ cl, (c :: cs).contains cl = true → Cls K (clsAt K cl) ∧ NoAttr K (clsAt K cl) (Str.ofString f) := fun cl h => by
  rw [List.contains_cons] at h
  rcases Bool.or_eq_true_iff.mp h with h | h
  · rw [beq_iff_eq.mp h]
    exact ⟨h1, h2⟩
  · exact r cl h
end DX
namespace DX
open PySem PySem.Spec PyProof.Rows L2
section
variable {X : Cx} {K : PySem.W.Frag} {F : Fr} {k : Nat} {f : Addr} {fd : FuncData} {ps : List Str} {sp : DSp}
theorem rn_fn0 (eK : X.K = K) (G : FnOk X.prog X.w K X.mg X.base (L2N.CX X.prog X.w) k f fd ps (spD K F.T sp)) (hr : Room k X.A) (hb : L2.Binds K fd ps []) (tk : L2N.Takes X F.Wx) : Rn X K F (.ref f) none [] sp := by
  have h := rn_fn (dvs := []) (dds := []) eK G hr hb .nil (fun _ => .nil) tk
  have e : (fun ws => sp (ws ++ [])) = sp := funext fun ws => by rw [List.append_nil]
  rwa [e] at h
end
end DX

set_option Elab.async false
set_option linter.all false
set_option maxRecDepth 100000
namespace DX
open PySem PySem.Spec PyProof.Rows PySem.W
section
variable {prog : Program} {w : World} {A : Around} {E : Value → Shared → Prop} {s : Shared} {K : Frag} {y C f : Addr}
end
end DX
namespace DX
open PySem PySem.Spec PyProof.Rows L2
variable {X : Cx} {K : PySem.W.Frag} {F : Fr} {a : Expr} {mo : EM} {p pos : Pos}
end DX

set_option Elab.async false
set_option linter.all false
set_option maxRecDepth 100000
set_option maxHeartbeats 2000000
namespace DX
open PySem PySem.Spec PyProof.Rows L2
section
variable {prog : Program} {w : World} {A : Around} {E : Value → Shared → Prop} {s : Shared}
end
end DX
namespace DX
open PySem PySem.Spec PyProof.Rows L2
variable {X : Cx} {K : PySem.W.Frag} {F : Fr} {e : Expr} {es : List Expr} {mr : AM}
end DX

set_option Elab.async false
set_option linter.all false
set_option maxRecDepth 100000
namespace DX
open PySem PySem.Spec PyProof.Rows L2
def spLaw (K : PySem.W.Frag) (TT : List (Addr × Str)) : Sp := fun vs H Q _ => ∃ (a : Addr) (ns : List Int), vs = [.ref a] ∧ SqL K H a (ns.map V.int) ∧ ns.length ≤ 63 ∧ (∀ H', Q (.bl true) H') ∧ ∀ p ∈ TT, H p.1 = some (.tbl #[])
def Same (H H' : Hp) : Prop := ∀ b o, H b = some o → H' b = some o
def spBag (K : PySem.W.Frag) : Sp := fun vs H Q _ => ∃ (a : Addr) (ns : List Int), vs = [.ref a] ∧ SqL K H a (ns.map V.int) ∧ ns.length ≤ 63 ∧ ∀ (H' : Hp) (p c : Addr) (ms : List Int) (z : Int), p ≠ c → Same H H' →
  H' p = some (.lst [.ref c, .int 0, .int 0, .int z, .int 0]) → H' c = some (.lst (ms.map V.int)) → ms.length ≤ 63 → 0 ≤ z → z < 2147483629 → Q (.ref p) H'
def bagC (c : Addr) (i r z n : Int) : Cell := .lst [.ref c, .d (.int i), .d (.int r), .d (.int z), .d (.int n)]
def bagI (ms : List Int) : Cell := .lst (ms.map fun m => .d (.int m))
def bagS (p c : Addr) (ms : List Int) (z : Int) : Store := upS (upS (fun _ => none) c (bagI ms)) p (bagC c 0 0 z 0)
def lawC : Ct := { nx := fun _ _ => False, rt := fun w _ => w = .d (.bl true), X := fun _ _ _ => False }
theorem wints {K : PySem.W.Frag} {G : Hp} : ∀ ms : List Int, Wvs K G (ms.map V.int) (ms.map fun m => W.d (.int m))
  | [] => .nil
  | m :: ms => .cons (.d (.int m)) (wints ms)
theorem passes_f {X : Cx} : Passes (L2N.CX X.prog X.w) X (fun _ _ _ => False) := fun _ _ _ _ _ _ _ ⟨_, _, _, _, _, _, _, _, _, _, _, _, h⟩ => h.elim
theorem okFN {P : Program} {w : World} {K : PySem.W.Frag} {mg : Str → Option Value} {base : Heap} {x qual : Str} {st : Stmt} {f : Addr} {fd : FuncData} {N ps : List Str} {k : Nat} {sp : Sp} (Fn : Fun K x qual st f fd) (Sc : FnScope N ps (defScope st)) (len : ∀ vs H Q E, sp vs H Q E → vs.length = ps.length)
    (hb : ∀ (cdv : Value) (A : Around) (outer : List Env) (s : Shared) (H : Hp) (vs : List V) (Q : VK) (E : XK), Room k (A.deeper (envOfC qual (defScope st) s.heap.objs.size f cdv)) → sp vs H Q E →
      ∃ t, PSs (cxOf (L2N.CX P w) P w K mg base N qual (defScope st) f cdv A outer s H E) (defBody st) t ∧ t { nx := fun _ H' => Q .non H', rt := Q } (start N vs) H) : FnOk P w K mg base (L2N.CX P w) (k + 1) f fd ps sp := by
  obtain ⟨oc, od, kV, doc, pm, an, cdv, ct, osl, rfl, lk, hcd⟩ := Fn.ex
  exact fn_of lk hcd Sc len fun A outer s H vs Q E hr hsp => hb cdv A outer s H vs Q E hr hsp
theorem enter_law {X : Cx} {K : PySem.W.Frag} {rest : List Stmt} {m : SM} {N : List Str} {n : Nat} {a : Addr} {ns : List Int} {H : Hp} {E : Ends} (hN : N.length = n + 2) (hS : SqL K H a (ns.map V.int)) (hlen : ns.length ≤ 63) (q : ∀ H', E.rt (.bl true) H')
    {TT : List (Addr × Str)} (hT : ∀ p ∈ TT, H p.1 = some (.tbl #[])) (js : ∀ F : Fr, F.Wx = (fun _ _ _ _ => False) → F.T = TT → JSs X K F rest m) (hm : ∀ p c ms z, p ≠ c → ms.length ≤ 63 → 0 ≤ z → z < 2147483629 → m lawC (none :: some (.ref p) :: List.replicate n none) (bagS p c ms z)) :
    tSeq (tAsg (tCall (spBag K) [] (fun _ _ _ => False) (tCons (tVar 0) tNil)) (gName 1)) (tWSs X rest) E (L2.start N [.ref a]) H := by
  refine ⟨.ref a, rfl, ⟨a, ns, rfl, hS, hlen, fun H' p c ms z ne sm h1 h2 hl h3 h4 => ?_⟩⟩
  show tWSs X rest E ((L2.start N [V.ref a]).set 1 (some (.ref p))) H'
  have ok : Ok K { G := none0, Wx := fun _ _ _ _ => False, X := fun _ _ _ => False, T := TT } (fun _ => False) (bagS p c ms z) H' := by
    refine ⟨⟨fun a h => h.elim, fun b cl e => ?_, sub0, fun t ht => ?_, fun a q => q.elim⟩, fun _ _ _ _ _ _ _ q => q.elim⟩
    rotate_right 1
    · have ht2 := sm _ _ (hT t ht)
      have n1 : t.1 ≠ p := fun z => by rw [z, h1] at ht2; cases ht2
      have n2 : t.1 ≠ c := fun z => by rw [z, h2] at ht2; cases ht2
      exact ⟨⟨#[], ht2, True.intro, fun pos cv hc => by simp [codeAmong] at hc⟩, by unfold bagS; rw [upS_ne n1, upS_ne n2], fun z => z⟩
    unfold bagS at e
    by_cases e1 : b = p
    · rw [e1, upS_same] at e
      cases e
      rw [e1]
      exact .lst h1 (.cons (.ref c) (.cons (.d (.int _)) (.cons (.d (.int _)) (.cons (.d (.int _)) (.cons (.d (.int _)) .nil)))))
    · rw [upS_ne e1] at e
      by_cases e2 : b = c
      · rw [e2, upS_same] at e
        cases e
        rw [e2]
        exact .lst h2 (wints ms)
      · rw [upS_ne e2] at e
        cases e
  refine js _ rfl rfl lawC _ _ rfl (hm p c ms z ne hl h3 h4) (fun _ => False) E _ H' ok ⟨fun i w e => ?_, ?_⟩ ⟨fun _ _ _ _ q => q.elim, fun S v H2 w hw k r _ _ => ?_, fun _ _ _ _ q => q.elim, fun _ _ _ _ q => q.elim⟩
  · rcases i with _ | _ | i
    · cases e
    · cases e
      refine ⟨.ref p, List.getElem?_set_self ?_, .ref p⟩
      unfold L2.start
      simp
      omega
    · have e : (List.replicate n (none : Option W))[i]? = some (some w) := e
      rw [List.getElem?_replicate] at e
      split at e <;> cases e
  · unfold L2.start
    simp
    omega
  · cases hw
    cases r.to_d.to_bl
    exact q H2
theorem clsAt_of {K : PySem.W.Frag} {C : String} {a : Addr} (h : PySem.W.nsIn K mainGlobals (Str.ofString C) = some (some (.ref a))) : clsAt K C = a := by
  unfold clsAt
  rw [h]
theorem small1000 {n : Nat} (h : n < 1000) : n < sizeLine := by rw [sizeLine_eq]; omega
theorem Same.seq {K : PySem.W.Frag} {H H' : Hp} (s : Same H H') {a : Addr} {xs : List V} (h : SqL K H a xs) : SqL K H' a xs := by
  rcases h with (h | ⟨o, h⟩) | h
  · exact .inl (.inl (s _ _ h))
  · exact .inl (.inr ⟨o, s _ _ h⟩)
  · exact .inr h
theorem dfl0 {K : PySem.W.Frag} : DflV K .none [] := .inl ⟨rfl, rfl⟩
theorem dfl1 {K : PySem.W.Frag} {T : Addr} {oc : Value} {od : Option Addr} {its : Array Value} {n : Nat} {sl : Array (Option Value)} {dvs : List V} (hd : dvs ≠ []) (l : K.lookup T = some ⟨oc, od, .seq its n, sl⟩) (r : Vals dvs its.toList) : DflV K (.ref T) dvs :=
  .inr ⟨hd, T, _, its.toList, n, rfl, l, rfl, r⟩
theorem kwd0 {K : PySem.W.Frag} {kV : Value} : KwdV K kV [] := .inl rfl
theorem kwd1 {K : PySem.W.Frag} {D : Addr} {kws : List (Str × V)} (h : ∀ q ∈ kws, ∃ u, PySem.W.nsIn K D q.1 = some (some u) ∧ RelV q.2 u) : KwdV K (.ref D) kws := .inr ⟨D, rfl, h⟩
theorem fund_mk {K : PySem.W.Frag} {x qual : Str} {st : Stmt} {f : Addr} {oc : Value} {od an : Option Addr} {osl : Array (Option Value)} {dV kV doc pm cdv ct : Value} {dvs : List V} {kws : List (Str × V)} (l : K.lookup f = some ⟨oc, od, .func (PySem.W.fnOf x qual (defArgs st) (defBody st) (defScope st) dV kV doc pm an cdv ct), osl⟩)
    (c : PySem.W.codeIn K cdv qual = true) (k : PySem.W.keepIn K (.ref f) = true) (hD : DflV K dV dvs) (hK : KwdV K kV kws) : FunD K x qual (defArgs st) (defBody st) (defScope st) dvs kws f (PySem.W.fnOf x qual (defArgs st) (defBody st) (defScope st) dV kV doc pm an cdv ct) :=
  ⟨⟨oc, od, dV, kV, doc, pm, an, cdv, ct, osl, rfl, l, c, hD, hK⟩, k⟩
end DX

set_option Elab.async false
set_option linter.all false
set_option maxRecDepth 100000
namespace DX
open PySem L2
section
variable {δ : Slots} {S : Store} {P : W → Store → Prop} {Pb : Bool → Store → Prop} {Pl : List W → Store → Prop} {X : XP} {ma mb mc m : EM} {t u : TM} {mr mk : AM} {C : Ct} {i j : Nat} {w x y z : W} {d e : D}
def kVar (o : Option (Option W)) (P : W → Store → Prop) (S : Store) : Prop := match o with
  | some (some w) => P w S
  | _ => False
def kAt {α : Type} (o : Option α) (f : α → Prop) : Prop := match o with
  | some w => f w
  | none => False
def kCell (o : Option Cell) (f : List W → Prop) : Prop := match o with
  | some (.lst ws) => f ws
  | _ => False
theorem x_kat {α : Type} {a : α} {f : α → Prop} : kAt (some a) f = f a := rfl
theorem x_kcell {ws : List W} {f : List W → Prop} : kCell (some (.lst ws)) f = f ws := rfl
theorem x_kvar : kVar (some (some w)) P S = P w S := rfl
def kBl (P : Bool → Store → Prop) : W → Store → Prop := fun w S1 => match w with
  | .d (.bl b) => P b S1
  | _ => False
def kTru (P : Bool → Store → Prop) : W → Store → Prop := fun w S1 => match truW S1 w with
  | some b => P b S1
  | none => False
def kCh (o' : O2) (mc : EM) (δ : Slots) (y : W) (P : W → Store → Prop) (X : XP) : W → Store → Prop := fun z S3 => match z with
  | .d (.bl true) => mc δ S3 (fun w S4 => o' y w S4 P) X
  | .d (.bl false) => P (.d (.bl false)) S3
  | _ => False
def kAnd (mb : EM) (δ : Slots) (P : W → Store → Prop) (X : XP) : W → Store → Prop := fun w S1 => match truW S1 w with
  | some true => mb δ S1 P X
  | some false => P w S1
  | none => False
def kOr (mb : EM) (δ : Slots) (P : W → Store → Prop) (X : XP) : W → Store → Prop := fun w S1 => match truW S1 w with
  | some true => P w S1
  | some false => mb δ S1 P X
  | none => False
def kNot (P : W → Store → Prop) : W → Store → Prop := fun w S1 => match truW S1 w with
  | some b => P (.d (.bl (!b))) S1
  | none => False
def kStar (mr : AM) (δ : Slots) (P : List W → Store → Prop) (X : XP) : W → Store → Prop := fun w S1 => match seqW S1 w with
  | some us => mr δ S1 (fun ws S2 => P (us ++ ws) S2) X
  | none => False
theorem x_bl : mBl ma δ S Pb X = ma δ S (kBl Pb) X := rfl
theorem x_tru : mTru ma δ S Pb X = ma δ S (kTru Pb) X := rfl
theorem x_kbl {b : Bool} : kBl Pb (.d (.bl b)) S = Pb b S := rfl
theorem x_ktru : kTru Pb w S = kAt (truW S w) (fun b => Pb b S) := by unfold kTru kAt; cases truW S w <;> rfl
theorem x_chain {o o' : O2} : mChain o o' ma mb mc δ S P X = ma δ S (fun x S1 => mb δ S1 (fun y S2 => o x y S2 (kCh o' mc δ y P X)) X) X := rfl
theorem x_kch {o' : O2} {b : Bool} : kCh o' mc δ y P X (.d (.bl b)) S = if b = true then mc δ S (fun w S4 => o' y w S4 P) X else P (.d (.bl false)) S := by cases b <;> rfl
theorem x_andV : mAndV ma mb δ S P X = ma δ S (kAnd mb δ P X) X := rfl
theorem x_orV : mOrV ma mb δ S P X = ma δ S (kOr mb δ P X) X := rfl
theorem x_notV : mNotV ma δ S P X = ma δ S (kNot P) X := rfl
theorem x_kand : kAnd mb δ P X w S = kAt (truW S w) (fun b => if b = true then mb δ S P X else P w S) := by unfold kAnd kAt; cases truW S w with | none => rfl | some b => cases b <;> rfl
theorem x_kor : kOr mb δ P X w S = kAt (truW S w) (fun b => if b = true then P w S else mb δ S P X) := by unfold kOr kAt; cases truW S w with | none => rfl | some b => cases b <;> rfl
theorem x_knot : kNot P w S = kAt (truW S w) (fun b => P (.d (.bl (!b))) S) := by unfold kNot kAt; cases truW S w <;> rfl
theorem x_star : aStar ma mr δ S Pl X = ma δ S (kStar mr δ Pl X) X := rfl
theorem x_kstar : kStar mr δ Pl X w S = kAt (seqW S w) (fun us => mr δ S (fun ws S2 => Pl (us ++ ws) S2) X) := by unfold kStar kAt; cases seqW S w <;> rfl
theorem x_c : mC d δ S P X = P (.d d) S := rfl
theorem x_var : mVar i δ S P X = kVar δ[i]? P S := rfl
theorem x_op {o : O2} : mOp o ma mb δ S P X = ma δ S (fun x S1 => mb δ S1 (fun y S2 => o x y S2 P) X) X := rfl
theorem x_un {o : O1} : mUn o ma δ S P X = ma δ S (fun x S1 => o x S1 P) X := rfl
theorem x_and : mAnd t u δ S Pb X = t δ S (fun b S1 => if b = true then u δ S1 Pb X else Pb false S1) X := rfl
theorem x_or : mOr t u δ S Pb X = t δ S (fun b S1 => if b = true then Pb true S1 else u δ S1 Pb X) X := rfl
theorem x_not : mNot t δ S Pb X = t δ S (fun b S1 => Pb (!b) S1) X := rfl
theorem x_if : mIf t ma mb δ S P X = t δ S (fun b S1 => if b = true then ma δ S1 P X else mb δ S1 P X) X := rfl
theorem x_nil : aNil δ S Pl X = Pl [] S := rfl
theorem x_cons : aCons ma mr δ S Pl X = ma δ S (fun w S1 => mr δ S1 (fun ws S2 => Pl (w :: ws) S2) X) X := rfl
theorem x_tup : mTup mr δ S P X = mr δ S (fun ws S1 => ws.length ≤ 1000 ∧ P (mkT ws) S1) X := rfl
theorem x_lst {c : Bool} : mLst c mr δ S P X = mr δ S (fun ws S1 => ws.length ≤ 1000 ∧ newLC c ws S1 P) X := rfl
theorem x_newF {ws : List W} : newLC false ws S P = kAt (allD ws) (fun ds => P (.d (.lst ds)) S) := by unfold newLC kAt; rw [if_neg (by decide)]; cases allD ws <;> rfl
theorem x_newT {ws : List W} : newLC true ws S P = ∀ a, S a = none → P (.ref a) (upS S a (.lst ws)) := by unfold newLC; rw [if_pos rfl]
theorem x_cb {o : ON} : mCB o mr δ S P X = mr δ S (fun ws S1 => o ws S1 P) X := rfl
theorem x_call {sp : DSp} : mCall sp mr δ S P X = mr δ S (fun ws S1 => sp ws S1 P X) X := rfl
theorem x_callK {n j : Nat} {sp : DSp} : mCallK n j sp mr mk δ S P X = mr δ S (fun ws S1 => mk δ S1 (fun zs S2 => ws.length = n ∧ zs.length = j ∧ sp (ws ++ zs) S2 P X) X) X := rfl
section
variable {a b : Int} {c : Bool}
theorem x_add : oAdd c (.d (.int a)) (.d (.int b)) S P = P (.d (.int (a + b))) S := rfl
theorem x_sub : oSub (.d (.int a)) (.d (.int b)) S P = P (.d (.int (a - b))) S := rfl
theorem x_mul : oMul c (.d (.int a)) (.d (.int b)) S P = (CMul a b ∧ P (.d (.int (a * b))) S) := rfl
theorem x_mod : oMod (.d (.int a)) (.d (.int b)) S P = (0 < b ∧ P (.d (.int (a % b))) S) := rfl
theorem x_div : oDiv (.d (.int a)) (.d (.int b)) S P = ((0 < b ∧ b < 2 ^ 64) ∧ P (.d (.int (a / b))) S) := rfl
theorem x_pow : oPow (.d (.int a)) (.d (.int b)) S P = ((0 ≤ b ∧ b ≤ 100 ∧ a.natAbs < 2 ^ 64) ∧ P (.d (.int (a ^ b.toNat))) S) := rfl
theorem x_lt : oLt (.d (.int a)) (.d (.int b)) S P = P (.d (.bl (decide (a < b)))) S := rfl
theorem x_le : oLe (.d (.int a)) (.d (.int b)) S P = P (.d (.bl (decide (a ≤ b)))) S := rfl
theorem x_gt : oGt (.d (.int a)) (.d (.int b)) S P = P (.d (.bl (decide (b < a)))) S := rfl
theorem x_ge : oGe (.d (.int a)) (.d (.int b)) S P = P (.d (.bl (decide (b ≤ a)))) S := rfl
theorem x_eqI : oEq (.d (.int a)) (.d (.int b)) S P = P (.d (.bl (decide (a = b)))) S := rfl
theorem x_neI : oNe (.d (.int a)) (.d (.int b)) S P = P (.d (.bl (!decide (a = b)))) S := rfl
theorem x_eqS {s r : Str} : oEq (.d (.str s)) (.d (.str r)) S P = P (.d (.bl (decide (s = r)))) S := rfl
theorem x_neS {s r : Str} : oNe (.d (.str s)) (.d (.str r)) S P = P (.d (.bl (!decide (s = r)))) S := rfl
theorem x_isN : oIsN x (.d .non) S P = P (.d (.bl x.isN)) S := rfl
theorem x_notN : oNotN x (.d .non) S P = P (.d (.bl (!x.isN))) S := rfl
theorem x_ixC {p : Addr} : oIx (.ref p) (.d (.int b)) S P = kCell (S p) (fun ws => kAt (L2.atI ws b) fun w => P w S) := by
  unfold oIx lseq kCell kAt
  dsimp only
  cases S p with
  | none => rfl
  | some c => cases c with
    | lst ws => dsimp only; cases L2.atI ws b <;> rfl
    | _ => rfl
theorem x_ixL {l : List D} : oIx (.d (.lst l)) (.d (.int b)) S P = kAt (L2.atI (l.map W.d) b) (fun w => P w S) := by
  unfold oIx lseq kAt
  dsimp only
  cases L2.atI (l.map W.d) b <;> rfl
theorem x_ixT {l : List D} : oIx (.d (.tup l)) (.d (.int b)) S P = kAt (L2.atI (l.map W.d) b) (fun w => P w S) := by
  unfold oIx lseq tseq kAt
  dsimp only
  cases L2.atI (l.map W.d) b <;> rfl
theorem x_lenC {p : Addr} : bLen [.ref p] S P = kCell (S p) (fun ws => P (.d (.int ws.length)) S) := by
  unfold bLen seqW lseq kCell
  dsimp only
  cases S p with
  | none => rfl
  | some c => cases c with
    | lst ws => rfl
    | _ => rfl
theorem x_lenL {l : List D} : bLen [.d (.lst l)] S P = P (.d (.int l.length)) S := by
  have e : seqW S (.d (.lst l)) = some (l.map W.d) := rfl
  unfold bLen
  simp only [e, List.length_map]
theorem x_lenT {l : List D} : bLen [.d (.tup l)] S P = P (.d (.int l.length)) S := by
  have e : seqW S (.d (.tup l)) = some (l.map W.d) := rfl
  unfold bLen
  simp only [e, List.length_map]
theorem x_int : bInt [.d (.int a)] S P = P (.d (.int a)) S := rfl
theorem x_intB {q : Bool} : bInt [.d (.bl q)] S P = P (.d (.int (if q then 1 else 0))) S := rfl
theorem x_setIx {p : Addr} {Ps : Store → Prop} : setIx (.ref p) (.d (.int b)) w S Ps = kCell (S p) (fun ws => kAt (ixN ws.length b) fun j => Ps (upS S p (.lst (ws.set j w)))) := by
  unfold setIx kCell kAt
  dsimp only
  cases S p with
  | none => rfl
  | some c => cases c with
    | lst ws => dsimp only; cases ixN ws.length b <;> rfl
    | _ => rfl
theorem x_truN : truW S (.d .non) = some false := rfl
theorem x_truB {q : Bool} : truW S (.d (.bl q)) = some q := rfl
theorem x_truI : truW S (.d (.int a)) = some (a != 0) := rfl
theorem x_truL {l : List D} : truW S (.d (.lst l)) = some (!(l.map W.d).isEmpty) := rfl
theorem x_truT {l : List D} : truW S (.d (.tup l)) = some (!(l.map W.d).isEmpty) := rfl
theorem x_seqL {l : List D} : seqW S (.d (.lst l)) = some (l.map W.d) := rfl
theorem x_seqT {l : List D} : seqW S (.d (.tup l)) = some (l.map W.d) := rfl
theorem x_atI0 {α : Type} {w : α} {l : List α} : L2.atI (w :: l) 0 = some w := by
  unfold L2.atI ixN
  rw [if_pos (by decide), if_pos (by simp)]
  rfl
end
theorem x_tupL {l : List D} : bTup [.d (.lst l)] S P = P (.d (.tup l)) S := by
  unfold bTup
  simp only [x_seqL, mkT_map]
theorem x_tupT {l : List D} : bTup [.d (.tup l)] S P = P (.d (.tup l)) S := by
  unfold bTup
  simp only [x_seqT, mkT_map]
theorem x_tupC {p : Addr} : bTup [.ref p] S P = kCell (S p) (fun ws => P (mkT ws) S) := by
  unfold bTup seqW lseq kCell
  dsimp only
  cases S p with
  | none => rfl
  | some c => cases c with
    | lst ws => rfl
    | _ => rfl
theorem x_listL {c : Bool} {l : List D} : bList c [.d (.lst l)] S P = newLC c (l.map W.d) S P := by
  unfold bList
  simp only [x_seqL]
theorem x_listT {c : Bool} {l : List D} : bList c [.d (.tup l)] S P = newLC c (l.map W.d) S P := by
  unfold bList
  simp only [x_seqT]
theorem x_listC {c : Bool} {p : Addr} : bList c [.ref p] S P = kCell (S p) (fun ws => newLC c ws S P) := by
  unfold bList seqW lseq kCell
  dsimp only
  cases S p with
  | none => rfl
  | some c => cases c with
    | lst ws => rfl
    | _ => rfl
theorem x_newMap {l : List D} : newLC false (l.map W.d) S P = P (.d (.lst l)) S := by
  rw [x_newF, allD_map]
  rfl
theorem x_allL {l : List D} : bAll [.d (.lst l)] S P = kAt (allB (l.map W.d)) (fun bs => P (.d (.bl (bs.all id))) S) := by
  unfold bAll lseq kAt
  dsimp only
  cases allB (l.map W.d) <;> rfl
theorem x_anyL {l : List D} : bAny [.d (.lst l)] S P = kAt (allB (l.map W.d)) (fun bs => P (.d (.bl (bs.any id))) S) := by
  unfold bAny lseq kAt
  dsimp only
  cases allB (l.map W.d) <;> rfl
theorem allB_bls (bs : List Bool) : allB ((bs.map D.bl).map W.d) = some bs := by
  have := allB_map bs
  rw [List.map_map]
  exact this
theorem x_isi {cs : List String} {sub : String → String → Bool} {n : String} : bIsi cs sub [w, .d (.ty n)] S P = kAt (w.tg S) (fun t => kAt (D.ctg (.ty n)) fun u => kAt (isI cs sub t u) fun b => P (.d (.bl b)) S) := by
  unfold bIsi kAt
  dsimp only
  cases w.tg S with
  | none => rfl
  | some t => cases D.ctg (.ty n) with
    | none => rfl
    | some u => dsimp only; cases isI cs sub t u <;> rfl
theorem x_isiC {cs : List String} {sub : String → String → Bool} {n : String} : bIsi cs sub [w, .d (.cls n)] S P = kAt (w.tg S) (fun t => kAt (isI cs sub t (.own n)) fun b => P (.d (.bl b)) S) := by
  unfold bIsi kAt
  dsimp only
  cases w.tg S with
  | none => rfl
  | some t => dsimp only [D.ctg]; cases isI cs sub t (.own n) <;> rfl
theorem x_isiT {cs : List String} {sub : String → String → Bool} : mIsiT cs sub ma mr δ S P X = ma δ S (fun w S1 => mr δ S1 (fun ws S2 => ws.length ≤ 1000 ∧ fIsiT cs sub w ws S2 P) X) X := rfl
theorem x_fisi {cs : List String} {sub : String → String → Bool} {ws : List W} : fIsiT cs sub w ws S P = kAt (allD ws) (fun ds => kAt (w.tg S) fun t => kAt (isAny cs sub t ds) fun b => Tg.inC cs t ∧ ds.all (fun d => d.ctg.isSome) = true ∧ P (.d (.bl b)) S) := by
  unfold fIsiT kAt
  cases allD ws with
  | none => rfl
  | some ds => dsimp only; cases w.tg S with
    | none => rfl
    | some t => dsimp only; cases isAny cs sub t ds <;> rfl
def kAk (o : Option AtK) (f : String) (fs : List (String × W)) (w : W) (P : W → Store → Prop) (S : Store) : Prop := match o with
  | some .fld => kAt (fs.lookup f) fun u => P u S
  | some (.con d) => fs.lookup f = none ∧ P (.d d) S
  | some (.prp sp) => sp [w] S P (fun _ _ => False)
  | none => False
section
variable {f mm : String} {fs : List (String × W)} {sp : DSp} {tb : List (String × DSp)} {ta : List (String × AtK)} {n : Nat}
theorem x_fld : kAk (some .fld) f fs w P S = kAt (fs.lookup f) (fun u => P u S) := rfl
theorem x_con : kAk (some (.con d)) f fs w P S = (fs.lookup f = none ∧ P (.d d) S) := rfl
theorem x_prp : kAk (some (.prp sp)) f fs w P S = sp [w] S P (fun _ _ => False) := rfl
def kAttr (f : String) (ta : List (String × AtK)) (P : W → Store → Prop) : W → Store → Prop := fun w S => kAt (insOf S w) fun q => kAk (ta.lookup q.1) f q.2 w P S
theorem x_attr : mAttr f ta ma δ S P X = ma δ S (kAttr f ta P) X := by
  unfold mAttr
  congr 1
  funext w S1
  unfold kAttr kAt kAk
  cases insOf S1 w with
  | none => rfl
  | some q =>
    obtain ⟨cl, fs⟩ := q
    dsimp only
    cases ta.lookup cl with
    | none => rfl
    | some k => cases k with
      | fld => dsimp only; cases fs.lookup f <;> rfl
      | con d => rfl
      | prp sp => rfl
theorem x_kattrD {C : String} {gs : List (String × D)} : kAttr f ta P (.d (.ins C gs)) S = kAk (ta.lookup C) f (gs.map fun p => (p.1, .d p.2)) (.d (.ins C gs)) P S := rfl
def kObj (o : Option Cell) (g : String → List (String × W) → Prop) : Prop := match o with
  | some (.obj C fs) => g C fs
  | _ => False
theorem x_kobj {C : String} {g : String → List (String × W) → Prop} : kObj (some (.obj C fs)) g = g C fs := rfl
theorem x_insC {a : Addr} {g : String × List (String × W) → Prop} : kAt (insOf S (.ref a)) g = kObj (S a) (fun C fs => g (C, fs)) := by
  unfold insOf kAt kObj
  dsimp only
  cases S a with
  | none => rfl
  | some c => cases c <;> rfl
theorem x_kattrC {a : Addr} : kAttr f ta P (.ref a) S = kObj (S a) (fun C fs => kAk (ta.lookup C) f fs (.ref a) P S) := by
  unfold kAttr
  exact x_insC
def kMeth (mm : String) (tb : List (String × DSp)) (mr : AM) (δ : Slots) (P : W → Store → Prop) (X : XP) : W → Store → Prop := fun w S => kAt (insOf S w) fun q => q.2.lookup mm = none ∧ kAt (tb.lookup q.1) fun sp => mr δ S (fun ws S2 => sp (w :: ws) S2 P X) X
theorem x_meth : mMeth mm tb ma mr δ S P X = ma δ S (kMeth mm tb mr δ P X) X := by
  unfold mMeth
  congr 1
  funext w S1
  unfold kMeth kAt
  cases insOf S1 w with
  | none => rfl
  | some q =>
    obtain ⟨cl, fs⟩ := q
    dsimp only
    cases tb.lookup cl <;> rfl
theorem x_kmethD {C : String} {gs : List (String × D)} : kMeth mm tb mr δ P X (.d (.ins C gs)) S = ((gs.map fun p => (p.1, W.d p.2)).lookup mm = none ∧ kAt (tb.lookup C) fun sp => mr δ S (fun ws S2 => sp (.d (.ins C gs) :: ws) S2 P X) X) := rfl
theorem x_kmethC {a : Addr} : kMeth mm tb mr δ P X (.ref a) S = kObj (S a) (fun C fs => fs.lookup mm = none ∧ kAt (tb.lookup C) fun sp => mr δ S (fun ws S2 => sp (.ref a :: ws) S2 P X) X) := by
  unfold kMeth
  exact x_insC
theorem x_putA {cs : List String} {a : Addr} {Ps : Store → Prop} : putA f cs w (.ref a) S Ps = kObj (S a) (fun cl fs => cs.contains cl = true ∧ fs.length < 1000 ∧ Ps (upS S a (.obj cl (putW f w fs)))) := by
  unfold putA kObj
  first
    | (dsimp only; done)
    | (dsimp only; cases S a with | none => rfl | some c => cases c <;> rfl)
theorem x_fldS {cs : List String} : mFldS f cs ma mb C δ S = mb δ S (fun w S1 => ma δ S1 (fun x S2 => putA f cs w x S2 fun S3 => C.nx δ S3) (XF C δ)) (XF C δ) := rfl
end
def kFrz (P : W → Store → Prop) : W → Store → Prop := fun w S => kAt (frzW 4 S w) fun q => P (.d q.1) q.2
theorem x_frz : mFrz ma δ S P X = ma δ S (kFrz P) X := by
  unfold mFrz
  congr 1
  funext w S1
  unfold kFrz kAt
  cases frzW 4 S1 w <;> rfl
theorem x_kfrzD : kFrz P (.d d) S = P (.d d) S := by
  unfold kFrz frzW
  rfl
theorem frzs_d {n : Nat} : ∀ (ds : List D) (S : Store), frzW.frzs (frzW n) S (ds.map W.d) = some (ds, S)
  | [], S => rfl
  | d :: ds, S => by
    have e : frzW n S (.d d) = some (d, S) := by cases n <;> rfl
    simp only [List.map_cons, frzW.frzs, e, frzs_d ds S, Option.map_some]
theorem x_inT {l : List D} {s : Str} : oIn (.d (.str s)) (.d (.tup l)) S P = kAt (mapSc l) (fun us => P (.d (.bl (inV (.str s) us))) S) := by
  show fIn id (.str s) (.tup l) (fun d => P (.d d) S) = _
  unfold fIn kAt D.sc
  dsimp only
  cases mapSc l <;> rfl
theorem x_ninT {l : List D} {s : Str} : oNin (.d (.str s)) (.d (.tup l)) S P = kAt (mapSc l) (fun us => P (.d (.bl (!inV (.str s) us))) S) := by
  show fIn not (.str s) (.tup l) (fun d => P (.d d) S) = _
  unfold fIn kAt D.sc
  dsimp only
  cases mapSc l <;> rfl
theorem inV_nil {v : V} : inV v [] = false := rfl
theorem inV_str {s r : Str} {us : List V} : inV (.str s) (.str r :: us) = (decide (r = s) || inV (.str s) us) := by
  unfold inV
  rw [List.any_cons]
  rfl
theorem x_mcons {m n : SM} : mCons m n C δ S = m { C with nx := fun δ1 S1 => n C δ1 S1 } δ S := rfl
theorem x_mnil : mNil C δ S = C.nx δ S := rfl
theorem x_set : mSet i ma C δ S = ma δ S (fun w S1 => C.nx (δ.set i (some w)) S1) (XF C δ) := rfl
theorem x_asg {g : GM} : mAsg ma g C δ S = ma δ S (fun w S1 => g w δ S1 C.nx (XF C δ)) (XF C δ) := rfl
theorem x_drp : mDrp ma C δ S = ma δ S (fun _ S1 => C.nx δ S1) (XF C δ) := rfl
theorem x_ret : mRet ma C δ S = ma δ S C.rt (XF C δ) := rfl
theorem x_retN : mRetN C δ S = C.rt (.d .non) S := rfl
theorem x_ifS {m n : SM} : mIfS t m n C δ S = t δ S (fun b S1 => if b = true then m C δ S1 else n C δ S1) (XF C δ) := rfl
theorem x_tgN {Ps : Slots → Store → Prop} : tgN i w δ S Ps X = Ps (δ.set i (some w)) S := rfl
theorem x_tgSub {Ps : Slots → Store → Prop} : tgSub ma mb w δ S Ps X = ma δ S (fun x S1 => mb δ S1 (fun y S2 => setIx x y w S2 fun S3 => Ps δ S3) X) X := rfl
theorem x_par : mPar i j mr C δ S = mr δ S (fun ws S1 => match ws with
  | [v, w] => C.nx ((δ.set i (some v)).set j (some w)) S1
  | _ => False) (XF C δ) := rfl
end
theorem cmul_r {a b : Int} (h1 : -(2 ^ 64) < b) (h2 : b < 2 ^ 64) : CMul a b := .inr ⟨h1, h2⟩
end DX

set_option Elab.async false
set_option linter.all false
set_option maxRecDepth 100000
set_option maxHeartbeats 2000000
namespace DX
open PySem PySem.Spec PyProof.Rows L2
abbrev fmR (n : Nat) : Builtin.Float.FormatSpec := { align := 62, width := some n }
def padR (n : Nat) (x : PySem.Str) : PySem.Str := ⟨x.cps ++ Array.replicate (n - x.length) 32⟩
end DX
namespace DX
open PySem PySem.Spec PyProof.Rows L2
abbrev JM := PySem.Str → Slots → Store → (PySem.Str → Store → Prop) → XP → Prop
section
variable {X : Cx} {K : PySem.W.Frag} {F : Fr} {e v1 v2 : Expr} {rest : List Expr} {ma m : EM} {r : JM} {pos p1 p2 : Pos}
end
def joinFits (a : PySem.Str) (ys : List PySem.Str) : Prop := (ys.map (·.length)).sum + ys.length * a.length ≤ 10000000
section
variable {K : PySem.W.Frag} {F : Fr}
end
end DX

set_option Elab.async false
set_option linter.all false
set_option maxRecDepth 100000
namespace DX
open PySem L2
mutual
inductive TrW (S : Store) : W → D → Prop
  | d (x : D) : TrW S (.d x) x
  | lst {a : Addr} {ds : List D} : S a = some (.lst (ds.map .d)) → TrW S (.ref a) (.lst ds)
  | obj {a : Addr} {C : String} {fs : List (String × W)} {gs : List (String × D)} : S a = some (.obj C fs) → TrF S fs gs → TrW S (.ref a) (.ins C gs)
inductive TrF (S : Store) : List (String × W) → List (String × D) → Prop
  | nil : TrF S [] []
  | cons {f : String} {w : W} {d : D} {fs : List (String × W)} {gs : List (String × D)} : TrW S w d → TrF S fs gs → TrF S ((f, w) :: fs) ((f, d) :: gs)
end
abbrev nilS : Store := fun _ => none
section
variable {K : PySem.W.Frag} {F : Fr} {M : Hid} {S S' : Store} {H H' : Hp} {σ : L2.St} {δ δ2 : Slots}
theorem dvk_of {G : Hp} : ∀ {vs : List (Key × V)} {fs : List (Key × D)}, Wvk K G vs (fs.map fun p => (p.1, W.d p.2)) → DVk K G vs fs
  | _, [], .nil => .nil
  | _, _ :: _, .cons h r => .cons h.to_d (dvk_of r)
theorem see_ok (hm : ∀ a, M a → S a = none) {a : Addr} {c : Cell} {o : HO} (e : S a = some c) (h : H a = some o) (n : NoT o) : gS M nilS H a = some o :=
  gS_some.mpr ⟨fun m => (by rw [hm a m] at e; cases e), rfl, h, n⟩
theorem sub_nil : Sub (gS M S H) (gS M nilS H) := gS_drop fun a _ => rfl
mutual
theorem trW_ok (k : OkC K M S H) (hm : ∀ a, M a → S a = none) : ∀ {w : W} {d : D}, TrW S w d → ∀ v, Wv K (gS M S H) v w → DV K (gS M nilS H) v d
  | _, _, .d x, v, h => h.to_d.mono sub_nil
  | _, _, .lst e, v, h => by
    cases h.to_ref
    cases k _ _ e with | lst h1 h2 => exact .lst (see_ok hm e h1 fun ps z => by cases z) (h2.mono sub_nil).ds
  | _, _, .obj e t, v, h => by
    cases h.to_ref
    cases k _ _ e with | obj h1 h2 => exact .ins (see_ok hm e h1 fun ps z => by cases z) (trF_ok k hm t _ h2)
theorem trF_ok (k : OkC K M S H) (hm : ∀ a, M a → S a = none) : ∀ {fs : List (String × W)} {gs : List (String × D)}, TrF S fs gs → ∀ vs, Wvf K (gS M S H) vs fs → DVf K (gS M nilS H) vs gs
  | _, _, .nil, _, .nil => .nil
  | _, _, .cons t r, _, .cons h hr => .cons (trW_ok k hm t _ h) (trF_ok k hm r _ hr)
end
structure TmpSl (S : Store) (δ δ2 : Slots) : Prop where
  len : δ2.length = δ.length
  at_ : ∀ (i : Nat) (w2 : W), δ2[i]? = some (some w2) → ∃ w d, δ[i]? = some (some w) ∧ w2 = .d d ∧ TrW S w d
theorem TmpSl.ok (t : TmpSl S δ δ2) (k : Ok K F M S H) (x : SlotsOk K M S H σ δ) : SlotsOk K M nilS H σ δ2 :=
  ⟨fun i w e => by
    obtain ⟨w1, d, e1, rfl, tr⟩ := t.at_ i w e
    obtain ⟨v, h1, h2⟩ := x.at_ i w1 e1
    exact ⟨v, h1, .d (trW_ok k.cell (fun a m => (k.hid a m).1) tr v h2)⟩, by rw [t.len]; exact x.len⟩
end
def leafD : D → Bool
  | .non | .bl _ | .int _ | .str _ => true
  | _ => false
section
variable {X : Cx} {K : PySem.W.Frag} {F : Fr} {e : Expr} {m : EM}
end
end DX

set_option Elab.async false
set_option linter.all false
set_option maxRecDepth 100000
namespace DX
open PySem PySem.Spec PyProof.Rows PySem.W
section
variable {prog : Program} {w : World} {A : Around} {E : Value → Shared → Prop} {s : Shared} {K : Frag} {y C f : Addr} {ox : Obj} {od : Option Obj}
end
end DX

set_option Elab.async false
set_option linter.all false
set_option maxRecDepth 100000
set_option maxHeartbeats 2000000
namespace PySem.W
open PySem PySem.Spec PySem.Calls PyProof.Rows
section
variable {prog : Program} {w : World} {A A₀ : Around} {E : Value → Shared → Prop} {s : Shared} {K : Frag} {x C L f : Addr} {h₀ : Heap} {m : Str → Option Value} {ox : Obj} {od : Option Obj} {name : Str} {b tb : Value}
open Builtin in
end
end PySem.W
namespace DXE
open PySem PySem.Spec PyProof.Rows L2
variable {X : Cx} {CX : CXT} {C g : Addr} {n : Nat} {fd : FuncData} {ps : List Str} {sp : Sp} {E : XK}
end DXE

set_option Elab.async false
set_option linter.all false
set_option maxRecDepth 100000
namespace DX
open PySem PySem.Spec PyProof.Rows L2
variable {X : Cx} {K : PySem.W.Frag} {F : Fr} {a : Expr} {p pos : Pos}
section
variable {cs : List String} {sub : String → String → Bool} {cl : String} {sp : DSp} {k : Nat} {f : Addr} {fd : FuncData} {ps : List PySem.Str}
end
end DX

set_option Elab.async false
set_option linter.all false
set_option maxRecDepth 100000
namespace DX
open PySem PySem.Spec PyProof.Rows L2
section
variable {X : Cx} {K : PySem.W.Frag} {F : Fr} {e : Expr} {es : List Expr} {y : PySem.Str} {C p g : Addr} {sp : DSp} {mr mk : AM} {np apos pos : Pos}
end
end DX

set_option Elab.async false
set_option linter.all false
set_option maxRecDepth 100000
namespace DLS
open PySem PySem.Spec PyProof.Rows L2
abbrev newSet (w : World) : Obj := { cls := .type "set", dict := none, data := .set #[] 0 (.fresh 0 0 (!w.params.followText "set-order")) }
section
variable {P : Program} {w : World} {A : Around} {E : Value → Shared → Prop}
set_option maxHeartbeats 3200000 in
end
end DLS

namespace DX
open PySem L2
abbrev tupI (ns : List Int) : D := .tup (ns.map D.int)
section
variable {K : PySem.W.Frag} {X : Cx}
end
def lle : List Int → List Int → Bool
  | [], _ => true
  | _ :: _, [] => false
  | a :: r, b :: q => decide (a < b) || (decide (a = b) && lle r q)
def srt (l : List (List Int)) : List (List Int) := l.mergeSort lle
def dd : List (List Int) → List (List Int)
  | [] => []
  | a :: l => if a ∈ l then dd l else a :: dd l
def sset (l : List (List Int)) : List (List Int) := srt (dd l)
def rowsOk (d : Nat) (B : Int) (rows : List (List Int)) : Prop := 1 ≤ d ∧ rows.length < 64 ∧ ∀ r ∈ rows, r.length = d ∧ TS.Bd B r
section
variable {P : Program} {w : World} {K : PySem.W.Frag} {X : Cx} {F : Fr} {δ : List SD}
end
section
variable {X : Cx} {K : PySem.W.Frag} {F : Fr} {P : Program} {w : World} {e a : Expr} {ma : EM}
end
end DX

set_option Elab.async false
set_option linter.all false
set_option maxRecDepth 100000
namespace DX
open PySem PySem.Spec PyProof.Rows L2
section
variable {K : PySem.W.Frag} {F : Fr} {X : Cx} {M : Hid} {σ : L2.St} {δ : Slots} {S : Store} {H : Hp}
end
section
variable {K : PySem.W.Frag} {F : Fr} {X : Cx} {own : List (Str × Nat)} {elt tg iter tg1 iter1 : Expr} {ifs ifs1 : List Expr} {scope : Scope} {pos spos : Pos} {im im1 : IM} {g g1 : GM} {t t1 : TM} {m : EM} {ts ts1 vs1 : List Nat} {cc : Bool} {y : Str} {i : Nat} {py : Pos}
end
end DX

set_option Elab.async false
set_option linter.all false
set_option maxRecDepth 100000
namespace DX
open PySem PySem.Spec PyProof.Rows L2
def sortD (ds : List D) : List D := ds.mergeSort (PySem.W.dataLe false D.toP)
structure SortOk (ds : List D) : Prop where
  plain : ∀ d ∈ ds, d.plain = true
  alike : PySem.W.AllAlike (ds.map D.toP)
  kind : PySem.W.Sortable (ds.map D.toP)
  depth : ∀ d ∈ ds, d.toP.depth ≤ 60
  few : ds.length ≤ 100000
section
variable {K : PySem.W.Frag} {F : Fr} {X : Cx} {M : Hid} {e a : Expr} {ma : EM}
def rSortDA (K : PySem.W.Frag) : List V → Hp → VK → Prop := fun vs H Q => ∃ (a : Addr) (xs : List V) (ds : List D), vs = [V.ref a] ∧ SqL K H a xs ∧ DVs K H xs ds ∧ SortOk ds ∧
  ∀ (ps : List (V × D)) (p : Addr), (∀ q ∈ ps, q ∈ xs.zip ds) → ps.map (·.2) = sortD ds → H p = none → Q (.ref p) (upd H p (.lst (ps.map (·.1))))
theorem each_zip {R : Value → V × D → Prop} : ∀ {us : List Value} {xs : List V} {ds : List D}, Vals xs us → xs.length = ds.length → (∀ u x d, RelV x u → (x, d) ∈ xs.zip ds → R u (x, d)) → PySem.W.EachIs R us (xs.zip ds)
  | _, _, [], r, hl, h => by
    cases r with
    | nil => exact .nil
    | cons _ _ => simp at hl
  | _, _, d :: ds, r, hl, h => by
    cases r with
    | nil => simp at hl
    | cons a r => exact .cons (h _ _ _ a (by simp)) (each_zip r (by simpa using hl) fun u x d rx hm => h u x d rx (by simp [hm]))
theorem each_vals : ∀ {us : List Value} {ps : List (V × D)}, PySem.W.EachIs (fun u p => RelV p.1 u) us ps → Vals (ps.map (·.1)) us
  | _, _, .nil => .nil
  | _, _, .cons h r => .cons h (each_vals r)
theorem dvs_zip {H : Hp} : ∀ {xs : List V} {ds : List D}, DVs K H xs ds → ∀ x d, (x, d) ∈ xs.zip ds → DV K H x d
  | _, _, .nil, _, _, h => by simp at h
  | _, _, .cons a r, x, d, h => by
    rw [List.zip_cons_cons] at h
    rcases List.mem_cons.mp h with h | h
    · cases h
      exact a
    · exact dvs_zip r x d h
theorem cr_sortDA (hu : X.A.units + 64 < cLine) : CallR X (.builtin "sorted") (rSortDA X.K) := by
  intro pins s σ H vs us Q I r h
  obtain ⟨a, xs, ds, rfl, hs, hd, ok, q⟩ := h
  obtain ⟨its, rv, hl, hz⟩ := I.list hs
  rw [Vals.ref1 r]
  have hlen : xs.length = ds.length := hd.length
  have ez := List.map_snd_zip (l₁ := xs) (l₂ := ds) (Nat.le_of_eq hlen.symm)
  have e0 : (xs.zip ds).map (fun p => p.2.toP) = ds.map D.toP := by
    conv => rhs; rw [← ez]
    rw [List.map_map]
    rfl
  refine PySem.W.sorted_data (β := V × D) (enc := fun p => p.2.toP) (bs := xs.zip ds) (R := fun u p => RelV p.1 u) hl.isList (each_zip rv hlen fun u x d rx _ => rx) (each_zip rv hlen fun u x d rx hm => ?_) (by rw [e0]; exact ok.alike) (by rw [e0]; exact ok.kind) (by
    rw [List.length_zip, hlen, sizeLine_eq]
    have := ok.few
    omega) (fun p hp => ?_) fun out ho he => ?_
  · exact Dp.reads I _ _ _ ((dvs_zip hd x d hm).toP (ok.plain d (List.of_mem_zip hm).2)) rx
  · have := ok.depth p.2 (List.of_mem_zip (show (p.1, p.2) ∈ xs.zip ds from hp)).2
    show X.A.units + 2 + p.2.toP.depth < cLine
    omega
  · obtain ⟨ep, he'⟩ := PyProof.Rows.sortedAll_at s.heap its out.toArray
    have h3 := each_vals he
    have hn : H (s.heap.objs.size + 1) = none := I.hok.fresh (Nat.le_succ _)
    refine ⟨.ref _, upd H (s.heap.objs.size + 1) (.lst (((xs.zip ds).mergeSort (PySem.W.dataLe false fun p : V × D => p.2.toP)).map (·.1))), I.laid (t' := s.toks) (fun _ _ => PyProof.Rows.sortedAll_old) (Nat.le_succ _) ⟨?_, out, ep, h3, he'⟩, rfl, q _ _ (fun p hp => (List.mergeSort_perm _ _).mem_iff.mp hp) ?_ hn⟩
    · rw [List.length_map, List.length_mergeSort, List.length_zip, hlen, sizeLine_eq]
      have := ok.few
      omega
    · unfold sortD
      exact (List.map_mergeSort (r := PySem.W.dataLe false fun p : V × D => p.2.toP) (s := PySem.W.dataLe false D.toP) (f := Prod.snd) (fun a _ b _ => rfl)).trans (congrArg (·.mergeSort (PySem.W.dataLe false D.toP)) ez)
def mSortD (ma : EM) : EM := fun δ S P X => ma δ S (fun w S1 => ∃ ds, lseq S1 w = some (ds.map .d) ∧ SortOk ds ∧ P (.d (.lst (sortD ds))) S1) X
theorem dvs_of {G : Hp} : ∀ {ps : List (V × D)}, (∀ q ∈ ps, DV K G q.1 q.2) → DVs K G (ps.map (·.1)) (ps.map (·.2))
  | [], _ => .nil
  | p :: ps, h => .cons (h p (List.mem_cons_self ..)) (dvs_of fun q hq => h q (List.mem_cons_of_mem _ hq))
theorem je_sortD (h : PE X e (tCB (rSortDA K) (tCons (tW X a) tNil))) (ja : JE X K F a ma) : JE X K F e (mSortD ma) := .of h fun δ S P0 q M σ H k x Q c => ja δ S _ q M σ H k x _ fun v H1 wv S1 p1 s1 v1 => by
  obtain ⟨ds, el, ok, q⟩ := p1
  obtain ⟨p, xs, rfl, h1, h2⟩ := lseq_ok s1.ok.cell v1 el
  have h2 := h2.ds
  refine ⟨p, xs, ds, rfl, sqL h1, h2.mono gS_sub, ok, fun ps n hm he hn => ?_⟩
  refine c _ _ _ S1 q (s1.trans (St.new (o := .lst _) s1.ok hn)) (.d (.lst (gS_new s1.ok hn fun ps y => by cases y) ?_))
  rw [← he]
  exact dvs_of fun q hq => (dvs_zip h2 q.1 q.2 (hm q hq)).mono (gS_mono (.upd hn))
end
end DX

set_option Elab.async false
set_option linter.all false
set_option maxRecDepth 100000
namespace DX
open PySem PySem.Spec PyProof.Rows L2
section
variable {K : PySem.W.Frag} {F : Fr} {X : Cx} {cl : String} {sp : DSp} {k : Nat} {f C : Addr} {fd : FuncData} {ps : List PySem.Str} {nm : PySem.Str} {op : Operator} {CX : CXT} {s0 : Sp}
end
section
variable {K : PySem.W.Frag} {F : Fr} {X : Cx} {es : List Expr} {st : Stmt}
end
end DX

set_option Elab.async false
set_option linter.all false
set_option maxRecDepth 100000
namespace DX
open PySem PySem.Spec PyProof.Rows L2
def kD : Key → D
  | .inl i => .int i
  | .inr s => .str s
def kOf : D → Option Key
  | .int i => some (.inl i)
  | .str s => some (.inr s)
  | _ => none
def kOfW : W → Option Key
  | .d d => kOf d
  | _ => none
theorem kOf_ok {d : D} {k : Key} (h : kOf d = some k) : d = kD k := by
  cases d <;> first | (cases h; rfl) | cases h
def valK {α : Type} (l : List (Key × α)) (k : Key) : Option α := (l.find? fun p => decide (p.1 = k)).map (·.2)
def putKk {α : Type} (l : List (Key × α)) (k : Key) (x : α) : List (Key × α) := if (l.any fun p => decide (p.1 = k)) = true then l.map (fun p => if p.1 = k then (p.1, x) else p) else l ++ [(k, x)]
section
variable {K : PySem.W.Frag} {F : Fr} {X : Cx} {M : Hid} {σ : L2.St} {δ : Slots} {S : Store} {H G : Hp}
theorem dv_k {v : V} {k : Key} (h : DV K G v (kD k)) : v = kV k := by
  cases k with
  | inl i => exact h.to_int
  | inr s => exact h.to_str
theorem dv_kV (k : Key) : DV K G (kV k) (kD k) := by
  cases k with
  | inl i => exact .int i
  | inr s => exact .str s
theorem wv_k {v : V} {w : W} {k : Key} (h : Wv K G v w) (e : kOfW w = some k) : v = kV k := by
  cases w with
  | d d =>
    have e : kOf d = some k := e
    have h := h.to_d
    rw [kOf_ok e] at h
    exact dv_k h
  | _ => cases e
theorem valK_pos {α : Type} {p : Key × α} {r : List (Key × α)} {k : Key} (e : p.1 = k) : valK (p :: r) k = some p.2 := by simp [valK, List.find?_cons, e]
theorem valK_neg {α : Type} {p : Key × α} {r : List (Key × α)} {k : Key} (e : ¬ p.1 = k) : valK (p :: r) k = valK r k := by simp [valK, List.find?_cons, e]
theorem Wvk.val {vs : List (Key × V)} {ws : List (Key × W)} (h : Wvk K G vs ws) (k : Key) : (valV vs k = none ∧ valK ws k = none) ∨ ∃ v w, valV vs k = some v ∧ valK ws k = some w ∧ Wv K G v w := by
  induction h with
  | nil => exact .inl ⟨rfl, rfl⟩
  | cons a r ih =>
    rename_i f v vs w ws
    by_cases e : f = k
    · exact .inr ⟨v, w, valV_pos e, valK_pos e, a⟩
    · rw [valV_neg (p := (f, v)) e, valK_neg (p := (f, w)) e]
      exact ih
theorem Wvk.keys {vs : List (Key × V)} {ws : List (Key × W)} (h : Wvk K G vs ws) : vs.map (·.1) = ws.map (·.1) := by
  induction h with
  | nil => rfl
  | cons a r ih => rw [List.map_cons, List.map_cons, ih]
theorem Wvk.length {vs : List (Key × V)} {ws : List (Key × W)} (h : Wvk K G vs ws) : vs.length = ws.length := by
  have := congrArg List.length h.keys
  simpa using this
theorem Wvk.any {vs : List (Key × V)} {ws : List (Key × W)} (h : Wvk K G vs ws) (k : Key) : (vs.any fun p => decide (p.1 = k)) = ws.any fun p => decide (p.1 = k) := by
  induction h with
  | nil => rfl
  | cons a r ih => rw [List.any_cons, List.any_cons, ih]
theorem Wvk.mapPut {vs : List (Key × V)} {ws : List (Key × W)} {v : V} {w : W} (h : Wvk K G vs ws) (hv : Wv K G v w) (k : Key) : Wvk K G (vs.map fun p => if p.1 = k then (p.1, v) else p) (ws.map fun p => if p.1 = k then (p.1, w) else p) := by
  induction h with
  | nil => exact .nil
  | cons a r ih =>
    rename_i f x vs y ws
    rw [List.map_cons, List.map_cons]
    by_cases e : f = k
    · rw [if_pos e, if_pos e]
      exact .cons hv ih
    · rw [if_neg e, if_neg e]
      exact .cons a ih
theorem Wvk.app {vs us : List (Key × V)} {ws xs : List (Key × W)} (h : Wvk K G vs ws) (r : Wvk K G us xs) : Wvk K G (vs ++ us) (ws ++ xs) := by
  induction h with
  | nil => exact r
  | cons a _ ih => exact .cons a ih
theorem Wvk.put {vs : List (Key × V)} {ws : List (Key × W)} {v : V} {w : W} (h : Wvk K G vs ws) (hv : Wv K G v w) (k : Key) : Wvk K G (putK vs k v) (putKk ws k w) := by
  unfold putK putKk
  rw [h.any k]
  split
  · exact h.mapPut hv k
  · exact h.app (.cons hv .nil)
theorem putKk_len {α : Type} (l : List (Key × α)) (k : Key) (x : α) : (putKk l k x).length ≤ l.length + 1 := by
  unfold putKk
  split
  · rw [List.length_map]; omega
  · rw [List.length_append]; exact Nat.le_refl _
def dictOf (S : Store) (w : W) : Option (List (Key × W)) := match w with
  | .ref a => (match S a with
    | some (.dct fs) => some fs
    | _ => none)
  | .d (.dct gs) => some (gs.map fun p => (p.1, .d p.2))
  | _ => none
theorem DVk.w {vs : List (Key × V)} {gs : List (Key × D)} (h : DVk K G vs gs) : Wvk K G vs (gs.map fun p => (p.1, .d p.2)) := by
  induction gs generalizing vs with
  | nil => cases h; exact .nil
  | cons p gs ih =>
    cases h with
    | cons a r => exact .cons (.d a) (ih r)
theorem dictOf_ok {v : V} {w : W} {ws : List (Key × W)} (k : OkC K M S H) (h : Wv K (gS M S H) v w) (e : dictOf S w = some ws) : ∃ a vs, v = .ref a ∧ Rd H a (.dK vs) ∧ Wvk K (gS M S H) vs ws := by
  unfold dictOf at e
  split at e
  · rename_i a
    split at e
    · rename_i fs q
      cases e
      cases h.to_ref
      cases k _ _ q with | dct h1 h2 => exact ⟨a, _, rfl, .inl h1, h2⟩
    · cases e
  · obtain ⟨a, o, vs, rfl, h1, h2⟩ := h.to_d.to_dct
    cases e
    exact ⟨a, vs, rfl, .inr ⟨o, gS_sub _ _ h1⟩, h2.w⟩
  · cases e
def dGetP (S : Store) (x y : W) (P : W → Store → Prop) : Prop := match dictOf S x, kOfW y with
  | some ws, some k => (match valK ws k with
    | some w => P w S
    | none => False)
  | _, _ => False
def mDGet (mo mi : EM) : EM := fun δ S P X => mo δ S (fun x S1 => mi δ S1 (fun y S2 => dGetP S2 x y P) X) X
variable {o i e a : Expr} {mo mi ma mv : EM} {pos : Pos}
theorem je_dget (hu : X.A.units + 64 < cLine) (hs : NoSl i) (jo : JE X K F o mo) (ji : JE X K F i mi) : JE X K F (.Subscript o i pos) (mDGet mo mi) := .of (pe_dget (by omega) pe pe hs) fun δ S P q M σ H k x Q c =>
  jo δ S _ q M σ H k x _ fun v1 H1 w1 S1 p1 s1 r1 => ji δ S1 _ p1 M σ H1 s1.ok (s1.slots x) _ fun v2 H2 w2 S2 p2 s2 r2 => by
    have s12 := s1.trans s2
    unfold dGetP at p2
    split at p2
    · rename_i ws kk e1 e2
      obtain ⟨a, vs, rfl, h1, h2⟩ := dictOf_ok s2.ok.cell (r1.mono s2.sub) e1
      obtain rfl := wv_k r2 e2
      rcases h2.val kk with ⟨_, z⟩ | ⟨v, w, z1, z2, z3⟩
      · rw [z] at p2; exact p2.elim
      · rw [z2] at p2
        exact ⟨a, v, rfl, .inl ⟨vs, kk, h1, rfl, z1.symm⟩, c _ H2 _ S2 p2 s12 z3⟩
    · exact p2.elim
def dInP (g : Bool → Bool) (S : Store) (y x : W) (P : W → Store → Prop) : Prop := match dictOf S x, kOfW y with
  | some ws, some k => P (.d (.bl (g (valK ws k).isSome))) S
  | _, _ => False
def mDIn (g : Bool → Bool) (mi mo : EM) : EM := fun δ S P X => mi δ S (fun y S1 => mo δ S1 (fun x S2 => dInP g S2 y x P) X) X
theorem Wvk.isS {vs : List (Key × V)} {ws : List (Key × W)} (h : Wvk K G vs ws) (k : Key) : (valV vs k).isSome = (valK ws k).isSome := by
  rcases h.val k with ⟨a, b⟩ | ⟨v, w, a, b, _⟩ <;> rw [a, b] <;> rfl
theorem we_din (ji : JE X K F i mi) (jo : JE X K F o mo) {P : W → Store → Prop} (q : mDIn id mi mo δ S P (fun x T => F.X x δ T)) : WE K F (tDIn (tW X i) (tW X o)) δ S P := fun M σ H k x Q c =>
  ji δ S _ q M σ H k x _ fun v1 H1 w1 S1 p1 s1 r1 => jo δ S1 _ p1 M σ H1 s1.ok (s1.slots x) _ fun v2 H2 w2 S2 p2 s2 r2 => by
    unfold dInP at p2
    split at p2
    · rename_i ws kk e1 e2
      obtain ⟨a, vs, rfl, h1, h2⟩ := dictOf_ok s2.ok.cell r2 e1
      obtain rfl := wv_k r1 e2
      refine ⟨a, _, rfl, .inl ⟨vs, kk, h1, rfl, rfl⟩, ?_⟩
      rw [h2.isS kk]
      exact c _ H2 _ S2 p2 (s1.trans s2) (.d (.bl _))
    · exact p2.elim
theorem jt_din (hu : X.A.units + 64 < cLine) (hm : behindInMarks .In o = false) (ji : JE X K F i mi) (jo : JE X K F o mo) : JT X K F (.Compare i [.In] [o] pos) (mBl (mDIn id mi mo)) := .of (pt_cmp (pc_din (by omega) pe pe) hm) fun δ S P q => wt_bl (we_din ji jo q)
def dGet2P (S : Store) (x y z : W) (P : W → Store → Prop) : Prop := match dictOf S x, kOfW y with
  | some ws, some k => P ((valK ws k).getD z) S
  | _, _ => False
def mDGet2 (mo mi mz : EM) : EM := fun δ S P X => mo δ S (fun x S1 => (dictOf S1 x).isSome = true ∧ mi δ S1 (fun y S2 => mz δ S2 (fun z S3 => dGet2P S3 x y z P) X) X) X
theorem je_dget2 {f : Expr} {mz : EM} {apos cpos : Pos} (hu : X.A.units + 64 < cLine) (m : M2 X o "get" apos i f cpos) (jo : JE X K F o mo) (ji : JE X K F i mi) (jz : JE X K F f mz) : JE X K F (.Call (.Attribute o "get" apos) [i, f] [] cpos) (mDGet2 mo mi mz) := .of (pe_dget2 (by omega) pe pe pe m) fun δ S P q M σ H k x Q c =>
  jo δ S _ q M σ H k x _ fun v1 H1 w1 S1 p1 s1 r1 => by
    obtain ⟨d0, p1⟩ := p1
    obtain ⟨ws0, e0⟩ := Option.isSome_iff_exists.mp d0
    obtain ⟨a0, vs0, rfl, h0, _⟩ := dictOf_ok s1.ok.cell r1 e0
    refine ⟨a0, rfl, .inl ⟨vs0, h0⟩, ji δ S1 _ p1 M σ H1 s1.ok (s1.slots x) _ fun v2 H2 w2 S2 p2 s2 r2 => jz δ S2 _ p2 M σ H2 s2.ok (s2.slots (s1.slots x)) _ fun v3 H3 w3 S3 p3 s3 r3 => ?_⟩
    unfold dGet2P at p3
    split at p3
    · rename_i ws kk e1 e2
      obtain ⟨a, vs, ea, h1, h2⟩ := dictOf_ok s3.ok.cell (r1.mono (s2.trans s3).sub) e1
      cases ea
      obtain rfl := wv_k r2 e2
      refine ⟨_, .inl ⟨vs, kk, h1, rfl, rfl⟩, ?_⟩
      rcases h2.val kk with ⟨z1, z2⟩ | ⟨v, w, z1, z2, z3⟩
      · rw [z2] at p3
        rw [z1]
        exact c _ H3 _ S3 p3 ((s1.trans s2).trans s3) r3
      · rw [z2] at p3
        rw [z1]
        exact c _ H3 _ S3 p3 ((s1.trans s2).trans s3) z3
    · exact p3.elim
def mDct0 : EM := fun δ S P X => ∀ l, S l = none → P (.ref l) (upS S l (.dct []))
theorem je_dct0 : JE X K F (.Dict [] [] pos) mDct0 := .of pe_dnewK fun δ S P q M σ H k x Q c p hp => c (.ref p) _ _ _ (q p (k.cell.none hp)) (St.newC k hp (.dct upd_same .nil)) (.ref p)
def dPutP (S : Store) (x y v : W) (P : Store → Prop) : Prop := match x, kOfW y with
  | .ref a, some k => (match S a with
    | some (.dct fs) => fs.length < 1000000 ∧ P (upS S a (.dct (putKk fs k v)))
    | _ => False)
  | _, _ => False
def mDPut (mo mi mv : EM) : SM := fun C δ S => mv δ S (fun v S1 => mo δ S1 (fun x S2 => mi δ S2 (fun y S3 => dPutP S3 x y v fun S4 => C.nx δ S4) (XF C δ)) (XF C δ)) (XF C δ)
theorem js_dput {value : Expr} {pos' : Pos} {spos : Pos} (hu : X.A.units + 64 < cLine) (hs : swapsWith value (some (.Subscript o i pos')) spos.line X.env = pure false) (jo : JE X K F o mo) (ji : JE X K F i mi) (jv : JE X K F value mv) : JS X K F (.Assign [.Subscript o i pos'] value spos) (mDPut mo mi mv) :=
  .of (ps_dput (by omega) pe pe pe hs) fun C δ S ex q M E σ H k x c => by
    have q : mv δ S (fun v S1 => mo δ S1 (fun x S2 => mi δ S2 (fun y S3 => dPutP S3 x y v fun S4 => C.nx δ S4) (XF C δ)) (XF C δ)) (XF C δ) := q
    rw [XF_eq ex] at q
    refine jv δ S _ q M σ H k x _ fun v1 H1 w1 S1 p1 s1 r1 => jo δ S1 _ p1 M σ H1 s1.ok (s1.slots x) _ fun v2 H2 w2 S2 p2 s2 r2 => ji δ S2 _ p2 M σ H2 s2.ok (s2.slots (s1.slots x)) _ fun v3 H3 w3 S3 p3 s3 r3 => ?_
    have s := (s1.trans s2).trans s3
    unfold dPutP at p3
    split at p3
    · rename_i a0 kk ek
      split at p3
      · rename_i fs ef
        obtain ⟨hl, p3⟩ := p3
        cases r2.to_ref
        obtain rfl := wv_k r3 ek
        cases s3.ok.cell _ _ ef with
        | dct h1 h2 =>
          rename_i vs
          have hv := r1.mono (s2.trans s3).sub
          have st : St K F M S3 H3 (upS S3 a0 (.dct (putKk fs kk w1))) (upd H3 a0 (.dK (putK vs kk v1))) := .write s3.ok ef (.dct upd_same (h2.put hv kk))
          exact ⟨a0, _, rfl, .inl ⟨vs, kk, h1, rfl, by rw [h2.length, sizeLine_eq]; omega, rfl⟩, (c.on (s.trans st)).nx1 st.ok ((s.trans st).slots x) p3⟩
      · exact p3.elim
    · exact p3.elim
def dTrees : List (Key × W) → Option (List (Key × D))
  | [] => some []
  | (k, .d x) :: r => (dTrees r).map ((k, x) :: ·)
  | _ :: _ => none
theorem dTrees_ok : ∀ {ws : List (Key × W)} {ds : List (Key × D)}, dTrees ws = some ds → ws = ds.map fun p => (p.1, .d p.2)
  | [], ds, h => by cases h; rfl
  | (k, .d x) :: ws, ds, h => by
    rw [dTrees] at h
    cases q : dTrees ws with
    | none => rw [q] at h; cases h
    | some es =>
      rw [q] at h
      cases h
      rw [dTrees_ok q]
      rfl
  | (_, .ref _) :: _, ds, h => by cases h
  | (_, .tup _) :: _, ds, h => by cases h
theorem dTrees_map : ∀ ds : List (Key × D), dTrees (ds.map fun p => (p.1, W.d p.2)) = some ds
  | [] => rfl
  | (k, x) :: r => by
    rw [List.map_cons, dTrees, dTrees_map r]
    rfl
def frzDP (S : Store) (w : W) (P : W → Store → Prop) : Prop := match w with
  | .ref a => (match S a with
    | some (.dct fs) => (match dTrees fs with
      | some ds => P (.d (.dct ds)) (erS S a)
      | none => False)
    | _ => False)
  | _ => False
def mFrzD (ma : EM) : EM := fun δ S P X => ma δ S (fun w S1 => frzDP S1 w P) X
theorem je_frzD (ja : JE X K F a ma) : JE X K F a (mFrzD ma) := fun δ S P q M σ H k x Q c pins s I => by
  refine wpAny_mono (ja δ S _ q M σ H k x (fun v H1 => ∃ d u, H1 d = some u ∧ Mut (some u) ∧ ∀ od, Q v (upd H1 d (.frz od u))) (fun v H1 w S1 p1 s1 v1 => ?_) pins s I) (fun r s' z => ?_) fun _ _ e => e
  · unfold frzDP at p1
    split at p1
    · rename_i a0
      split at p1
      · rename_i fs ef
        split at p1
        · rename_i ds ed
          cases v1.to_ref
          cases s1.ok.cell _ _ ef with
          | dct h1 h2 =>
            rename_i vs
            refine ⟨a0, _, h1, trivial, fun od => ?_⟩
            have st : St K F M S1 H1 (upS S1 a0 (.lk fs)) (upd H1 a0 (.frz od (.dK vs))) := .write s1.ok ef (.lk upd_same h2)
            have le : ∀ b c, erS S1 a0 b = some c → upS S1 a0 (.lk fs) b = some c := fun b c z => by
              by_cases eb : b = a0
              · rw [eb, erS_same] at z; cases z
              · rw [upS_ne eb]
                exact er_le b c z
            have st2 : St K F M (upS S1 a0 (.lk fs)) (upd H1 a0 (.frz od (.dK vs))) (erS S1 a0) (upd H1 a0 (.frz od (.dK vs))) := .cut st.ok le
            have nm : ¬ M a0 := s1.ok.cellM ef
            refine c _ _ _ _ p1 ((s1.trans st).trans st2) (.d (.dct (gS_some.mpr ⟨nm, erS_same, upd_same, fun ps z => by cases z⟩) ?_))
            rw [dTrees_ok ed] at h2
            exact dvk_of (h2.mono (st.trans st2).sub)
        · exact p1.elim
      · exact p1.elim
    · exact p1.elim
  · obtain ⟨v, H1, I1, rv, d, u, hd, mu, q1⟩ := z
    obtain ⟨od, I2⟩ := I1.lock hd mu
    exact ⟨v, _, I2, rv, q1 od⟩
def keysD {α : Type} (l : List (Key × α)) : List D := l.map fun p => kD p.1
def rListDK (K : PySem.W.Frag) : List V → Hp → VK → Prop := fun xs H Q => ∃ (a : Addr) (kvs : List (Key × V)), xs = [.ref a] ∧ Rd H a (.dK kvs) ∧ ∀ p, H p = none → Q (.ref p) (upd H p (.lst (kvs.map fun kv => kV kv.1)))
theorem cr_listDK (hc : X.calm = true) : CallR X (.type "list") (rListDK X.K) := call_listD hc
def mListD (c : Bool) (ma : EM) : EM := fun δ S P X => ma δ S (fun w S1 => match dictOf S1 w with
  | some ws => newLC c ((keysD ws).map .d) S1 P
  | none => False) X
theorem keys_w {vs : List (Key × V)} {ws : List (Key × W)} (h : Wvk K G vs ws) : Wvs K G (vs.map fun kv => kV kv.1) ((keysD ws).map .d) := by
  unfold keysD
  induction h with
  | nil => exact .nil
  | cons a r ih => exact .cons (.d (dv_kV _)) ih
theorem je_listD {c : Bool} (h : PE X e (tCB (rListDK K) (tCons (tW X a) tNil))) (ja : JE X K F a ma) : JE X K F e (mListD c ma) := .of h fun δ S P q M σ H k x Q cc => ja δ S _ q M σ H k x _ fun v H1 w S1 p1 s1 v1 => by
  split at p1
  · rename_i ws ew
    obtain ⟨a0, vs, rfl, h1, h2⟩ := dictOf_ok s1.ok.cell v1 ew
    exact ⟨a0, vs, rfl, h1, fun p hp => new_lst s1.ok (keys_w h2) hp p1 fun z H2 w S2 p2 s2 v2 => cc z H2 w S2 p2 (s1.trans s2) v2⟩
  · exact p1.elim
def itKeys (ma : EM) : IM := fun δ S P X => ma δ S (fun w S1 => match w with
  | .d (.dct gs) => P ((keysD gs).map .d) allS S1
  | _ => False) X
theorem ji_keys {tg : Expr} (ja : JE X K F a ma) : JI X K F tg a (itKeys ma) := ⟨_, pi_keys pe, fun δ S P q M σ H k x R r => ja δ S _ q M σ H k x _ fun v H1 w S1 p1 s1 v1 => by
  split at p1
  · rename_i gs
    obtain ⟨a0, o, vs, rfl, h1, h2⟩ := v1.to_d.to_dct
    refine ⟨a0, o, rfl, .inl ⟨vs, gS_sub _ _ h1, r _ H1 _ _ S1 p1 s1 fun N hN hM => fun S2 H2 k2 sb _ i => ?_⟩⟩
    have hg : gS N S1 H1 a0 = some (.frz o (.dK vs)) := by
      obtain ⟨g1, g2, g3, g4⟩ := gS_some.mp h1
      refine gS_some.mpr ⟨fun n => ?_, g2, g3, g4⟩
      have := (hN a0 n g1).2
      rw [h1] at this
      cases this
    have hH : H2 a0 = some (.frz o (.dK vs)) := gS_sub _ _ (sb _ _ hg)
    have hl : vs.length = gs.length := by
      have := h2.w.length
      simpa using this
    have hk : (keysD gs).length = gs.length := by unfold keysD; rw [List.length_map]
    refine ⟨fun hi => ⟨hH, by rw [List.length_map, hk] at hi; omega⟩, fun w hw => ?_⟩
    rw [List.getElem?_map] at hw
    unfold keysD at hw
    rw [List.getElem?_map] at hw
    cases q : gs[i]? with
    | none => rw [q] at hw; cases hw
    | some p =>
      rw [q] at hw
      cases hw
      have hi : i < gs.length := (List.getElem?_eq_some_iff.mp q).1
      refine ⟨⟨hH, by omega⟩, fun z H3 ⟨eH, kk, v', e1, e2⟩ => ?_⟩
      rw [eH]
      refine ⟨.refl k2, ?_⟩
      have hkeys := h2.w.keys
      have e3 : (vs.map (·.1))[i]? = some kk := by rw [List.getElem?_map, e1]; rfl
      rw [hkeys, List.map_map, List.getElem?_map, q] at e3
      cases e3
      rw [e2]
      exact .d (dv_kV _)
  · exact p1.elim⟩
end
end DX

set_option Elab.async false
set_option linter.all false
set_option maxRecDepth 100000
namespace DX
open PySem PySem.Spec PyProof.Rows L2
section
variable {K : PySem.W.Frag} {F : Fr} {X : Cx} {M : Hid} {σ : L2.St} {δ : Slots} {S : Store} {H : Hp}
def dcW (gd : Store → Prop) (g : GM) (t : TM) (mk mv : EM) (δ0 : Slots) (P : List (Key × W) → Store → Prop) : List W → List (Key × W) → Store → Prop
  | [], acc, S => gd S ∧ P acc S
  | w :: ws, acc, S => gd S ∧ g w δ0 S (fun δ1 S1 => t δ1 S1 (fun b S2 => if b = true then mk δ1 S2 (fun y S3 => mv δ1 S3 (fun z S4 => ∃ k, kOfW y = some k ∧ dcW gd g t mk mv δ0 P ws (putKk acc k z) S4) noX) noX else dcW gd g t mk mv δ0 P ws acc S2) noX) noX
def mDc (vs : List Nat) (im : IM) (g : GM) (t : TM) (mk mv : EM) : EM := fun δ S P X => im δ S (fun ws gd S1 => ws.length < 1000000 ∧ dcW gd g t mk mv (wipeD δ vs) (fun acc S2 => ∀ l, S2 l = none → P (.ref l) (upS S2 l (.dct acc))) ws [] S1) X
theorem dcW_gd {gd : Store → Prop} {g : GM} {t : TM} {mk mv : EM} {δ0 : Slots} {P : List (Key × W) → Store → Prop} {ws : List W} {acc : List (Key × W)} (h : dcW gd g t mk mv δ0 P ws acc S) : gd S := by
  cases ws with
  | nil => exact h.1
  | cons w ws => exact h.1
theorem we_dc {wi : TI} {im : IM} {tg : TG} {g : GM} {tt : TT} {t : TM} {tk tv : TE} {mk mv : EM} {vs ts : List Nat} {P : W → Store → Prop} {XX : XP} (ht : ∀ t ∈ ts, t ∈ vs)
    (hi : ∀ P, im δ S P XX → WI K F wi δ S P) (hg : ∀ w δ S P, g w δ S P noX → WG K F.nox tg ts w δ S P) (hq : ∀ δ S P, t δ S P noX → WT K F.nox tt δ S P) (hk : ∀ δ S P, mk δ S P noX → WE K F.nox tk δ S P) (hm : ∀ δ S P, mv δ S P noX → WE K F.nox tv δ S P)
    (h : mDc vs im g t mk mv δ S P XX) : WE K F (tDc wi tg tt tk tv vs) δ S P := fun M σ H k x Q c => by
  refine hi _ h M σ H k x _ fun J H1 ws gd S1 p1 s1 jt => ?_
  obtain ⟨hlen, p1⟩ := p1
  intro Dl hD
  have nm := s1.ok.notM hD
  have nS := s1.ok.cell.none hD
  have e1 : gS (hide M Dl) S1 (upd H1 Dl (.dK [])) = gS M S1 H1 := gS_hideNew hD
  have e2 : gS (hide M Dl) S1 H1 = gS M S1 H1 := gS_hide (M := M) (N := hide M Dl) (fun a n z => by
    rcases n with n | n
    · exact absurd n z
    · rw [n]; exact ⟨nS, gS_free hD⟩) fun _ z => .inl z
  have jd := jt (hide M Dl) (fun a n z => by
    rcases n with n | n
    · exact absurd n z
    · rw [n]; exact ⟨nS, gS_free hD⟩) fun _ z => .inl z
  have kN := s1.ok.hide (o := .dK []) hD
  refine ⟨fun i m' H => m' = ws.length - i ∧ i ≤ ws.length ∧ ∃ acc xs S, dcW gd g t mk mv (wipeD δ vs) (fun acc S2 => ∀ l, S2 l = none → P (.ref l) (upS S2 l (.dct acc))) (ws.drop i) acc S ∧ acc.length ≤ i ∧ Ok K F.nox (hide M Dl) S H ∧ H Dl = some (.dK xs) ∧ Wvk K (gS (hide M Dl) S H) xs acc ∧ Sub (gS M S1 H1) (gS (hide M Dl) S H) ∧ ∀ a, M a → H a = H1 a,
    ⟨ws.length, by simp, Nat.zero_le _, [], [], S1, p1, Nat.le_refl _, kN, upd_same, .nil, by rw [e1]; exact Sub.refl _, fun a q => upd_ne fun z => nm (z ▸ q)⟩, ?_⟩
  rintro i m' H2 ⟨rfl, hi2, acc, xs, S2, p2, la, k2, hH, dv, u2, y2⟩
  have g2 := dcW_gd p2
  have jd2 : ItD K F (hide M Dl) J (gS (hide M Dl) S1 H1) ws gd := jd
  have hN : ∀ a, M a → hide M Dl a := fun _ z => .inl z
  obtain ⟨hs, hgo⟩ := jd2 S2 H2 (s1.ok.full hN k2) (by rw [e2]; exact u2) g2 i
  by_cases hlt : i < ws.length
  · obtain ⟨go, hy⟩ := hgo ws[i] (List.getElem?_eq_getElem hlt)
    rw [List.drop_eq_getElem_cons hlt] at p2
    obtain ⟨_, p3⟩ := p2
    refine .inr ⟨go, fun H => i < ws.length ∧ ∃ acc xs S, dcW gd g t mk mv (wipeD δ vs) (fun acc S2 => ∀ l, S2 l = none → P (.ref l) (upS S2 l (.dct acc))) (ws.drop (i + 1)) acc S ∧ acc.length ≤ i + 1 ∧ Ok K F.nox (hide M Dl) S H ∧ H Dl = some (.dK xs) ∧ Wvk K (gS (hide M Dl) S H) xs acc ∧ Sub (gS M S1 H1) (gS (hide M Dl) S H) ∧ ∀ a, M a → H a = H1 a,
      fun H' w => ⟨ws.length - (i + 1), by omega, rfl, by omega, w.2⟩, fun v H3 y => ?_⟩
    obtain ⟨s3, v3⟩ := hy v H3 y
    have s3n := s3.nox
    refine hg ws[i] _ S2 _ p3 (hide M Dl) (wipe σ vs) H3 v s3n.ok (((s1.slots x).to (u2.trans s3n.sub)).wipe vs) v3 _ fun σ4 H4 δ4 S4 p4 s4 x4 l4 f4 => ⟨wipe_same l4 f4 ht, ?_⟩
    refine hq δ4 S4 _ p4 (hide M Dl) σ4 H4 s4.ok x4 _ fun b H5 S5 p5 s5 => ?_
    have st5 := (s3n.trans s4).trans s5
    cases b with
    | true =>
      show tk σ4 H5 _
      refine hk δ4 S5 _ p5 (hide M Dl) σ4 H5 s5.ok (s5.slots x4) _ fun u H6 w6 S6 p6 s6 v6 => ?_
      refine hm δ4 S6 _ p6 (hide M Dl) σ4 H6 s6.ok (s6.slots (s5.slots x4)) _ fun u7 H7 w7 S7 p7 s7 v7 => ?_
      obtain ⟨kk, ek, p7⟩ := p7
      have st := (st5.trans s6).trans s7
      have hl6 : xs.length < sizeLine := by rw [dv.length, sizeLine_eq]; omega
      have hput := (dv.mono st.sub).put v7 kk
      refine ⟨xs, kk, wv_k v6 ek, (st.stay Dl (.inr rfl)).trans hH, hl6, hlt, putKk acc kk w7, putK xs kk u7, S7, p7, by have := putKk_len acc kk w7; omega, st.ok.hideW (fun q => nm (s1.ok.keep Dl q).1), upd_same, ?_, ?_, fun a q => ?_⟩
      · rw [gS_hideW]
        exact hput
      · rw [gS_hideW]
        exact u2.trans st.sub
      · have ne : a ≠ Dl := fun z => nm (by rw [← z]; exact q)
        rw [upd_ne ne]
        exact (st.stay a (.inl q)).trans (y2 a q)
    | false =>
      show i < ws.length ∧ _
      exact ⟨hlt, acc, xs, S5, p5, by omega, st5.ok, (st5.stay Dl (.inr rfl)).trans hH, dv.mono st5.sub, u2.trans st5.sub, fun a q => (st5.stay a (.inl q)).trans (y2 a q)⟩
  · rw [List.drop_eq_nil_of_le (by omega)] at p2
    obtain ⟨_, p3⟩ := p2
    refine .inl ⟨hs (by omega), ?_⟩
    have nS2 := (k2.hid Dl (.inr rfl)).1
    exact c (.ref Dl) H2 _ _ (p3 Dl nS2) ⟨s1.ok.reveal k2 nm (.dct hH dv), s1.sub.trans (by rw [gS_reveal]; exact u2), fun a q => (y2 a q).trans (s1.stay a q)⟩ (.ref Dl)
end
section
variable {K : PySem.W.Frag} {F : Fr} {X : Cx} {own : List (Str × Nat)} {kx vx tg iter : Expr} {ifs : List Expr} {scope : Scope} {pos : Pos} {im : IM} {g : GM} {t : TM} {mk mv : EM} {ts : List Nat}
theorem je_dcG (hc : X.calm = true) (ht : ∀ t ∈ ts, t ∈ own.map (·.2)) (nd : X.N.Nodup) (ok : BlkOk X.N X.env.scope scope own) (ji : JI X K F tg iter im)
    (hg : ∀ (s : Shared) (H : Hp) (C : Addr) (cl : List (Str × Addr)) (fp : List Addr), JG (X.blk s H scope (compEnvC scope cl C X.env) fp) K F.nox tg ts g)
    (hq : ∀ (s : Shared) (H : Hp) (C : Addr) (cl : List (Str × Addr)) (fp : List Addr), JTs (X.blk s H scope (compEnvC scope cl C X.env) fp) K F.nox ifs t)
    (hk : ∀ (s : Shared) (H : Hp) (C : Addr) (cl : List (Str × Addr)) (fp : List Addr), JE (X.blk s H scope (compEnvC scope cl C X.env) fp) K F.nox kx mk)
    (he : ∀ (s : Shared) (H : Hp) (C : Addr) (cl : List (Str × Addr)) (fp : List Addr), JE (X.blk s H scope (compEnvC scope cl C X.env) fp) K F.nox vx mv)
    (hs : ∀ x, foldedSetIterable iter X.env x = pure x := by intro _; rfl) : JE X K F (.DictComp kx vx [⟨tg, iter, ifs, 0⟩] scope pos) (mDc (own.map (·.2)) im g t mk mv) := by
  obtain ⟨wi, h1, h2⟩ := ji
  refine .of (pe_dc hc nd h1 ok (g := fun v σ H Q => ∀ s H0 C cl fp, tWG (X.blk s H0 scope (compEnvC scope cl C X.env) fp) tg v σ H Q) (tt := fun σ H Q => ∀ s H0 C cl fp, tWTs (X.blk s H0 scope (compEnvC scope cl C X.env) fp) ifs σ H Q)
    (tk := fun σ H Q => ∀ s H0 C cl fp, tW (X.blk s H0 scope (compEnvC scope cl C X.env) fp) kx σ H Q) (tv := fun σ H Q => ∀ s H0 C cl fp, tW (X.blk s H0 scope (compEnvC scope cl C X.env) fp) vx σ H Q)
    (fun s H C cl fp => ⟨fun pins s' σ H' v u Q I r h => h s H C cl fp pins s' u I r⟩) (fun s H C cl fp => ⟨fun pins s' σ H' Q I h => h s H C cl fp pins s' I⟩)
    (fun s H C cl fp => ⟨fun pins s' σ H' Q I h => h s H C cl fp pins s' I⟩) (fun s H C cl fp => ⟨fun pins s' σ H' Q I h => h s H C cl fp pins s' I⟩) hs) fun δ S P q => ?_
  exact we_dc ht (fun P z => h2 δ S P z)
    (fun w δ S P q M σ H v k x r Q c s H0 C cl fp => hg s H0 C cl fp w δ S P q M σ H v k x r Q c) (fun δ S P q M σ H k x Q c s H0 C cl fp => hq s H0 C cl fp δ S P q M σ H k x Q c)
    (fun δ S P q M σ H k x Q c s H0 C cl fp => hk s H0 C cl fp δ S P q M σ H k x Q c) (fun δ S P q M σ H k x Q c s H0 C cl fp => he s H0 C cl fp δ S P q M σ H k x Q c) q
end
end DX

set_option Elab.async false
set_option linter.all false
set_option maxRecDepth 100000
namespace DLS
open PySem PySem.Spec PyProof.Rows L2
section
variable {P : Program} {w : World} {A : Around} {E : Value → Shared → Prop}
def FilledI (w : World) (h0 : Heap) (S : Addr) (ns : List Int) (h' : Heap) : Prop := (∃ c, c ≤ ns.length ∧ SetR w h' S (fun j => decide (j ∈ ns)) c) ∧ ∀ b o, h0.get? b = some o → h'.get? b = some o
set_option maxHeartbeats 3200000 in
theorem init_intsL {l : Addr} {items : Array Value} (ns : List Int) {h0 : Heap} {g : Array GenState} {d : Drawn} {tk : Nat} {os : OsState} (hh2 : A.in1.handled = none) (hl : h0.IsList l items)
    (hit : IntsAre items.toList ns) (hfew : ns.length + 1 < scanBound) {R : PySem.Fin → Shared → Prop}
    (done : ∀ (h' : Heap) (tk' : Nat), FilledI w h0 h0.objs.size ns h' → R (.done (.ret .none)) ⟨h', g, d, tk', os⟩) :
    wpAny (model P w) A (Builtin.«set.__init__» ⟨[.ref h0.objs.size, .ref l], []⟩) R E ⟨h0.push (newSet w), g, d, tk, os⟩ := by
  have src := hl
  obtain ⟨⟨kc, kd, kx, ks'⟩, at0, e1, nl, e2⟩ := hl
  simp only at e1 e2
  subst e1
  subst e2
  have old : ∀ b o, h0.get? b = some o → (h0.push (newSet w)).get? b = some o := fun b o e => Heap.get?_push_of_some _ e
  have at1 := old _ _ at0
  have n1 := F.sub_list_set
  have n2 := F.sub_list_frozenset
  have n3 : (Value.type "list" == Value.type "dict") = false := by decide
  have there : (h0.push (newSet w)).get? h0.objs.size = some (newSet w) := Heap.get?_push_size _ rfl
  have below : l < h0.objs.size := Heap.lt_size at0
  have size1 : (h0.push (newSet w)).objs.size = h0.objs.size + 1 := Heap.size_push ..
  have apart : l ≠ (h0.push (newSet w)).objs.size := by
    rw [size1]
    exact Nat.ne_of_lt (Nat.lt_succ_of_lt below)
  have hits : items.size = ns.length := by
    have := IntsAre.length hit
    rw [Array.length_toList] at this
    exact this
  have nth : ∀ (i : Nat) (v : Value), items[i]? = some v → ∃ k t, ns[i]? = some k ∧ v = .int k t := fun i v hv => by
    have hi : i < ns.length := by rw [← hits]; exact (Array.getElem?_eq_some_iff.mp hv).1
    obtain ⟨t, e⟩ := IntsAre.int_at hit i v (by rw [Array.getElem?_toList]; exact hv)
    refine ⟨ns[i], t, List.getElem?_eq_getElem hi, ?_⟩
    rw [e, List.getD_eq_getElem?_getD, List.getElem?_eq_getElem hi] <;> rfl
  unfold Builtin.«set.__init__» noKeywords Builtin.Frozenset.updateFrom
  generalize hit2 : pyIter = walk
  wp_walk
  subst hit2
  refine wpAny_pyIter_list ⟨_, at1, rfl, nl, rfl⟩ ?_
  refine wpAny_bind (wpAny_runValue ?_)
  have off : h0.objs.size ∉ [(h0.push (newSet w)).objs.size, l] := by
    rw [size1]
    simp only [List.mem_cons, List.not_mem_nil, or_false, not_or]
    exact ⟨Nat.ne_of_lt (Nat.lt_succ_self _), Nat.ne_of_gt below⟩
  refine set_update_ints ((Walks.list hh2 _ l apart items).toS) h0.objs.size off ns hits hfew nth (items.size - 0) 0 ⟨(h0.push (newSet w)).push { cls := .type "list_iterator", data := .fields #[.ref l, .int 0 0] }, g, d, tk, os⟩ (by omega) (Nat.zero_le _)
    ⟨⟨_, Heap.get?_push_size _ rfl, rfl, rfl⟩, src.push _ |>.push _⟩ ⟨0, Nat.le_refl 0, setR_new_at (Heap.get?_push_of_some _ there)⟩ ?_
  rintro ⟨h', g2, d', tk', os'⟩ c mv hc full
  have q1 : g2 = g := mv.gens
  have q2 : d' = d := mv.drawn
  have q3 : os' = os := mv.os
  subst q1 q2 q3
  refine wpAny_pure ?_
  rw [hits] at hc
  refine wpAny_pure (done h' tk' ⟨⟨c, hc, full⟩, fun b o e => ?_⟩)
  have b0 : b < h0.objs.size := Heap.lt_size e
  exact mv.heap b o (by
    simp only [List.mem_cons, List.not_mem_nil, or_false, not_or]
    exact ⟨Nat.ne_of_lt b0, by rw [size1]; exact Nat.ne_of_lt (Nat.lt_succ_of_lt b0)⟩) (Heap.get?_push_of_some _ (old b o e))
theorem call_set_intsL {l : Addr} {items : Array Value} {s : Shared} (ns : List Int) {Q : Value → Shared → Prop} (hh : A.handled = none) (hl : s.heap.IsList l items) (hit : IntsAre items.toList ns) (hfew : ns.length + 1 < scanBound)
    (done : ∀ (h' : Heap) (tk : Nat), FilledI w s.heap s.heap.objs.size ns h' → Q (.ref s.heap.objs.size) { s with heap := h', toks := tk }) : wpAny (model P w) A (call (.type "set") [.ref l]) Q E s := by
  obtain ⟨hp, g, d, tk, os⟩ := s
  have T := F.called_set
  obtain ⟨_, _, m1⟩ := T.mro
  have m2 := T.made
  have m3 := T.sub
  have m4 := T.notType
  have m5 := T.canCreate
  have m6 := F.typeCall_set_1 (.ref l)
  refine wpAny_call (codeAny_of_tree ?_)
  show wpAny _ _ (callAny (.type "set") _) _ _ _
  refine wpAny_pure ⟨Code.quiet_builtin _ (by decide +kernel), codeAny_builtin F.entry_type_call ?_⟩
  rw [Around.under_plain (weight_type_call_type "set" [.ref l] []) rfl]
  repeat (any_goals (first | assumption | wp_step))
  refine codeAny_mono (code_set_led1 (.ref l) (E := E) (Q₁ := fun o s1 => o = .ref hp.objs.size ∧ s1 = ⟨hp.push (newSet w), g, d, tk, os⟩) ⟨rfl, rfl⟩) ?_
  intro r s1 hr
  rcases r with e | fl
  · exact hr
  rcases fl with _ | _ | _ | o
  · exact hr.elim
  · exact hr.elim
  · exact hr.elim
  obtain ⟨rfl, rfl⟩ := hr
  have ty : Shared.TypeIs ⟨hp.push (newSet w), g, d, tk, os⟩ (.ref hp.objs.size) "set" := ⟨_, Heap.get?_push_size _ rfl, rfl⟩
  have i1 := T.init.lookup
  have i2 := T.init.bind (.ref hp.objs.size)
  repeat (any_goals (first | assumption | wp_step))
  refine codeAny_mono (codeAny_call_builtin (R := wants (fun r s2 => r = .none ∧ ∃ h' tk', s2 = ⟨h', g, d, tk', os⟩ ∧ FilledI w hp hp.objs.size ns h') E) T.init.plain F.entry_set_init (check_set_init_1 ty ?_)) ?_
  · exact init_intsL ns (by simp [hh]) hl hit hfew fun h' tk' f => ⟨rfl, h', tk', rfl, f⟩
  · intro r s2 hr
    rcases r with e | fl
    · exact hr
    rcases fl with _ | _ | _ | o
    · exact hr.elim
    · exact hr.elim
    · exact hr.elim
    obtain ⟨rfl, h', tk', rfl, f⟩ := hr
    repeat (any_goals (first | assumption | wp_step))
    exact done h' tk' f
end
end DLS
namespace DX
open PySem PySem.Spec PyProof.Rows L2
section
variable {X : Cx} {K : PySem.W.Frag} {F : Fr} {e a : Expr} {ma : EM} {P : Program} {w : World}
def rSetIL (K : PySem.W.Frag) (w : World) : List V → Hp → VK → Prop := fun xs H Q => ∃ (l : Addr) (ns : List Int), xs = [V.ref l] ∧ SqL K H l (ns.map V.int) ∧ ns.length < 64 ∧
  ∀ a c, H a = none → c ≤ ns.length → Q (.ref a) (upd H a (SetO w a (fun j => decide (j ∈ ns)) c))
theorem cr_setIL (hc : X.calm = true) : CallR X (.type "set") (rSetIL X.K X.w) := by
  intro pins s σ H xs us Q I r h
  obtain ⟨l, ns, rfl, hl, hf, q⟩ := h
  rw [Vals.ref1 r]
  obtain ⟨its, rv, hz, hd⟩ := I.list hl
  have hn : H s.heap.objs.size = none := I.hok.fresh (Nat.le_refl _)
  refine DLS.call_set_intsL (P := X.prog) (w := X.w) (items := its.toArray) ns (I.ok.hd hc) hz.isList (by simpa using rv.ints) (by unfold scanBound; omega) fun h' tk f => ?_
  obtain ⟨⟨c, hc', R⟩, k⟩ := f
  exact ⟨.ref s.heap.objs.size, upd H s.heap.objs.size (SetO X.w s.heap.objs.size (fun j => decide (j ∈ ns)) c), I.laid (t' := tk) k (Nat.le_refl _) (setO_new R), rfl, q _ c hn hc'⟩
def isortI (l : List Int) : List Int := l.mergeSort fun a b => decide (a ≤ b)
def ddI : List Int → List Int
  | [] => []
  | a :: l => if a ∈ l then ddI l else a :: ddI l
theorem mem_ddI : ∀ {l : List Int} {a : Int}, a ∈ ddI l ↔ a ∈ l
  | [], _ => Iff.rfl
  | b :: l, a => by
    unfold ddI
    split
    · rename_i h
      rw [mem_ddI, List.mem_cons]
      exact ⟨.inr, fun z => z.elim (fun z => z ▸ h) id⟩
    · rw [List.mem_cons, List.mem_cons, mem_ddI]
theorem ddI_nodup : ∀ l : List Int, (ddI l).Nodup
  | [] => .nil
  | a :: l => by
    unfold ddI
    split
    · exact ddI_nodup l
    · rename_i h
      exact List.nodup_cons.mpr ⟨fun z => h (mem_ddI.mp z), ddI_nodup l⟩
def ssetI (l : List Int) : List Int := isortI (ddI l)
theorem mem_ssetI {l : List Int} {a : Int} : a ∈ ssetI l ↔ a ∈ l := by
  unfold ssetI isortI
  rw [(List.mergeSort_perm _ _).mem_iff, mem_ddI]
theorem ssetI_pw (l : List Int) : (ssetI l).Pairwise (· < ·) := by
  have h1 : (ssetI l).Pairwise (fun a b => decide (a ≤ b) = true) := List.pairwise_mergeSort (fun a b c h1 h2 => by simp at h1 h2 ⊢; omega) (fun a b => by simp; omega) (ddI l)
  have h2 : (ssetI l).Nodup := (List.mergeSort_perm _ _).nodup_iff.mpr (ddI_nodup l)
  exact (h1.and h2).imp fun {a b} h => by
    have := of_decide_eq_true h.1
    have := h.2
    omega
theorem pw_unique : ∀ {a b : List Int}, a.Pairwise (· < ·) → b.Pairwise (· < ·) → (∀ x, x ∈ a ↔ x ∈ b) → a = b
  | [], [], _, _, _ => rfl
  | [], y :: b, _, _, h => absurd ((h y).mpr (by simp)) (by simp)
  | x :: a, [], _, _, h => absurd ((h x).mp (by simp)) (by simp)
  | x :: a, y :: b, pa, pb, h => by
    obtain ⟨a1, a2⟩ := List.pairwise_cons.mp pa
    obtain ⟨b1, b2⟩ := List.pairwise_cons.mp pb
    have e : x = y := by
      have hx := (h x).mp (by simp)
      have hy := (h y).mpr (by simp)
      rcases List.mem_cons.mp hx with e | hx
      · exact e
      · rcases List.mem_cons.mp hy with e | hy
        · exact e.symm
        · have := b1 x hx
          have := a1 y hy
          omega
    subst e
    rw [pw_unique a2 b2 fun z => ⟨fun hz => by
      rcases List.mem_cons.mp ((h z).mp (List.mem_cons_of_mem _ hz)) with e | hz'
      · have := a1 z hz; omega
      · exact hz', fun hz => by
      rcases List.mem_cons.mp ((h z).mpr (List.mem_cons_of_mem _ hz)) with e | hz'
      · have := b1 z hz; omega
      · exact hz'⟩]
theorem dvs_ints2 {G : Hp} : ∀ {xs : List V} {ns : List Int}, DVs K G xs (ns.map D.int) → xs = ns.map V.int
  | _, [], .nil => rfl
  | _, i :: ns, .cons a r => by
    cases a.to_int
    rw [List.map_cons, dvs_ints2 r]
def mSortSI (ma : EM) : EM := fun δ S P X => ma δ S (fun w S1 => ∃ ns : List Int, lseq S1 w = some (ns.map fun i => .d (.int i)) ∧ ns.length < 64 ∧ P (.d (.lst ((ssetI ns).map .int))) S1) X
theorem je_sortSI (h : PE X e (tCB (rSortedSet w) (tCons (tCB (rSetIL K w) (tCons (tW X a) tNil)) tNil))) (ja : JE X K F a ma) : JE X K F e (mSortSI ma) := .of h fun δ S P0 q M σ H k x Q c => ja δ S _ q M σ H k x _ fun v H1 wv S1 p1 s1 v1 => by
  obtain ⟨ns, el, h64, q⟩ := p1
  obtain ⟨p, xs, rfl, h1, h2⟩ := lseq_ok s1.ok.cell v1 el
  have h3 : Wvs K (gS M S1 H1) xs ((ns.map D.int).map .d) := by rw [List.map_map]; exact h2
  have ex : xs = ns.map V.int := dvs_ints2 h3.ds
  subst ex
  refine ⟨p, ns, rfl, sqL h1, h64, fun z c0 hz hc0 => ?_⟩
  show (rSortedSet w) [.ref z] _ Q
  have k2 := s1.trans (St.new (o := SetO w z (fun j => decide (j ∈ ns)) c0) s1.ok hz)
  refine ⟨z, _, c0, rfl, upd_same, by omega, fun ms n hpw hmem hlen hn => ?_⟩
  have e : ms = ssetI ns := pw_unique hpw (ssetI_pw ns) fun k => by
    rw [hmem k, mem_ssetI]
    exact decide_eq_true_iff
  subst e
  have k3 := k2.trans (St.new (o := .lst ((ssetI ns).map V.int)) k2.ok hn)
  refine c _ _ _ S1 q k3 (.d (.lst (gS_new k2.ok hn fun ps y => by cases y) ?_))
  have : ∀ (G : Hp) (l : List Int), DVs K G (l.map V.int) (l.map D.int) := fun G l => by
    induction l with
    | nil => exact .nil
    | cons i l ih => exact .cons (.int i) ih
  exact this _ _
end
end DX

set_option Elab.async false
set_option linter.all false
set_option maxRecDepth 100000
namespace DX
open PySem L2
noncomputable section

structure ExD where
  C : String
  fs : List (String × D)
def ExD.w (e : ExD) : Exn := ⟨e.C, e.fs.map fun p => (p.1, .d p.2)⟩
inductive Dr (α : Type) where
  | ok (a : α) | ex (e : ExD) | no | dr (n : Int) (k : Int → Dr α)
def Dr.bind {α β : Type} (r : Dr α) (f : α → Dr β) : Dr β := match r with
  | .ok a => f a
  | .ex e => .ex e
  | .no => .no
  | .dr n k => .dr n fun d => (k d).bind f
def Dr.wp {α : Type} (r : Dr α) (P : α → Prop) (X : ExD → Prop) : Prop := match r with
  | .ok a => P a
  | .ex e => X e
  | .no => False
  | .dr n k => (1 ≤ n ∧ n < 2 ^ 64) ∧ ∀ d, 0 ≤ d → d < n → (k d).wp P X
def Dr.calm {α : Type} (r : Dr α) : Dr α := match r with
  | .ok a => .ok a
  | .ex _ => .no
  | .no => .no
  | .dr n k => .dr n fun d => (k d).calm
section
variable {α β γ : Type}
theorem Dr.bind_ok (a : α) (f : α → Dr β) : (Dr.ok a).bind f = f a := rfl
theorem Dr.bind_ex (e : ExD) (f : α → Dr β) : (Dr.ex e).bind f = .ex e := rfl
theorem Dr.bind_no (f : α → Dr β) : (Dr.no : Dr α).bind f = .no := rfl
theorem Dr.bind_dr (n : Int) (k : Int → Dr α) (f : α → Dr β) : (Dr.dr n k).bind f = .dr n fun d => (k d).bind f := rfl
theorem Dr.wp_ok (a : α) (P : α → Prop) (X : ExD → Prop) : (Dr.ok a).wp P X = P a := rfl
theorem Dr.wp_ex (e : ExD) (P : α → Prop) (X : ExD → Prop) : (Dr.ex e : Dr α).wp P X = X e := rfl
theorem Dr.wp_no (P : α → Prop) (X : ExD → Prop) : (Dr.no : Dr α).wp P X = False := rfl
theorem Dr.wp_dr (n : Int) (k : Int → Dr α) (P : α → Prop) (X : ExD → Prop) : (Dr.dr n k).wp P X = ((1 ≤ n ∧ n < 2 ^ 64) ∧ ∀ d, 0 ≤ d → d < n → (k d).wp P X) := rfl
theorem Dr.wp_bind (r : Dr α) (f : α → Dr β) (P : β → Prop) (X : ExD → Prop) : (r.bind f).wp P X = r.wp (fun a => (f a).wp P X) X := by
  induction r with
  | ok a => rfl
  | ex e => rfl
  | no => rfl
  | dr n k ih =>
    rw [Dr.bind_dr, Dr.wp_dr, Dr.wp_dr]
    simp only [ih]
theorem Dr.bind_assoc (r : Dr α) (f : α → Dr β) (g : β → Dr γ) : (r.bind f).bind g = r.bind fun a => (f a).bind g := by
  induction r with
  | ok a => rfl
  | ex e => rfl
  | no => rfl
  | dr n k ih =>
    rw [Dr.bind_dr, Dr.bind_dr, Dr.bind_dr]
    congr 1
    funext d
    exact ih d
theorem Dr.wp.imp {r : Dr α} {P P' : α → Prop} {X X' : ExD → Prop} (h : r.wp P X) (hp : ∀ a, P a → P' a) (hx : ∀ e, X e → X' e) : r.wp P' X' := by
  induction r with
  | ok a => exact hp a h
  | ex e => exact hx e h
  | no => exact h.elim
  | dr n k ih => exact ⟨h.1, fun d h1 h2 => ih d (h.2 d h1 h2)⟩
theorem Dr.wp_calm {r : Dr α} {P : α → Prop} {X Y : ExD → Prop} (h : r.calm.wp P X) : r.wp P Y := by
  induction r with
  | ok a => exact h
  | ex e => exact h.elim
  | no => exact h.elim
  | dr n k ih => exact ⟨h.1, fun d h1 h2 => ih d (h.2 d h1 h2)⟩
end
open Classical in
noncomputable def must {α : Type} (c : Prop) (r : Dr α) : Dr α := if c then r else .no
def opt {α β : Type} (o : Option α) (f : α → Dr β) : Dr β := match o with
  | some a => f a
  | none => .no
theorem must_ok {α : Type} {c : Prop} {r : Dr α} (h : c) : must c r = r := if_pos h
theorem must_true {α : Type} {r : Dr α} : must True r = r := if_pos trivial
theorem opt_some {α β : Type} {a : α} {f : α → Dr β} : opt (some a) f = f a := rfl
theorem must_wp {α : Type} {c : Prop} {r : Dr α} {P : α → Prop} {X : ExD → Prop} (h : (must c r).wp P X) : c ∧ r.wp P X := by
  unfold must at h
  split at h
  · exact ⟨‹_›, h⟩
  · exact h.elim
theorem opt_wp {α β : Type} {o : Option α} {f : α → Dr β} {P : β → Prop} {X : ExD → Prop} (h : (opt o f).wp P X) : ∃ a, o = some a ∧ (f a).wp P X := by
  cases o with
  | none => exact h.elim
  | some a => exact ⟨a, rfl, h⟩
def BagOk (S : Store) (p c : Addr) : Prop := ∃ (ms : List Int) (i r z n : Int), S p = some (bagC c i r z n) ∧ S c = some (bagI ms) ∧ p ≠ c ∧ ms.length ≤ 63 ∧ 0 ≤ i ∧ 0 ≤ r ∧ 0 ≤ z ∧ z < 2147483629

def cellLike : D → Bool
  | .lst _ => true
  | .dct _ => true
  | .ins _ _ => true
  | .ty _ => true
  | _ => false
def cel (w : W) (d : D) : Prop := cellLike d = true → ∃ a, w = .ref a
abbrev cellFs : List String := ["trail"]
def cellF (f : String) : Bool := cellFs.contains f
mutual
inductive Ow (S : Store) : W → D → List Addr → Prop
  | d (x : D) : Ow S (.d x) x []
  | lst {a : Addr} {ds : List D} : S a = some (.lst (ds.map .d)) → Ow S (.ref a) (.lst ds) [a]
  | dct {a : Addr} {fs : List (Key × D)} : S a = some (.dct (fs.map fun p => (p.1, .d p.2))) → Ow S (.ref a) (.dct fs) [a]
  | obj {a : Addr} {C : String} {fs : List (String × W)} {gs : List (String × D)} {L : List Addr} : S a = some (.obj C fs) → Owf S fs gs L → a ∉ L → Ow S (.ref a) (.ins C gs) (a :: L)
  | bag {p c : Addr} : BagOk S p c → Ow S (.ref p) (.ty "bag") [p, c]
inductive Owf (S : Store) : List (String × W) → List (String × D) → List Addr → Prop
  | nil : Owf S [] [] []
  | cons {f : String} {w : W} {d : D} {fs : List (String × W)} {gs : List (String × D)} {L L' : List Addr} : Ow S w d L → Owf S fs gs L' → (∀ b ∈ L, b ∉ L') → (cellF f = false → w = .d d) → (cellF f = true → cel w d) → Owf S ((f, w) :: fs) ((f, d) :: gs) (L ++ L')
end
mutual
theorem Ow.fr {S S' : Store} : ∀ {w : W} {d : D} {L : List Addr}, Ow S w d L → (∀ b ∈ L, S' b = S b) → Ow S' w d L
  | _, _, _, .d x, _ => .d x
  | _, _, _, .lst h, e => .lst (by rw [e _ (by simp)]; exact h)
  | _, _, _, .dct h, e => .dct (by rw [e _ (by simp)]; exact h)
  | _, _, _, .obj h r n, e => .obj (by rw [e _ (by simp)]; exact h) (r.fr fun b hb => e b (List.mem_cons_of_mem _ hb)) n
  | _, _, _, .bag h, e => .bag (by
    obtain ⟨ms, i, r, z, n, h1, h2, h3⟩ := h
    exact ⟨ms, i, r, z, n, by rw [e _ (by simp)]; exact h1, by rw [e _ (by simp)]; exact h2, h3⟩)
theorem Owf.fr {S S' : Store} : ∀ {fs : List (String × W)} {gs : List (String × D)} {L : List Addr}, Owf S fs gs L → (∀ b ∈ L, S' b = S b) → Owf S' fs gs L
  | _, _, _, .nil, _ => .nil
  | _, _, _, .cons h r n z y, e => .cons (h.fr fun b hb => e b (List.mem_append_left _ hb)) (r.fr fun b hb => e b (List.mem_append_right _ hb)) n z y
end
mutual
theorem Ow.al {S : Store} : ∀ {w : W} {d : D} {L : List Addr}, Ow S w d L → ∀ b ∈ L, S b ≠ none
  | _, _, _, .d x, b, hb => by cases hb
  | _, _, _, .lst h, b, hb => by rw [List.mem_singleton.mp hb, h]; simp
  | _, _, _, .dct h, b, hb => by rw [List.mem_singleton.mp hb, h]; simp
  | _, _, _, .obj h r n, b, hb => by
    rcases List.mem_cons.mp hb with rfl | hb
    · rw [h]; simp
    · exact r.al b hb
  | _, _, _, .bag h, b, hb => by
    obtain ⟨ms, i, r, z, n, h1, h2, h3⟩ := h
    rcases List.mem_cons.mp hb with rfl | hb
    · rw [h1]; simp
    · rw [List.mem_singleton.mp hb, h2]; simp
theorem Owf.al {S : Store} : ∀ {fs : List (String × W)} {gs : List (String × D)} {L : List Addr}, Owf S fs gs L → ∀ b ∈ L, S b ≠ none
  | _, _, _, .nil, b, hb => by cases hb
  | _, _, _, .cons h r n z y, b, hb => by
    rcases List.mem_append.mp hb with hb | hb
    · exact h.al b hb
    · exact r.al b hb
end
theorem Ow.frS {S S' : Store} {w : W} {d : D} {L : List Addr} (h : Ow S w d L) (e : ∀ b c, b ∈ L → S b = some c → S' b = some c) : Ow S' w d L := h.fr fun b hb => by
  cases q : S b with
  | none => exact absurd q (h.al b hb)
  | some c => exact e b c hb q
abbrev Rho := List (Option D)
structure Cf where
  own : List Nat
  pr : List Nat
  mu : List Nat
structure Bs where
  A0 : Addr → Prop
  S0 : Store
  δ0 : Slots
  ρ0 : Rho
  L0 : Nat → List Addr
  L : Nat → List Addr
def Bs.at (B : Bs) (L : Nat → List Addr) : Bs := { B with L := L }
structure EmC (c : Cf) (B : Bs) (ρ : Rho) (δ : Slots) (S : Store) (A : Addr → Prop) (L : Nat → List Addr) : Prop where
  len : δ.length = ρ.length
  tr : ∀ i d, ρ[i]? = some (some d) → i ∉ c.own → δ[i]? = some (some (.d d))
  ow : ∀ i d, ρ[i]? = some (some d) → i ∈ c.own → ∃ w, δ[i]? = some (some w) ∧ Ow S w d (L i)
  ce : ∀ i d w, ρ[i]? = some (some d) → i ∈ c.own → δ[i]? = some (some w) → cel w d
  inA : ∀ i b, b ∈ L i → A b
  dis : ∀ i j b, i ≠ j → b ∈ L i → b ∉ L j
  a0 : ∀ b, B.A0 b → A b
  a1 : ∀ b, B.A0 b → B.S0 b ≠ none
  al : ∀ b, A b → S b ≠ none
  new : ∀ b, A b → B.A0 b ∨ B.S0 b = none
  fr : ∀ b x, ¬ B.A0 b → B.S0 b = some x → S b = some x
  prd : ∀ i, i ∈ c.pr ∨ i ∈ c.mu → δ[i]? = B.δ0[i]?
  prr : ∀ i, i ∈ c.pr → ρ[i]? = B.ρ0[i]?
  prl : ∀ i, i ∈ c.pr → L i = B.L0 i
  mul : ∀ i b, i ∈ c.mu → b ∈ L i → b ∈ B.L0 i ∨ B.S0 b = none
  fresh : ∀ i b, i ∉ c.pr → i ∉ c.mu → b ∈ L i → B.S0 b = none
theorem EmC.at_ {c : Cf} {B : Bs} {ρ : Rho} {δ : Slots} {S : Store} {A : Addr → Prop} {L L' : Nat → List Addr} (k : EmC c B ρ δ S A L) : EmC c (B.at L') ρ δ S A L := ⟨k.len, k.tr, k.ow, k.ce, k.inA, k.dis, k.a0, k.a1, k.al, k.new, k.fr, k.prd, k.prr, k.prl, k.mul, k.fresh⟩
def Em (c : Cf) (B : Bs) (ρ : Rho) (δ : Slots) (S : Store) : Prop := ∃ A, EmC c B ρ δ S A B.L
def EmX (c : Cf) (B : Bs) (ρ : Rho) (δ : Slots) (S : Store) (w : W) (d : D) : Prop := ∃ A Lr, EmC c B ρ δ S A B.L ∧ Ow S w d Lr ∧ (∀ b ∈ Lr, ¬ A b ∧ B.S0 b = none) ∧ cel w d
section
variable {c : Cf} {B : Bs} {ρ ρ' : Rho} {δ δ' : Slots} {S S' : Store} {A : Addr → Prop} {L : Nat → List Addr} {i : Nat} {w : W} {d : D}
theorem Em.x (h : Em c B ρ δ S) (n : cellLike d = false) : EmX c B ρ δ S (.d d) d := by
  obtain ⟨A, k⟩ := h
  exact ⟨A, [], k, .d d, fun b hb => (by cases hb), fun z => by rw [n] at z; cases z⟩
theorem EmC.set (k : EmC c B ρ δ S A L) (h1 : i ∉ c.own) (h2 : i ∉ c.pr) (h3 : i ∉ c.mu) : EmC c B (ρ.set i (some d)) (δ.set i (some (.d d))) S A L := by
  refine ⟨by simpa using k.len, fun j e hj ho => ?_, fun j e hj ho => ?_, fun j e w hj ho hw => ?_, k.inA, k.dis, k.a0, k.a1, k.al, k.new, k.fr, fun j hj => ?_, fun j hj => ?_, k.prl, k.mul, k.fresh⟩
  · by_cases z : i = j
    · subst z
      have hl := (List.getElem?_eq_some_iff.mp hj).1
      rw [List.length_set] at hl
      rw [List.getElem?_set_self hl] at hj
      cases hj
      rw [List.getElem?_set_self (by rw [k.len]; exact hl)]
    · rw [List.getElem?_set_ne z] at hj ⊢
      exact k.tr j e hj ho
  · have z : i ≠ j := fun z => h1 (z ▸ ho)
    rw [List.getElem?_set_ne z] at hj ⊢
    exact k.ow j e hj ho
  · have z : i ≠ j := fun z => h1 (z ▸ ho)
    rw [List.getElem?_set_ne z] at hj hw
    exact k.ce j e w hj ho hw
  · have z : i ≠ j := fun z => hj.elim (fun q => h2 (z ▸ q)) fun q => h3 (z ▸ q)
    rw [List.getElem?_set_ne z]
    exact k.prd j hj
  · have z : i ≠ j := fun z => h2 (z ▸ hj)
    rw [List.getElem?_set_ne z]
    exact k.prr j hj
theorem Em.set (k : Em c B ρ δ S) (h1 : i ∉ c.own) (h2 : i ∉ c.pr) (h3 : i ∉ c.mu) : Em c B (ρ.set i (some d)) (δ.set i (some (.d d))) S := by
  obtain ⟨A, k⟩ := k
  exact ⟨A, k.set h1 h2 h3⟩
theorem EmC.setO {Lr : List Addr} (k : EmC c B ρ δ S A B.L) (hw : Ow S w d Lr) (hr : ∀ b ∈ Lr, ¬ A b ∧ B.S0 b = none) (hc : cel w d) (h1 : i ∈ c.own) (h2 : i ∉ c.pr) (h3 : i ∉ c.mu) : EmC c B (ρ.set i (some d)) (δ.set i (some w)) S (fun b => A b ∨ b ∈ Lr) (fun j => if j = i then Lr else B.L j) := by
  refine ⟨by simpa using k.len, fun j e hj ho => ?_, fun j e hj ho => ?_, fun j e u hj ho hu => ?_, fun j b hb => ?_, fun j l b ne hb hc => ?_, fun b hb => .inl (k.a0 b hb), k.a1, fun b hb => ?_, fun b hb => ?_, k.fr, fun j hj => ?_, fun j hj => ?_, fun j hj => ?_, fun j b hj hb => ?_, fun j b p m hb => ?_⟩
  · have z : i ≠ j := fun z => ho (z ▸ h1)
    rw [List.getElem?_set_ne z] at hj ⊢
    exact k.tr j e hj ho
  · by_cases z : i = j
    · subst z
      have hl := (List.getElem?_eq_some_iff.mp hj).1
      rw [List.length_set] at hl
      rw [List.getElem?_set_self hl] at hj
      cases hj
      rw [if_pos rfl]
      exact ⟨w, by rw [List.getElem?_set_self (by rw [k.len]; exact hl)], hw⟩
    · rw [List.getElem?_set_ne z] at hj ⊢
      rw [if_neg (Ne.symm z)]
      exact k.ow j e hj ho
  · by_cases z : i = j
    · subst z
      have hl := (List.getElem?_eq_some_iff.mp hj).1
      rw [List.length_set] at hl
      rw [List.getElem?_set_self hl] at hj
      cases hj
      rw [List.getElem?_set_self (by rw [k.len]; exact hl)] at hu
      cases hu
      exact hc
    · rw [List.getElem?_set_ne z] at hj hu
      exact k.ce j e u hj ho hu
  · by_cases z : j = i
    · rw [if_pos z] at hb; exact .inr hb
    · rw [if_neg z] at hb; exact .inl (k.inA j b hb)
  · by_cases z : j = i
    · rw [if_pos z] at hb
      rw [if_neg (fun q => ne (z.trans q.symm))] at hc
      exact (hr b hb).1 (k.inA l b hc)
    · rw [if_neg z] at hb
      by_cases y : l = i
      · rw [if_pos y] at hc
        exact (hr b hc).1 (k.inA j b hb)
      · rw [if_neg y] at hc
        exact k.dis j l b ne hb hc
  · rcases hb with hb | hb
    · exact k.al b hb
    · exact hw.al b hb
  · rcases hb with hb | hb
    · exact k.new b hb
    · exact .inr (hr b hb).2
  · have z : i ≠ j := fun z => hj.elim (fun q => h2 (z ▸ q)) fun q => h3 (z ▸ q)
    rw [List.getElem?_set_ne z]
    exact k.prd j hj
  · have z : i ≠ j := fun z => h2 (z ▸ hj)
    rw [List.getElem?_set_ne z]
    exact k.prr j hj
  · have z : ¬ j = i := fun z => h2 (z ▸ hj)
    rw [if_neg z]
    exact k.prl j hj
  · have z : ¬ j = i := fun z => h3 (z ▸ hj)
    rw [if_neg z] at hb
    exact k.mul j b hj hb
  · by_cases z : j = i
    · rw [if_pos z] at hb; exact (hr b hb).2
    · rw [if_neg z] at hb; exact k.fresh j b p m hb
theorem EmX.set (k : EmX c B ρ δ S w d) (h1 : i ∈ c.own) (h2 : i ∉ c.pr) (h3 : i ∉ c.mu) : ∃ L', Em c (B.at L') (ρ.set i (some d)) (δ.set i (some w)) S := by
  obtain ⟨A, Lr, k, hw, hr, hc⟩ := k
  exact ⟨fun j => if j = i then Lr else B.L j, fun b => A b ∨ b ∈ Lr, (k.setO hw hr hc h1 h2 h3).at_⟩
theorem EmC.forget (k : EmC c B ρ δ S A L) (h : i ∉ c.pr) : EmC c B (ρ.set i none) δ S A L := by
  refine ⟨by simpa using k.len, fun j e hj ho => ?_, fun j e hj ho => ?_, fun j e w hj ho hw => ?_, k.inA, k.dis, k.a0, k.a1, k.al, k.new, k.fr, k.prd, fun j hj => ?_, k.prl, k.mul, k.fresh⟩
  · by_cases z : i = j
    · subst z
      have hl := (List.getElem?_eq_some_iff.mp hj).1
      rw [List.length_set] at hl
      rw [List.getElem?_set_self hl] at hj
      cases hj
    · rw [List.getElem?_set_ne z] at hj
      exact k.tr j e hj ho
  · by_cases z : i = j
    · subst z
      have hl := (List.getElem?_eq_some_iff.mp hj).1
      rw [List.length_set] at hl
      rw [List.getElem?_set_self hl] at hj
      cases hj
    · rw [List.getElem?_set_ne z] at hj
      exact k.ow j e hj ho
  · by_cases z : i = j
    · subst z
      have hl := (List.getElem?_eq_some_iff.mp hj).1
      rw [List.length_set] at hl
      rw [List.getElem?_set_self hl] at hj
      cases hj
    · rw [List.getElem?_set_ne z] at hj
      exact k.ce j e w hj ho hw
  · have z : i ≠ j := fun z => h (z ▸ hj)
    rw [List.getElem?_set_ne z]
    exact k.prr j hj
theorem Em.forget (k : Em c B ρ δ S) (h : i ∉ c.pr) : Em c B (ρ.set i none) δ S := by
  obtain ⟨A, k⟩ := k
  exact ⟨A, k.forget h⟩
theorem EmC.onto (k : EmC c B ρ δ S A L) (hA : ∀ b x, ¬ A b → S b = some x → S' b = some x) (hal : ∀ b, A b → S' b ≠ none) (how : ∀ i d w, ρ[i]? = some (some d) → i ∈ c.own → δ[i]? = some (some w) → Ow S w d (L i) → Ow S' w d (L i)) : EmC c B ρ δ S' A L := by
  refine ⟨k.len, k.tr, fun i d h1 h2 => ?_, k.ce, k.inA, k.dis, k.a0, k.a1, hal, k.new, fun b x h1 h2 => ?_, k.prd, k.prr, k.prl, k.mul, k.fresh⟩
  · obtain ⟨w, e, h⟩ := k.ow i d h1 h2
    exact ⟨w, e, how i d w h1 h2 e h⟩
  · refine hA b x (fun q => ?_) (k.fr b x h1 h2)
    rcases k.new b q with z | z
    · exact h1 z
    · rw [h2] at z; cases z
theorem Em.swap (k' : Em c B ρ' δ' S') (k : Em c B ρ δ S) (h : ∀ j, j ∈ c.own ∨ j ∈ c.pr ∨ j ∈ c.mu → ρ'[j]? = ρ[j]? ∧ δ'[j]? = δ[j]?) : Em c B ρ δ S' := by
  obtain ⟨A, k'⟩ := k'
  obtain ⟨A1, k⟩ := k
  refine ⟨A, k.len, k.tr, fun i d h1 h2 => ?_, k.ce, k'.inA, k'.dis, k'.a0, k'.a1, k'.al, k'.new, k'.fr, k.prd, k.prr, k'.prl, k'.mul, k'.fresh⟩
  obtain ⟨e1, e2⟩ := h i (.inl h2)
  rw [← e1] at h1
  rw [← e2]
  exact k'.ow i d h1 h2
theorem Em.newX {a : Addr} {x : Cell} (k : Em c B ρ δ S) (ha : S a = none) (hw : Ow (upS S a x) (.ref a) d [a]) : EmX c B ρ δ (upS S a x) (.ref a) d := by
  obtain ⟨A, k⟩ := k
  have na : ¬ A a := fun q => k.al a q ha
  have ne : ∀ b, A b → b ≠ a := fun b q z => na (z ▸ q)
  refine ⟨A, [a], k.onto (fun b y h1 h2 => ?_) (fun b hb => ?_) (fun i d w h1 h2 h3 h4 => h4.fr fun b hb => ?_), hw, fun b hb => ?_, fun _ => ⟨a, rfl⟩⟩
  · rw [upS_ne (fun z => by rw [z, ha] at h2; cases h2)]; exact h2
  · rw [upS_ne (ne b hb)]; exact k.al b hb
  · exact upS_ne (ne b (k.inA i b hb))
  · rw [List.mem_singleton.mp hb]
    refine ⟨na, ?_⟩
    cases q : B.S0 a with
    | none => rfl
    | some y =>
      by_cases z : B.A0 a
      · exact absurd ha (k.al a (k.a0 a z))
      · rw [k.fr a y z q] at ha; cases ha
end
end
end DX

set_option Elab.async false
set_option linter.all false
set_option maxRecDepth 100000
namespace DX
open PySem L2
noncomputable section
abbrev FE := Rho → Dr D
abbrev FT := Rho → Dr Bool
abbrev FAs := Rho → Dr (List D)
def getR : Rho → Nat → Option D
  | [], _ => none
  | x :: _, 0 => x
  | _ :: l, n + 1 => getR l n
theorem getR_at : ∀ {ρ : Rho} {i : Nat} {d : D}, getR ρ i = some d → ρ[i]? = some (some d)
  | [], _, _, h => by cases h
  | x :: l, 0, d, h => by simpa [getR] using h
  | x :: l, n + 1, d, h => by
    rw [List.getElem?_cons_succ]
    exact getR_at h
section
variable (c : Cf)
def QE (m : EM) (f : FE) : Prop := ∀ B ρ δ S P X, Em c B ρ δ S → (f ρ).wp (fun d => ∀ S', Em c B ρ δ S' → P (.d d) S') (fun e => ∀ S', Em c B ρ δ S' → X e.w S') → m δ S P X
def QO (m : EM) (f : FE) : Prop := ∀ B ρ δ S P X, Em c B ρ δ S → (f ρ).wp (fun d => ∀ S' w, EmX c B ρ δ S' w d → P w S') (fun e => ∀ S', Em c B ρ δ S' → X e.w S') → m δ S P X
def QT (m : TM) (f : FT) : Prop := ∀ B ρ δ S P X, Em c B ρ δ S → (f ρ).wp (fun d => ∀ S', Em c B ρ δ S' → P d S') (fun e => ∀ S', Em c B ρ δ S' → X e.w S') → m δ S P X
end
inductive AR (c : Cf) (ρ : Rho) (δ : Slots) : List (Option Nat) → List W → List D → Prop
  | nil : AR c ρ δ [] [] []
  | tr {os : List (Option Nat)} {ws : List W} {ds : List D} (d : D) : AR c ρ δ os ws ds → AR c ρ δ (none :: os) (.d d :: ws) (d :: ds)
  | ow {os : List (Option Nat)} {ws : List W} {ds : List D} {i : Nat} {w : W} {d : D} : i ∈ c.own → δ[i]? = some (some w) → ρ[i]? = some (some d) → AR c ρ δ os ws ds → AR c ρ δ (some i :: os) (w :: ws) (d :: ds)
def QA (c : Cf) (os : List (Option Nat)) (m : AM) (f : FAs) : Prop := ∀ B ρ δ S P X, Em c B ρ δ S → (f ρ).wp (fun ds => ∀ S' ws, Em c B ρ δ S' → AR c ρ δ os ws ds → P ws S') (fun e => ∀ S', Em c B ρ δ S' → X e.w S') → m δ S P X
section
variable {c : Cf} {m ma mb mc : EM} {f fa fb fc : FE} {t u : TM} {ft fu : FT} {mr : AM} {fr : FAs} {os : List (Option Nat)}
def fPl (f : FE) : FE := fun ρ => (f ρ).bind fun d => must (cellLike d = false) (.ok d)
theorem QE.o (h : QE c m f) : QO c m (fPl f) := fun B ρ δ S P X k q => by
  unfold fPl at q
  rw [Dr.wp_bind] at q
  refine h B ρ δ S P X k (q.imp (fun d z S' e => ?_) fun e z => z)
  obtain ⟨n, z⟩ := must_wp z
  exact z S' _ (e.x n)

def fC (d : D) : FE := fun _ => .ok d
def fVar (i : Nat) : FE := fun ρ => opt (getR ρ i) .ok
theorem qe_c {d : D} : QE c (mC d) (fC d) := fun B ρ δ S P X k q => q S k
theorem qe_var {i : Nat} (h : i ∉ c.own) : QE c (mVar i) (fVar i) := fun B ρ δ S P X k q => by
  obtain ⟨d, e, q⟩ := opt_wp q
  obtain ⟨A, k'⟩ := id k
  unfold mVar
  rw [k'.tr i d (getR_at e) h]
  exact q S k
theorem Em.own {B : Bs} {ρ : Rho} {δ : Slots} {S : Store} {i : Nat} {d : D} (k : Em c B ρ δ S) (e : getR ρ i = some d) (h : i ∈ c.own) : ∃ w L, δ[i]? = some (some w) ∧ Ow S w d L := by
  obtain ⟨A, k⟩ := k
  obtain ⟨w, h1, h2⟩ := k.ow i d (getR_at e) h
  exact ⟨w, _, h1, h2⟩
abbrev F2 := D → D → Option D
abbrev F1 := D → Option D
def SO2 (o : O2) (fo : F2) : Prop := ∀ S x y d e L L' P r, Ow S x d L → Ow S y e L' → fo d e = some r → P (.d r) S → o x y S P
def fOp (fo : F2) (fa fb : FE) : FE := fun ρ => (fa ρ).bind fun a => (fb ρ).bind fun b => opt (fo a b) .ok
def fUn (fo : F1) (fa : FE) : FE := fun ρ => (fa ρ).bind fun a => opt (fo a) .ok
theorem qe_op {o : O2} {fo : F2} (ho : SO2 o fo) (ha : QE c ma fa) (hb : QE c mb fb) : QE c (mOp o ma mb) (fOp fo fa fb) := fun B ρ δ S P X k q => by
  unfold fOp at q
  rw [Dr.wp_bind] at q
  refine ha B ρ δ S _ X k (q.imp (fun a q S1 k1 => ?_) fun e z => z)
  rw [Dr.wp_bind] at q
  refine hb B ρ δ S1 _ X k1 (q.imp (fun b q S2 k2 => ?_) fun e z => z)
  obtain ⟨r, e, q⟩ := opt_wp q
  exact ho S2 _ _ _ _ _ _ _ r (.d a) (.d b) e (q S2 k2)
def fChain (o o' : F2) (fa fb fc : FE) : FE := fun ρ => (fa ρ).bind fun a => (fb ρ).bind fun b => opt (o a b) fun z => match z with
  | .bl true => (fc ρ).bind fun w => opt (o' b w) .ok
  | .bl false => .ok (.bl false)
  | _ => .no
theorem qe_chain {o o' : O2} {fo fo' : F2} (ho : SO2 o fo) (ho' : SO2 o' fo') (ha : QE c ma fa) (hb : QE c mb fb) (hc : QE c mc fc) : QE c (mChain o o' ma mb mc) (fChain fo fo' fa fb fc) := fun B ρ δ S P X k q => by
  unfold fChain at q
  rw [Dr.wp_bind] at q
  refine ha B ρ δ S _ X k (q.imp (fun a q S1 k1 => ?_) fun e z => z)
  rw [Dr.wp_bind] at q
  refine hb B ρ δ S1 _ X k1 (q.imp (fun b q S2 k2 => ?_) fun e z => z)
  obtain ⟨r, e, q⟩ := opt_wp q
  refine ho S2 _ _ _ _ _ _ _ r (.d a) (.d b) e ?_
  cases r with
  | bl t =>
    cases t with
    | true =>
      dsimp only at q ⊢
      rw [Dr.wp_bind] at q
      refine hc B ρ δ S2 _ X k2 (q.imp (fun w q S3 k3 => ?_) fun e z => z)
      obtain ⟨r, e, q⟩ := opt_wp q
      exact ho' S3 _ _ _ _ _ _ _ r (.d b) (.d w) e (q S3 k3)
    | false => exact q S2 k2
  | _ => exact q.elim

def truD : D → Option Bool
  | .non => some false
  | .bl b => some b
  | .int i => some (i != 0)
  | .str s => if s.length ≤ 100000 then some ((s.length : Int) != 0) else none
  | .lst l => some (!l.isEmpty)
  | .tup l => some (!l.isEmpty)
  | _ => none
theorem tru_ow {S : Store} {w : W} {d : D} {L : List Addr} {b : Bool} (h : Ow S w d L) (e : truD d = some b) : truW S w = some b := by
  cases h with
  | d =>
    cases d with
    | lst l =>
      cases e
      show some (!(l.map W.d).isEmpty) = _
      cases l <;> rfl
    | tup l =>
      cases e
      show some (!(l.map W.d).isEmpty) = _
      cases l <;> rfl
    | ins C l => cases e
    | dct l => cases e
    | cls C => cases e
    | ty C => cases e
    | _ => exact e
  | lst h =>
    rename_i a ds
    cases e
    unfold truW seqW lseq
    dsimp only
    rw [h]
    cases ds <;> rfl
  | dct h => cases e
  | obj h r n => cases e
  | bag h => cases e
def fTru (fa : FE) : FT := fun ρ => (fa ρ).bind fun a => opt (truD a) .ok
def fBl (fa : FE) : FT := fun ρ => (fa ρ).bind fun a => match a with
  | .bl b => .ok b
  | _ => .no
def fAnd (t u : FT) : FT := fun ρ => (t ρ).bind fun b => if b = true then u ρ else .ok false
def fOr (t u : FT) : FT := fun ρ => (t ρ).bind fun b => if b = true then .ok true else u ρ
def fNot (t : FT) : FT := fun ρ => (t ρ).bind fun b => .ok (!b)
theorem qt_tru (ha : QE c ma fa) : QT c (mTru ma) (fTru fa) := fun B ρ δ S P X k q => by
  unfold fTru at q
  rw [Dr.wp_bind] at q
  refine ha B ρ δ S _ X k (q.imp (fun a q S1 k1 => ?_) fun e z => z)
  obtain ⟨r, e, q⟩ := opt_wp q
  rw [tru_ow (.d a) e]
  exact q S1 k1
theorem qt_bl (ha : QE c ma fa) : QT c (mBl ma) (fBl fa) := fun B ρ δ S P X k q => by
  unfold fBl at q
  rw [Dr.wp_bind] at q
  refine ha B ρ δ S _ X k (q.imp (fun a q S1 k1 => ?_) fun e z => z)
  cases a with
  | bl b => exact q S1 k1
  | _ => exact q.elim
theorem qt_and (ht : QT c t ft) (hu : QT c u fu) : QT c (mAnd t u) (fAnd ft fu) := fun B ρ δ S P X k q => by
  unfold fAnd at q
  rw [Dr.wp_bind] at q
  refine ht B ρ δ S _ X k (q.imp (fun a q S1 k1 => ?_) fun e z => z)
  cases a with
  | true => exact hu B ρ δ S1 P X k1 q
  | false => exact q S1 k1
theorem qt_or (ht : QT c t ft) (hu : QT c u fu) : QT c (mOr t u) (fOr ft fu) := fun B ρ δ S P X k q => by
  unfold fOr at q
  rw [Dr.wp_bind] at q
  refine ht B ρ δ S _ X k (q.imp (fun a q S1 k1 => ?_) fun e z => z)
  cases a with
  | false => exact hu B ρ δ S1 P X k1 q
  | true => exact q S1 k1
theorem qt_not (ht : QT c t ft) : QT c (mNot t) (fNot ft) := fun B ρ δ S P X k q => by
  unfold fNot at q
  rw [Dr.wp_bind] at q
  exact ht B ρ δ S _ X k (q.imp (fun a q S1 k1 => q S1 k1) fun e z => z)
def fAndV (fa fb : FE) : FE := fun ρ => (fa ρ).bind fun a => opt (truD a) fun b => if b = true then fb ρ else .ok a
def fOrV (fa fb : FE) : FE := fun ρ => (fa ρ).bind fun a => opt (truD a) fun b => if b = true then .ok a else fb ρ
def fNotV (fa : FE) : FE := fun ρ => (fa ρ).bind fun a => opt (truD a) fun b => .ok (.bl (!b))
theorem qe_andV (ha : QE c ma fa) (hb : QE c mb fb) : QE c (mAndV ma mb) (fAndV fa fb) := fun B ρ δ S P X k q => by
  unfold fAndV at q
  rw [Dr.wp_bind] at q
  refine ha B ρ δ S _ X k (q.imp (fun a q S1 k1 => ?_) fun e z => z)
  obtain ⟨r, e, q⟩ := opt_wp q
  rw [tru_ow (.d a) e]
  cases r with
  | true => exact hb B ρ δ S1 P X k1 q
  | false => exact q S1 k1
theorem qe_orV (ha : QE c ma fa) (hb : QE c mb fb) : QE c (mOrV ma mb) (fOrV fa fb) := fun B ρ δ S P X k q => by
  unfold fOrV at q
  rw [Dr.wp_bind] at q
  refine ha B ρ δ S _ X k (q.imp (fun a q S1 k1 => ?_) fun e z => z)
  obtain ⟨r, e, q⟩ := opt_wp q
  rw [tru_ow (.d a) e]
  cases r with
  | false => exact hb B ρ δ S1 P X k1 q
  | true => exact q S1 k1
def fIf (t : FT) (fa fb : FE) : FE := fun ρ => (t ρ).bind fun b => if b = true then fa ρ else fb ρ
theorem qe_if (ht : QT c t ft) (ha : QE c ma fa) (hb : QE c mb fb) : QE c (mIf t ma mb) (fIf ft fa fb) := fun B ρ δ S P X k q => by
  unfold fIf at q
  rw [Dr.wp_bind] at q
  refine ht B ρ δ S _ X k (q.imp (fun a q S1 k1 => ?_) fun e z => z)
  cases a with
  | true => exact ha B ρ δ S1 P X k1 q
  | false => exact hb B ρ δ S1 P X k1 q
def fNil : FAs := fun _ => .ok []
def fCons (fa : FE) (fr : FAs) : FAs := fun ρ => (fa ρ).bind fun a => (fr ρ).bind fun r => .ok (a :: r)
theorem qa_nil : QA c [] aNil fNil := fun B ρ δ S P X k q => q S [] k .nil
theorem qa_cons (ha : QE c ma fa) (hr : QA c os mr fr) : QA c (none :: os) (aCons ma mr) (fCons fa fr) := fun B ρ δ S P X k q => by
  unfold fCons at q
  rw [Dr.wp_bind] at q
  refine ha B ρ δ S _ X k (q.imp (fun a q S1 k1 => ?_) fun e z => z)
  rw [Dr.wp_bind] at q
  exact hr B ρ δ S1 _ X k1 (q.imp (fun r q S2 ws k2 h => q S2 _ k2 (.tr a h)) fun e z => z)
theorem qa_own {i : Nat} (hi : i ∈ c.own) (hr : QA c os mr fr) : QA c (some i :: os) (aCons (mVar i) mr) (fCons (fVar i) fr) := fun B ρ δ S P X k q => by
  unfold fCons at q
  rw [Dr.wp_bind] at q
  obtain ⟨d, ed, q⟩ := opt_wp q
  obtain ⟨w, L, ew, hw⟩ := k.own ed hi
  have q : ((fr ρ).bind fun r => .ok (d :: r)).wp _ _ := q
  rw [Dr.wp_bind] at q
  show (match δ[i]? with | some (some w) => _ | _ => False)
  rw [ew]
  exact hr B ρ δ S _ X k (q.imp (fun r q S2 ws k2 h => q S2 _ k2 (.ow hi ew (getR_at ed) h)) fun e z => z)
theorem AR.trees {ρ : Rho} {δ : Slots} {ws : List W} {ds : List D} (h : AR c ρ δ os ws ds) (n : os.all (·.isNone) = true) : ws = ds.map .d := by
  induction h with
  | nil => rfl
  | tr d h ih => rw [ih (by simpa using n)]; rfl
  | ow h1 h2 h3 h4 ih => simp at n
def fTup (fr : FAs) : FE := fun ρ => (fr ρ).bind fun ds => must (ds.length ≤ 1000) (.ok (.tup ds))
def fLst (fr : FAs) : FE := fun ρ => (fr ρ).bind fun ds => must (ds.length ≤ 1000) (.ok (.lst ds))
theorem newLC_f {ds : List D} {S : Store} {P : W → Store → Prop} (h : P (.d (.lst ds)) S) : newLC false (ds.map .d) S P := by
  rw [x_newMap]
  exact h
theorem newLC_t {ds : List D} {B : Bs} {ρ : Rho} {δ : Slots} {S : Store} {P : W → Store → Prop} (k : Em c B ρ δ S) (h : ∀ S' w, EmX c B ρ δ S' w (.lst ds) → P w S') : newLC true (ds.map .d) S P := by
  rw [x_newT]
  exact fun a ha => h _ _ (k.newX ha (.lst upS_same))
theorem qe_lst (hr : QA c os mr fr) (n : os.all (·.isNone) = true := by rfl) : QE c (mLst false mr) (fLst fr) := fun B ρ δ S P X k q => by
  unfold fLst at q
  rw [Dr.wp_bind] at q
  refine hr B ρ δ S _ X k (q.imp (fun ds q S1 ws k1 h => ?_) fun e z => z)
  obtain ⟨l, q⟩ := must_wp q
  rw [h.trees n]
  exact ⟨by rw [List.length_map]; exact l, newLC_f (q S1 k1)⟩
theorem qo_lst (hr : QA c os mr fr) (n : os.all (·.isNone) = true := by rfl) : QO c (mLst true mr) (fLst fr) := fun B ρ δ S P X k q => by
  unfold fLst at q
  rw [Dr.wp_bind] at q
  refine hr B ρ δ S _ X k (q.imp (fun ds q S1 ws k1 h => ?_) fun e z => z)
  obtain ⟨l, q⟩ := must_wp q
  rw [h.trees n]
  exact ⟨by rw [List.length_map]; exact l, newLC_t k1 q⟩
end
end
end DX

set_option Elab.async false
set_option linter.all false
set_option maxRecDepth 100000
namespace DX
open PySem L2
noncomputable section
section
variable {S : Store} {w : W} {d : D} {L : List Addr} {ds : List D}
theorem Ow.int {i : Int} (h : Ow S w (.int i) L) : w = .d (.int i) := by cases h; rfl
theorem Ow.bl {i : Bool} (h : Ow S w (.bl i) L) : w = .d (.bl i) := by cases h; rfl
theorem Ow.str {i : Str} (h : Ow S w (.str i) L) : w = .d (.str i) := by cases h; rfl
theorem Ow.non (h : Ow S w .non L) : w = .d .non := by cases h; rfl
theorem Ow.tup (h : Ow S w (.tup ds) L) : w = .d (.tup ds) := by cases h; rfl
theorem Ow.cls {C : String} (h : Ow S w (.cls C) L) : w = .d (.cls C) := by cases h; rfl
theorem Ow.lseq (h : Ow S w (.lst ds) L) : lseq S w = some (ds.map .d) := by
  cases h with
  | d => rfl
  | lst h => unfold DX.lseq; dsimp only; rw [h]
def seqD : D → Option (List D)
  | .lst l => some l
  | .tup l => some l
  | _ => none
theorem Ow.seq (h : Ow S w d L) (e : seqD d = some ds) : seqW S w = some (ds.map .d) := by
  cases d with
  | lst l =>
    cases e
    unfold seqW
    rw [h.lseq]
  | tup l =>
    cases e
    rw [h.tup]
    rfl
  | _ => cases e
theorem ofCat {α β : Type} (f : α → β) (a b : List α) : a.map f ++ b.map f = (a ++ b).map f := by simp
end
open Classical in
def ite_ {α : Type} (c : Prop) (r : Option α) : Option α := if c then r else none
theorem ite_some {α : Type} {c : Prop} {r : Option α} {a : α} (h : ite_ c r = some a) : c ∧ r = some a := by
  unfold ite_ at h
  split at h
  · exact ⟨‹_›, h⟩
  · cases h
def foAdd : F2
  | .int a, .int b => some (.int (a + b))
  | .str a, .str b => ite_ (a.length + b.length ≤ 1000000) (some (.str (a ++ b)))
  | .lst a, .lst b => ite_ (a.length + b.length ≤ 100000) (some (.lst (a ++ b)))
  | .tup a, .tup b => ite_ (a.length + b.length ≤ 100000) (some (.tup (a ++ b)))
  | _, _ => none
theorem so_add : SO2 (oAdd false) foAdd := fun S x y d e L L' P r hx hy h p => by
  unfold foAdd at h
  split at h
  · cases h; rw [hx.int, hy.int]; exact p
  · obtain ⟨h1, h⟩ := ite_some h
    cases h
    rw [hx.str, hy.str]
    exact ⟨h1, p⟩
  · obtain ⟨h1, h⟩ := ite_some h
    cases h
    have e1 := hx.lseq
    have e2 := hy.lseq
    have z : oAdd false x y S P = catO false x y S P := by
      cases hx with
      | d => cases hy with
        | d => rfl
        | lst _ => rfl
      | lst _ => rfl
    rw [z]
    unfold catO
    rw [e1, e2]
    refine ⟨by simpa using h1, ?_⟩
    rw [ofCat]
    exact newLC_f p
  · obtain ⟨h1, h⟩ := ite_some h
    cases h
    rw [hx.tup, hy.tup]
    show _ ∧ P (mkT (_ ++ _)) S
    rw [ofCat, mkT_map]
    exact ⟨by simpa using h1, p⟩
  · cases h
def foSub : F2
  | .int a, .int b => some (.int (a - b))
  | _, _ => none
def foMod : F2
  | .int a, .int b => ite_ (0 < b) (some (.int (a % b)))
  | _, _ => none
def foDiv : F2
  | .int a, .int b => ite_ (0 < b ∧ b < 2 ^ 64) (some (.int (a / b)))
  | _, _ => none
def foPow : F2
  | .int a, .int b => ite_ (0 ≤ b ∧ b ≤ 100 ∧ a.natAbs < 2 ^ 64) (some (.int (a ^ b.toNat)))
  | _, _ => none
def foLt : F2
  | .int a, .int b => some (.bl (decide (a < b)))
  | _, _ => none
def foLe : F2
  | .int a, .int b => some (.bl (decide (a ≤ b)))
  | _, _ => none
def foGt : F2
  | .int a, .int b => some (.bl (decide (b < a)))
  | _, _ => none
def foGe : F2
  | .int a, .int b => some (.bl (decide (b ≤ a)))
  | _, _ => none
theorem so_i2 {o : O2} {fo : F2} {f : Int → Int → (D → Prop) → Prop} (ho : o = i2 f) (h1 : ∀ a b r, fo (.int a) (.int b) = some r → ∀ p : D → Prop, p r → f a b p) (h2 : ∀ d e r, fo d e = some r → ∃ a b, d = .int a ∧ e = .int b) : SO2 o fo := fun S x y d e L L' P r hx hy h p => by
  obtain ⟨a, b, rfl, rfl⟩ := h2 _ _ _ h
  rw [hx.int, hy.int, ho]
  exact h1 a b r h _ p
theorem so_sub : SO2 oSub foSub := so_i2 rfl (fun a b r h p q => by cases h; exact q) fun d e r h => by
  unfold foSub at h
  split at h
  · exact ⟨_, _, rfl, rfl⟩
  · cases h
theorem so_le : SO2 oLe foLe := so_i2 rfl (fun a b r h p q => by cases h; exact q) fun d e r h => by
  unfold foLe at h
  split at h
  · exact ⟨_, _, rfl, rfl⟩
  · cases h
instance (a b : Int) : Decidable (CMul a b) := by unfold CMul; infer_instance
def foMul : F2
  | .int a, .int b => ite_ (CMul a b) (some (.int (a * b)))
  | .lst a, .int n => ite_ (-10000 ≤ n ∧ n ≤ 10000 ∧ a.length ≤ 1000) (some (.lst (List.replicate n.toNat a).flatten))
  | .tup a, .int n => ite_ (a ≠ [] ∧ 0 ≤ n ∧ n ≤ 1000 ∧ a.length ≤ 1000) (some (.tup (List.replicate n.toNat a).flatten))
  | _, _ => none
theorem rep_map {α β : Type} (f : α → β) (n : Nat) (a : List α) : (List.replicate n (a.map f)).flatten = (List.replicate n a).flatten.map f := by
  rw [List.map_flatten, List.map_replicate]
theorem so_mul : SO2 (oMul false) foMul := fun S x y d e L L' P r hx hy h p => by
  unfold foMul at h
  split at h
  · obtain ⟨h1, h⟩ := ite_some h
    cases h
    rw [hx.int, hy.int]
    exact ⟨h1, p⟩
  · obtain ⟨h1, h⟩ := ite_some h
    cases h
    rename_i a n
    rw [hy.int]
    have z : oMul false x (.d (.int n)) S P = repO false x n S P := by
      cases hx with
      | d => rfl
      | lst _ => rfl
    rw [z]
    unfold repO
    rw [hx.lseq]
    refine ⟨h1.1, h1.2.1, by simpa using h1.2.2, ?_⟩
    rw [rep_map]
    exact newLC_f p
  · obtain ⟨h1, h⟩ := ite_some h
    cases h
    rw [hx.tup, hy.int]
    refine ⟨by simpa using h1.1, h1.2.1, h1.2.2.1, by simpa using h1.2.2.2, ?_⟩
    rw [rep_map, mkT_map]
    exact p
  · cases h
def foNeg : F1
  | .int a => some (.int (-a))
  | _ => none
def eqV : D → D → Option Bool
  | .int i, .int j => some (decide (i = j))
  | .str i, .str j => some (decide (i = j))
  | .bl i, .bl j => some (decide (i = j))
  | .non, .str _ => some false
  | .str _, .non => some false
  | .int _, .str _ => some false
  | .str _, .int _ => some false
  | a, b => ite_ (okD a = true ∧ okD b = true) (some (eqD a b))
theorem fEq_of {g : Bool → Bool} {a b : D} {q : Bool} {p : D → Prop} (h : eqV a b = some q) (hp : p (.bl (g q))) : fEq g a b p := by
  unfold eqV at h
  unfold fEq
  split at h
  all_goals first
    | (cases h; exact hp)
    | (obtain ⟨h1, h⟩ := ite_some h
       cases h
       (try exact ⟨h1, hp⟩)
       all_goals split
       all_goals first
         | exact ⟨h1, hp⟩
         | (exfalso; rename_i n1 n2 n3 n4 n5 n6 n7; first | exact n1 _ _ rfl rfl | exact n2 _ _ rfl rfl | exact n3 _ _ rfl rfl | exact n4 _ rfl rfl | exact n5 _ rfl rfl | exact n6 _ _ rfl rfl | exact n7 _ _ rfl rfl))
theorem okN_ins {n : Nat} {C : String} {l : List (String × D)} : okN n (.ins C l) = false := by cases n <;> rfl
theorem okN_dct {n : Nat} {l : List (Key × D)} : okN n (.dct l) = false := by cases n <;> rfl
theorem okN_ty {n : Nat} {l : String} : okN n (.ty l) = false := by cases n <;> rfl
theorem eqV_ok {a b : D} {q : Bool} (h : eqV a b = some q) : (∀ C l, a ≠ .ins C l) ∧ (∀ l, a ≠ .ty l) ∧ (∀ C l, b ≠ .ins C l) ∧ ∀ l, b ≠ .ty l := by
  refine ⟨fun C l e => ?_, fun l e => ?_, fun C l e => ?_, fun l e => ?_⟩
  · subst e
    unfold eqV at h
    obtain ⟨h1, h⟩ := ite_some h
    rw [okD, okN_ins] at h1
    exact absurd h1.1 (by decide)
  · subst e
    unfold eqV at h
    obtain ⟨h1, h⟩ := ite_some h
    rw [okD, okN_ty] at h1
    exact absurd h1.1 (by decide)
  · subst e
    unfold eqV at h
    split at h
    all_goals first
      | (rename_i z; cases z)
      | (obtain ⟨h1, h⟩ := ite_some h
         rw [okD, okD, okN_ins] at h1
         exact absurd h1.2 (by decide))
  · subst e
    unfold eqV at h
    split at h
    all_goals first
      | (rename_i z; cases z)
      | (obtain ⟨h1, h⟩ := ite_some h
         rw [okD, okD, okN_ty] at h1
         exact absurd h1.2 (by decide))
theorem eqV_nd {a b : D} {q : Bool} (h : eqV a b = some q) : (∀ l, a ≠ .dct l) ∧ ∀ l, b ≠ .dct l := by
  refine ⟨fun l e => ?_, fun l e => ?_⟩
  · subst e
    unfold eqV at h
    obtain ⟨h1, h⟩ := ite_some h
    rw [okD, okN_dct] at h1
    exact absurd h1.1 (by decide)
  · subst e
    unfold eqV at h
    split at h
    all_goals first
      | (rename_i z; cases z)
      | (obtain ⟨h1, h⟩ := ite_some h
         rw [okD, okD, okN_dct] at h1
         exact absurd h1.2 (by decide))
theorem Ow.rd {S : Store} {w : W} {d : D} {L : List Addr} (h : Ow S w d L) (h1 : ∀ C l, d ≠ .ins C l) (h2 : ∀ l, d ≠ .ty l) (h3 : ∀ l, d ≠ .dct l) : rd S w = some d := by
  cases h with
  | d => rfl
  | lst h =>
    show rdW 4 S (.ref _) = _
    unfold rdW
    rw [h]
    dsimp only
    rw [mapO_d]
    rfl
  | dct h => exact absurd rfl (h3 _)
  | obj h r n => exact absurd rfl (h1 _ _)
  | bag h => exact absurd rfl (h2 _)
def foEq : F2 := fun a b => (eqV a b).map .bl
def foNe : F2 := fun a b => (eqV a b).map fun q => .bl (!q)
theorem so_eqG {g : Bool → Bool} {fo : F2} (hf : ∀ a b, fo a b = (eqV a b).map fun q => .bl (g q)) : SO2 (rd2 (fEq g)) fo := fun S x y d e L L' P r hx hy h p => by
  rw [hf] at h
  cases q : eqV d e with
  | none => rw [q] at h; cases h
  | some t =>
    rw [q] at h
    cases h
    obtain ⟨a1, a2, a3, a4⟩ := eqV_ok q
    obtain ⟨b1, b2⟩ := eqV_nd q
    unfold rd2
    rw [hx.rd a1 a2 b1, hy.rd a3 a4 b2]
    exact fEq_of q p
theorem so_eq : SO2 oEq foEq := so_eqG fun a b => rfl
theorem so_ne : SO2 oNe foNe := so_eqG fun a b => rfl
def isNon : D → Bool
  | .non => true
  | _ => false
def foIsN : F2
  | a, .non => some (.bl (isNon a))
  | _, _ => none
def foNotN : F2
  | a, .non => some (.bl (!isNon a))
  | _, _ => none
theorem Ow.isN {S : Store} {w : W} {d : D} {L : List Addr} (h : Ow S w d L) : w.isN = isNon d := by
  cases h with
  | d => cases d <;> rfl
  | _ => rfl
theorem so_isN : SO2 oIsN foIsN := fun S x y d e L L' P r hx hy h p => by
  unfold foIsN at h
  split at h
  · cases h; rw [hy.non]; unfold oIsN; dsimp only; rw [hx.isN]; exact p
  · cases h
def inD : D → D → Option Bool
  | .str s, .str t => match oneSign s with
    | some c => some (decide (c ∈ t.cps.toList))
    | none => none
  | a, .lst ds => match a.sc, mapSc ds with
    | some u, some us => some (inV u us)
    | _, _ => ite_ (okD a = true ∧ okD (.lst ds) = true) (some (ds.any fun z => eqD z a))
  | a, .tup ds => match a.sc, mapSc ds with
    | some u, some us => some (inV u us)
    | _, _ => none
  | _, _ => none
theorem fIn_of {g : Bool → Bool} {a b : D} {q : Bool} {p : D → Prop} (h : inD a b = some q) (hp : p (.bl (g q))) : fIn g a b p := by
  unfold inD at h
  split at h
  · rename_i s t
    unfold fIn
    dsimp only
    split at h
    · first | (cases h; exact hp; done) | (rename_i e; rw [e]; cases h; exact hp)
    · cases h
  · unfold fIn
    dsimp only
    split at h
    · first | (cases h; exact hp; done) | (rename_i e1 e2; rw [e1, e2]; cases h; exact hp)
    · rename_i n
      obtain ⟨h1, h⟩ := ite_some h
      cases h
      first
        | exact ⟨h1, hp⟩
        | (split
           · rename_i u us e1 e2; exact absurd e2 (n _ _ e1)
           · exact ⟨h1, hp⟩)
  · unfold fIn
    dsimp only
    split at h
    · first | (cases h; exact hp; done) | (rename_i e1 e2; rw [e1, e2]; cases h; exact hp)
    · cases h
  · cases h
theorem inD_nd {a b : D} {q : Bool} (h : inD a b = some q) : (∀ l, a ≠ .dct l) ∧ ∀ l, b ≠ .dct l := by
  refine ⟨fun l e => ?_, fun l e => ?_⟩
  · subst e
    unfold inD at h
    split at h
    · rename_i z; cases z
    · rename_i ds _
      have e : (D.dct l).sc = none := rfl
      rw [e] at h
      obtain ⟨h1, h⟩ := ite_some h
      rw [okD, okN_dct] at h1
      exact absurd h1.1 (by decide)
    · have e : (D.dct l).sc = none := rfl
      rw [e] at h
      cases h
    · cases h
  · subst e
    unfold inD at h
    split at h <;> first | (rename_i z; cases z) | (cases h)
theorem inD_ok {a b : D} {q : Bool} (h : inD a b = some q) : (∀ C l, a ≠ .ins C l) ∧ (∀ l, a ≠ .ty l) ∧ (∀ C l, b ≠ .ins C l) ∧ ∀ l, b ≠ .ty l := by
  refine ⟨fun C l e => ?_, fun l e => ?_, fun C l e => ?_, fun l e => ?_⟩
  · subst e
    unfold inD at h
    split at h
    · rename_i z; cases z
    · rename_i ds _
      have e : (D.ins C l).sc = none := rfl
      rw [e] at h
      obtain ⟨h1, h⟩ := ite_some h
      rw [okD, okN_ins] at h1
      exact absurd h1.1 (by decide)
    · have e : (D.ins C l).sc = none := rfl
      rw [e] at h
      cases h
    · cases h
  · subst e
    unfold inD at h
    split at h
    · rename_i z; cases z
    · rename_i ds _
      have e : (D.ty l).sc = none := rfl
      rw [e] at h
      obtain ⟨h1, h⟩ := ite_some h
      rw [okD, okN_ty] at h1
      exact absurd h1.1 (by decide)
    · have e : (D.ty l).sc = none := rfl
      rw [e] at h
      cases h
    · cases h
  · subst e
    unfold inD at h
    split at h <;> first | (rename_i z; cases z) | (cases h)
  · subst e
    unfold inD at h
    split at h <;> first | (rename_i z; cases z) | (cases h)
def foIn : F2 := fun a b => (inD a b).map .bl
def foNin : F2 := fun a b => (inD a b).map fun q => .bl (!q)
theorem so_inG0 {g : Bool → Bool} {fo : F2} (hf : ∀ a b, fo a b = (inD a b).map fun q => .bl (g q)) : SO2 (rd2 (fIn g)) fo := fun S x y d e L L' P r hx hy h p => by
  rw [hf] at h
  cases q : inD d e with
  | none => rw [q] at h; cases h
  | some t =>
    rw [q] at h
    cases h
    obtain ⟨a1, a2, a3, a4⟩ := inD_ok q
    obtain ⟨b1, b2⟩ := inD_nd q
    unfold rd2
    rw [hx.rd a1 a2 b1, hy.rd a3 a4 b2]
    exact fIn_of q p
theorem so_in : SO2 oIn foIn := so_inG0 fun a b => rfl
def foIx : F2
  | .lst l, .int i => L2.atI l i
  | .tup l, .int i => L2.atI l i
  | .str z, .int i => ite_ (z.length ≤ 100000) ((L2.atI z.cps.toList i).map fun c => .str ⟨#[c]⟩)
  | _, _ => none
theorem atI_map {α β : Type} (f : α → β) (l : List α) (i : Int) : L2.atI (l.map f) i = (L2.atI l i).map f := by
  unfold L2.atI
  rw [List.length_map]
  cases ixN l.length i with
  | none => rfl
  | some j => exact List.getElem?_map ..
theorem so_ix : SO2 oIx foIx := fun S x y d e L L' P r hx hy h p => by
  unfold foIx at h
  split at h
  · rw [hy.int]
    unfold oIx
    dsimp only
    rw [hx.lseq]
    dsimp only
    rw [atI_map, h]
    exact p
  · rw [hy.int, hx.tup]
    unfold oIx
    have e1 : ∀ l : List D, lseq S (.d (.tup l)) = none := fun _ => rfl
    have e2 : ∀ l : List D, tseq (.d (.tup l)) = some (l.map .d) := fun _ => rfl
    dsimp only
    rw [e1, e2]
    dsimp only
    rw [atI_map, h]
    exact p
  · rename_i z i
    obtain ⟨h1, h⟩ := ite_some h
    rw [hy.int, hx.str]
    unfold oIx
    have e1 : ∀ l : Str, lseq S (.d (.str l)) = none := fun _ => rfl
    have e2 : ∀ l : Str, tseq (.d (.str l)) = none := fun _ => rfl
    dsimp only
    rw [e1, e2]
    dsimp only
    cases q : L2.atI z.cps.toList i with
    | none => rw [q] at h; cases h
    | some t =>
      rw [q] at h
      cases h
      exact ⟨h1, p⟩
  · cases h
theorem cutW_map {α β : Type} (f : α → β) (l : List α) (lo hi : Option Int) : cutW (l.map f) lo hi = (cutW l lo hi).map f := by
  unfold cutW
  rw [List.length_map, List.map_take, List.map_drop]
def foSl (d : D) (lo hi : Option Int) : Option D := match d with
  | .lst l => some (.lst (cutW l lo hi))
  | .tup l => some (.tup (cutW l lo hi))
  | .str z => ite_ (z.length ≤ 100000) (some (.str (L2.cutS z lo hi)))
  | _ => none
theorem so_sl {S : Store} {x : W} {d : D} {L : List Addr} {P : W → Store → Prop} {r : D} {lo hi : Option Int} (hx : Ow S x d L) (h : foSl d lo hi = some r) (p : P (.d r) S) : oSl false x lo hi S P := by
  unfold foSl at h
  split at h
  · cases h
    unfold oSl
    rw [hx.lseq]
    dsimp only
    rw [cutW_map]
    exact newLC_f p
  · cases h
    rw [hx.tup]
    show P (mkT (cutW (List.map _ _) lo hi)) S
    rw [cutW_map, mkT_map]
    exact p
  · obtain ⟨h1, h⟩ := ite_some h
    cases h
    rw [hx.str]
    exact ⟨h1, p⟩
  · cases h
inductive Ows (S : Store) : List W → List D → Prop
  | nil : Ows S [] []
  | cons {w : W} {d : D} {L : List Addr} {ws : List W} {ds : List D} : Ow S w d L → Ows S ws ds → Ows S (w :: ws) (d :: ds)
abbrev FN := List D → Option D
def SON (o : ON) (fo : FN) : Prop := ∀ S ws ds P r, Ows S ws ds → fo ds = some r → P (.d r) S → o ws S P
section
variable {S : Store} {w : W} {ws : List W} {d : D} {ds : List D}
theorem Ows.one (h : Ows S ws [d]) : ∃ w L, ws = [w] ∧ Ow S w d L := by
  cases h with
  | cons h r => cases r; exact ⟨_, _, rfl, h⟩
theorem Ows.two {e : D} (h : Ows S ws [d, e]) : ∃ w u L L', ws = [w, u] ∧ Ow S w d L ∧ Ow S u e L' := by
  cases h with
  | cons h r => obtain ⟨u, L', rfl, h2⟩ := r.one; exact ⟨_, _, _, _, rfl, h, h2⟩
end
def fbLen : FN
  | [.lst l] => some (.int l.length)
  | [.tup l] => some (.int l.length)
  | [.str z] => ite_ (z.length ≤ 100000) (some (.int z.length))
  | _ => none
theorem sn_len : SON bLen fbLen := fun S ws ds P r hw h p => by
  unfold fbLen at h
  split at h
  · cases h
    obtain ⟨w, L, rfl, hv⟩ := hw.one
    unfold bLen
    dsimp only
    rw [hv.seq rfl]
    dsimp only
    rw [List.length_map]
    exact p
  · cases h
    obtain ⟨w, L, rfl, hv⟩ := hw.one
    unfold bLen
    dsimp only
    rw [hv.seq rfl]
    dsimp only
    rw [List.length_map]
    exact p
  · obtain ⟨h1, h⟩ := ite_some h
    cases h
    obtain ⟨w, L, rfl, hv⟩ := hw.one
    rw [hv.str]
    exact ⟨h1, p⟩
  · cases h
def fbInt : FN
  | [.int i] => some (.int i)
  | [.bl b] => some (.int (if b then 1 else 0))
  | _ => none
def allBD : List D → Option (List Bool)
  | [] => some []
  | .bl b :: l => (allBD l).map (b :: ·)
  | _ => none
def allID : List D → Option (List Int)
  | [] => some []
  | .int b :: l => (allID l).map (b :: ·)
  | _ => none
theorem allB_of : ∀ {l : List D} {bs : List Bool}, allBD l = some bs → allB (l.map .d) = some bs
  | [], bs, h => h
  | .bl b :: l, bs, h => by
    unfold allBD at h
    cases q : allBD l with
    | none => rw [q] at h; cases h
    | some cs =>
      rw [q] at h
      rw [List.map_cons]
      unfold allB
      rw [allB_of q]
      exact h
def fbAll : FN
  | [.lst l] => (allBD l).map fun bs => .bl (bs.all id)
  | _ => none
def fbAny : FN
  | [.lst l] => (allBD l).map fun bs => .bl (bs.any id)
  | _ => none
def fbSum : FN
  | [.lst l] => (allID l).map fun bs => .int bs.sum
  | _ => none
def fbMax : FN
  | [.int a, .int b] => some (.int (max a b))
  | [.lst l] => match allID l with
    | some ns => ite_ (ns ≠ []) (some (.int (mx ns)))
    | none => none
  | _ => none
def fbMin : FN
  | [.int a, .int b] => some (.int (min a b))
  | [.lst l] => match allID l with
    | some ns => ite_ (ns ≠ []) (some (.int (mn ns)))
    | none => none
  | _ => none
theorem sn_all : SON bAll fbAll := fun S ws ds P r hw h p => by
  unfold fbAll at h
  split at h
  · rename_i l
    cases q : allBD l with
    | none => rw [q] at h; cases h
    | some bs =>
      rw [q] at h
      cases h
      obtain ⟨w, L, rfl, hv⟩ := hw.one
      unfold bAll
      dsimp only
      rw [hv.lseq]
      dsimp only
      rw [allB_of q]
      exact p
  · cases h
def fbList : FN
  | [.lst l] => some (.lst l)
  | [.tup l] => some (.lst l)
  | _ => none
def fbTup : FN
  | [.lst l] => some (.tup l)
  | [.tup l] => some (.tup l)
  | _ => none
theorem sn_list : SON (bList false) fbList := fun S ws ds P r hw h p => by
  unfold fbList at h
  split at h
  all_goals first
    | (cases h
       obtain ⟨w, L, rfl, hv⟩ := hw.one
       unfold bList
       dsimp only
       rw [hv.seq rfl]
       exact newLC_f p)
    | cases h
theorem sn_tup : SON bTup fbTup := fun S ws ds P r hw h p => by
  unfold fbTup at h
  split at h
  all_goals first
    | (cases h
       obtain ⟨w, L, rfl, hv⟩ := hw.one
       unfold bTup
       dsimp only
       rw [hv.seq rfl]
       dsimp only
       rw [mkT_map]
       exact p)
    | cases h
def fbStr : FN
  | [.int i] => ite_ (i.natAbs < 2 ^ 60) (some (.str (toString i)))
  | [.str s] => some (.str s)
  | _ => none
theorem Ow.tg {S : Store} {w : W} {d : D} {L : List Addr} {t : Tg} (h : Ow S w d L) (e : d.tg = some t) : w.tg S = some t := by
  cases h with
  | d => exact e
  | lst h => unfold W.tg; dsimp only; rw [h]; exact e
  | dct h => unfold W.tg; dsimp only; rw [h]; exact e
  | obj h r n => unfold W.tg; dsimp only; rw [h]; exact e
  | bag h => cases e
def fbIsi (cs : List String) (sub : String → String → Bool) : FN
  | [x, y] => match x.tg, y.ctg with
    | some t, some u => (isI cs sub t u).map .bl
    | _, _ => none
  | _ => none
theorem sn_isi {cs : List String} {sub : String → String → Bool} : SON (bIsi cs sub) (fbIsi cs sub) := fun S ws ds P r hw h p => by
  unfold fbIsi at h
  split at h
  · rename_i x y
    split at h
    · rename_i t u e1 e2
      obtain ⟨w, v, L, L', rfl, h1, h2⟩ := hw.two
      have hv : v = .d y := by
        cases h2 with
        | d => rfl
        | lst _ => cases e2
        | dct _ => cases e2
        | obj _ _ _ => cases e2
        | bag _ => cases e2
      rw [hv]
      unfold bIsi
      dsimp only
      rw [h1.tg e1, e2]
      dsimp only
      cases q : isI cs sub t u with
      | none => rw [q] at h; cases h
      | some b => rw [q] at h; cases h; exact p
    · cases h
  · cases h
end
end DX

set_option Elab.async false
set_option linter.all false
set_option maxRecDepth 100000
namespace DX
open PySem L2
noncomputable section
section
variable {c : Cf} {B : Bs} {ρ : Rho} {δ : Slots} {S S' : Store} {os : List (Option Nat)} {ws : List W} {ds : List D} {m ma mb mo : EM} {f fa fb fo' : FE} {mr : AM} {fr : FAs}
theorem AR.ows (k : Em c B ρ δ S) (h : AR c ρ δ os ws ds) : Ows S ws ds := by
  induction h with
  | nil => exact .nil
  | tr d h ih => exact .cons (.d d) ih
  | ow h1 h2 h3 h4 ih =>
    obtain ⟨A, k⟩ := k
    obtain ⟨w, e, hw⟩ := k.ow _ _ h3 h1
    rw [h2] at e
    cases e
    exact .cons hw ih
def fCB (fo : FN) (fr : FAs) : FE := fun ρ => (fr ρ).bind fun ds => opt (fo ds) .ok
theorem qe_cb {o : ON} {fo : FN} (ho : SON o fo) (hr : QA c os mr fr) : QE c (mCB o mr) (fCB fo fr) := fun B ρ δ S P X k q => by
  unfold fCB at q
  rw [Dr.wp_bind] at q
  refine hr B ρ δ S _ X k (q.imp (fun ds q S1 ws k1 h => ?_) fun e z => z)
  obtain ⟨r, e, q⟩ := opt_wp q
  exact ho S1 ws ds _ r (h.ows k1) e (q S1 k1)
def fIsT (cs : List String) (sub : String → String → Bool) (fa : FE) (fr : FAs) : FE := fun ρ => (fa ρ).bind fun a => (fr ρ).bind fun ds => must (ds.length ≤ 1000) (opt a.tg fun t => opt (isAny cs sub t ds) fun b => must (ds.all (fun d => d.ctg.isSome) = true) (match t with
  | .own C => must (C ∈ cs) (.ok (.bl b))
  | _ => .ok (.bl b)))
theorem qe_isiT {cs : List String} {sub : String → String → Bool} (ha : QE c ma fa) (hr : QA c os mr fr) (n : os.all (·.isNone) = true := by rfl) : QE c (mIsiT cs sub ma mr) (fIsT cs sub fa fr) := fun B ρ δ S P X k q => by
  unfold fIsT at q
  rw [Dr.wp_bind] at q
  refine ha B ρ δ S _ X k (q.imp (fun a q S1 k1 => ?_) fun e z => z)
  rw [Dr.wp_bind] at q
  refine hr B ρ δ S1 _ X k1 (q.imp (fun ds q S2 ws k2 h => ?_) fun e z => z)
  obtain ⟨h1, q⟩ := must_wp q
  obtain ⟨t, h2, q⟩ := opt_wp q
  obtain ⟨b, h3, q⟩ := opt_wp q
  obtain ⟨h4, q⟩ := must_wp q
  rw [h.trees n]
  refine ⟨by simpa using h1, ?_⟩
  unfold fIsiT
  rw [allD_map]
  have e : (W.d a).tg S2 = some t := h2
  dsimp only
  rw [e]
  dsimp only
  rw [h3]
  cases t with
  | own C =>
    obtain ⟨h5, q⟩ := must_wp q
    exact ⟨h5, h4, q S2 k2⟩
  | _ => exact ⟨trivial, h4, q S2 k2⟩
abbrev FP := Rho → Dr (Option Int)
def fpNo : FP := fun _ => .ok none
def fpAt (fa : FE) : FP := fun ρ => (fa ρ).bind fun a => match a with
  | .int i => .ok (some i)
  | _ => .no
def QP (c : Cf) (m : PM) (f : FP) : Prop := ∀ B ρ δ S P X, Em c B ρ δ S → (f ρ).wp (fun d => ∀ S', Em c B ρ δ S' → P d S') (fun e => ∀ S', Em c B ρ δ S' → X e.w S') → m δ S P X
theorem qp_no : QP c pNo fpNo := fun B ρ δ S P X k q => q S k
theorem qp_at (ha : QE c ma fa) : QP c (pAt ma) (fpAt fa) := fun B ρ δ S P X k q => by
  unfold fpAt at q
  rw [Dr.wp_bind] at q
  refine ha B ρ δ S _ X k (q.imp (fun a q S1 k1 => ?_) fun e z => z)
  cases a with
  | int i => exact q S1 k1
  | _ => exact q.elim
def fSl (fa : FE) (lo hi : FP) : FE := fun ρ => (fa ρ).bind fun a => (lo ρ).bind fun l => (hi ρ).bind fun h => opt (foSl a l h) .ok
theorem qe_sl {ml mh : PM} {fl fh : FP} (ha : QE c ma fa) (hl : QP c ml fl) (hh : QP c mh fh) : QE c (mSl (oSl false) ma ml mh) (fSl fa fl fh) := fun B ρ δ S P X k q => by
  unfold fSl at q
  rw [Dr.wp_bind] at q
  refine ha B ρ δ S _ X k (q.imp (fun a q S1 k1 => ?_) fun e z => z)
  rw [Dr.wp_bind] at q
  refine hl B ρ δ S1 _ X k1 (q.imp (fun l q S2 k2 => ?_) fun e z => z)
  rw [Dr.wp_bind] at q
  refine hh B ρ δ S2 _ X k2 (q.imp (fun h q S3 k3 => ?_) fun e z => z)
  obtain ⟨r, e, q⟩ := opt_wp q
  exact so_sl (.d a) e (q S3 k3)
inductive OwA (S : Store) : List Bool → List W → List D → List (List Addr) → Prop
  | nil : OwA S [] [] [] []
  | tr {bs : List Bool} {ws : List W} {ds : List D} {Ls : List (List Addr)} (d : D) : OwA S bs ws ds Ls → OwA S (false :: bs) (.d d :: ws) (d :: ds) ([] :: Ls)
  | ow {bs : List Bool} {ws : List W} {ds : List D} {Ls : List (List Addr)} {w : W} {d : D} {L : List Addr} : Ow S w d L → OwA S bs ws ds Ls → (∀ b ∈ L, ∀ L' ∈ Ls, b ∉ L') → cel w d → OwA S (true :: bs) (w :: ws) (d :: ds) (L :: Ls)
def FrL (Ls : List (List Addr)) (S S' : Store) : Prop := ∀ b x, (∀ L ∈ Ls, b ∉ L) → S b = some x → S' b = some x
abbrev DF := List D → Dr D
def QF (bs : List Bool) (sp : DSp) (F : DF) : Prop := ∀ ws ds S Ls P X, OwA S bs ws ds Ls → (F ds).wp (fun d => ∀ S', FrL Ls S S' → OwA S' bs ws ds Ls → P (.d d) S') (fun e => ∀ S', FrL Ls S S' → OwA S' bs ws ds Ls → X e.w S') → sp ws S P X
def QFO (bs : List Bool) (sp : DSp) (F : DF) : Prop := ∀ ws ds S Ls P X, OwA S bs ws ds Ls → (F ds).wp (fun d => ∀ S' w Lr, FrL Ls S S' → OwA S' bs ws ds Ls → Ow S' w d Lr → (∀ b ∈ Lr, S b = none) → cel w d → P w S') (fun e => ∀ S', FrL Ls S S' → OwA S' bs ws ds Ls → X e.w S') → sp ws S P X
theorem OwA.al {bs : List Bool} {Ls : List (List Addr)} (h : OwA S bs ws ds Ls) : ∀ L ∈ Ls, ∀ b ∈ L, S b ≠ none := by
  induction h with
  | nil => intro L hL; cases hL
  | tr d h ih =>
    intro L hL b hb
    rcases List.mem_cons.mp hL with rfl | hL
    · cases hb
    · exact ih L hL b hb
  | ow h1 h2 h3 _ ih =>
    intro L hL b hb
    rcases List.mem_cons.mp hL with rfl | hL
    · exact h1.al b hb
    · exact ih L hL b hb
def cellsAt (L : Nat → List Addr) : Option Nat → List Addr
  | none => []
  | some i => L i
theorem AR.mem {ρ : Rho} {δ : Slots} {i : Nat} (h : AR c ρ δ os ws ds) (hi : some i ∈ os) : i ∈ c.own ∧ ∃ w d, δ[i]? = some (some w) ∧ ρ[i]? = some (some d) := by
  induction h with
  | nil => cases hi
  | tr d h ih =>
    rcases List.mem_cons.mp hi with e | hi
    · cases e
    · exact ih hi
  | ow h1 h2 h3 h4 ih =>
    rcases List.mem_cons.mp hi with e | hi
    · cases e; exact ⟨h1, _, _, h2, h3⟩
    · exact ih hi
theorem AR.owa {A : Addr → Prop} {L : Nat → List Addr} (k : EmC c B ρ δ S A L) (h : AR c ρ δ os ws ds) (n : (os.filterMap id).Nodup) : OwA S (os.map (·.isSome)) ws ds (os.map (cellsAt L)) := by
  induction h with
  | nil => exact .nil
  | tr d h ih => exact .tr d (ih n)
  | ow h1 h2 h3 h4 ih =>
    rename_i os ws ds i w d
    have n : (i :: os.filterMap id).Nodup := n
    obtain ⟨w', e, hw⟩ := k.ow _ _ h3 h1
    rw [h2] at e
    cases e
    refine .ow hw (ih (List.nodup_cons.mp n).2) (fun b hb L' hL' hb' => ?_) (k.ce _ _ _ h3 h1 h2)
    obtain ⟨o, ho, rfl⟩ := List.mem_map.mp hL'
    cases o with
    | none => cases hb'
    | some j =>
      have ne : i ≠ j := fun z => (List.nodup_cons.mp n).1 (List.mem_filterMap.mpr ⟨some j, ho, by rw [z]; rfl⟩)
      exact k.dis i j b ne hb hb'
theorem AR.back {L : Nat → List Addr} (h : AR c ρ δ os ws ds) : OwA S' (os.map (·.isSome)) ws ds (os.map (cellsAt L)) → ∀ i d w, some i ∈ os → ρ[i]? = some (some d) → δ[i]? = some (some w) → Ow S' w d (L i) := by
  induction h with
  | nil => intro _ i d w hi; cases hi
  | tr d h ih =>
    intro q i e w hi h1 h2
    rcases List.mem_cons.mp hi with z | hi
    · cases z
    · generalize hL : List.map (cellsAt L) _ = Ls at q
      cases q with
      | tr _ q =>
        rw [List.map_cons] at hL
        injection hL with _ hL
        rw [← hL] at q
        exact ih q i e w hi h1 h2
  | ow h1 h2 h3 h4 ih =>
    intro q i e w hi g1 g2
    generalize hL : List.map (cellsAt L) _ = Ls at q
    cases q with
    | ow q1 q2 q3 _ =>
      rw [List.map_cons] at hL
      injection hL with hL0 hL
      rw [← hL] at q2
      rcases List.mem_cons.mp hi with z | hi
      · cases z
        rw [h2] at g2
        cases g2
        rw [h3] at g1
        cases g1
        rw [← hL0] at q1
        exact q1
      · exact ih q2 i e w hi g1 g2
theorem EmC.call {A : Addr → Prop} {L : Nat → List Addr} (k : EmC c B ρ δ S A L) (h : AR c ρ δ os ws ds) (f : FrL (os.map (cellsAt L)) S S') (q : OwA S' (os.map (·.isSome)) ws ds (os.map (cellsAt L))) : EmC c B ρ δ S' A L := by
  refine k.onto (fun b x h1 h2 => f b x (fun L' hL' hb => ?_) h2) (fun b hb => ?_) (fun i d w h1 h2 h3 h4 => ?_)
  · obtain ⟨o, ho, rfl⟩ := List.mem_map.mp hL'
    cases o with
    | none => cases hb
    | some j => exact h1 (k.inA j b hb)
  · by_cases z : ∃ L' ∈ os.map (cellsAt L), b ∈ L'
    · obtain ⟨L', h1, h2⟩ := z
      exact q.al L' h1 b h2
    · cases e : S b with
      | none => exact absurd e (k.al b hb)
      | some x =>
        rw [f b x (fun L' h1 h2 => z ⟨L', h1, h2⟩) e]
        simp
  · by_cases z : some i ∈ os
    · exact h.back q i d w z h1 h3
    · refine h4.frS fun b x hb e => f b x (fun L' hL' hb' => ?_) e
      obtain ⟨o, ho, rfl⟩ := List.mem_map.mp hL'
      cases o with
      | none => cases hb'
      | some j => exact k.dis i j b (fun y => z (y ▸ ho)) hb hb'
theorem EmC.none_ {A : Addr → Prop} {L : Nat → List Addr} (k : EmC c B ρ δ S A L) {b : Addr} (h : S b = none) : ¬ A b ∧ B.S0 b = none := by
  refine ⟨fun q => k.al b q h, ?_⟩
  cases q : B.S0 b with
  | none => rfl
  | some y =>
    by_cases z : B.A0 b
    · exact absurd h (k.al b (k.a0 b z))
    · rw [k.fr b y z q] at h; cases h
def fCall (F : DF) (fr : FAs) : FE := fun ρ => (fr ρ).bind F
theorem qe_call {bs : List Bool} {sp : DSp} {F : DF} (hF : QF bs sp F) (hr : QA c os mr fr) (hb : os.map (·.isSome) = bs := by rfl) (n : (os.filterMap id).Nodup := by decide) : QE c (mCall sp mr) (fCall F fr) := fun B ρ δ S P X k q => by
  subst hb
  unfold fCall at q
  rw [Dr.wp_bind] at q
  refine hr B ρ δ S _ X k (q.imp (fun ds q S1 ws k1 h => ?_) fun e z => z)
  obtain ⟨A, k1⟩ := k1
  exact hF ws ds S1 _ P X (h.owa k1 n) (q.imp (fun d q S' f o => q S' ⟨A, k1.call h f o⟩) fun e q S' f o => q S' ⟨A, k1.call h f o⟩)
theorem OwA.app {bs : List Bool} {Ls : List (List Addr)} (h : OwA S bs ws ds Ls) (es : List D) : OwA S (bs ++ es.map fun _ => false) (ws ++ es.map .d) (ds ++ es) (Ls ++ es.map fun _ => []) := by
  induction h with
  | nil =>
    induction es with
    | nil => exact .nil
    | cons e es ih => exact .tr e ih
  | tr d h ih => exact .tr d ih
  | ow h1 h2 h3 h4 ih =>
    refine .ow h1 ih (fun b hb L' hL' => ?_) h4
    rcases List.mem_append.mp hL' with hL' | hL'
    · exact h3 b hb L' hL'
    · obtain ⟨_, _, rfl⟩ := List.mem_map.mp hL'
      simp
theorem OwA.lens {bs : List Bool} {Ls : List (List Addr)} (h : OwA S bs ws ds Ls) : bs.length = ws.length ∧ ws.length = ds.length ∧ ws.length = Ls.length := by
  induction h with
  | nil => exact ⟨rfl, rfl, rfl⟩
  | tr d h ih => exact ⟨congrArg (· + 1) ih.1, congrArg (· + 1) ih.2.1, congrArg (· + 1) ih.2.2⟩
  | ow h1 h2 h3 _ ih => exact ⟨congrArg (· + 1) ih.1, congrArg (· + 1) ih.2.1, congrArg (· + 1) ih.2.2⟩
theorem FrL.app {Ls : List (List Addr)} {es : List D} (h : FrL (Ls ++ es.map fun _ => []) S S') : FrL Ls S S' := fun b x h1 h2 => h b x (fun L hL hb => by
  rcases List.mem_append.mp hL with hL | hL
  · exact h1 L hL hb
  · obtain ⟨_, _, rfl⟩ := List.mem_map.mp hL
    cases hb) h2
theorem OwA.trees {ds : List D} : ∀ {n : Nat}, ds.length = n → OwA S (List.replicate n false) (ds.map .d) ds (List.replicate n []) := by
  induction ds with
  | nil => intro n h; cases h; exact .nil
  | cons d ds ih => intro n h; cases h; exact .tr d (ih rfl)
theorem OwA.allT {n : Nat} {Ls : List (List Addr)} (h : OwA S (List.replicate n false) ws ds Ls) : ws = ds.map .d := by
  generalize hb : List.replicate n false = bs at h
  induction h generalizing n with
  | nil => rfl
  | tr d h ih =>
    cases n with
    | zero => cases hb
    | succ n =>
      rw [List.replicate_succ] at hb
      injection hb with _ hb
      rw [ih hb]
      rfl
  | ow h1 h2 h3 _ ih =>
    cases n with
    | zero => cases hb
    | succ n => rw [List.replicate_succ] at hb; injection hb with hb; cases hb
theorem FrL.trees {n : Nat} (h : FrL (List.replicate n []) S S') : ∀ b x, S b = some x → S' b = some x := fun b x e => h b x (fun L hL hb => by
  rw [(List.mem_replicate.mp hL).2] at hb
  cases hb) e
theorem qf_re {n j : Nat} {sp : DSp} {F : DF} {g : List W → List W} {gd : List D → List D} (hF : QF (List.replicate n false) sp F) (hg : ∀ ds, ds.length = j → g (ds.map .d) = (gd ds).map .d ∧ (gd ds).length = n) : QF (List.replicate j false) (fun ws => sp (g ws)) (fun ds => F (gd ds)) := fun ws ds S Ls P X h q => by
  have e := h.allT
  have l := h.lens
  subst e
  have hl : ds.length = j := by rw [← l.2.1, ← l.1]; simp
  obtain ⟨g1, g2⟩ := hg ds hl
  show sp (g (ds.map .d)) S P X
  rw [g1]
  refine hF _ _ S _ P X (.trees g2) (q.imp (fun d q S' f o => q S' (fun b x h1 h2 => f.trees b x h2) ?_) fun e q S' f o => q S' (fun b x h1 h2 => f.trees b x h2) ?_)
  all_goals
    have hk : ∀ {bs : List Bool} {ws : List W} {ds : List D} {Ls : List (List Addr)}, OwA S bs ws ds Ls → (∀ b x, S b = some x → S' b = some x) → OwA S' bs ws ds Ls := fun {bs ws ds Ls} h e => by
      induction h with
      | nil => exact .nil
      | tr d h ih => exact .tr d ih
      | ow h1 h2 h3 h4 ih => exact .ow (h1.frS fun b x _ h => e b x h) ih h3 h4
    exact hk h f.trees
def fCallK (F : DF) (fr fk : FAs) : FE := fun ρ => (fr ρ).bind fun ds => (fk ρ).bind fun es => F (ds ++ es)
theorem AR.app {os' : List (Option Nat)} {us : List W} {es : List D} (h : AR c ρ δ os ws ds) (g : AR c ρ δ os' us es) : AR c ρ δ (os ++ os') (ws ++ us) (ds ++ es) := by
  induction h with
  | nil => exact g
  | tr d h ih => exact .tr d ih
  | ow h1 h2 h3 h4 ih => exact .ow h1 h2 h3 ih
theorem AR.len (h : AR c ρ δ os ws ds) : ws.length = os.length := by
  induction h with
  | nil => rfl
  | tr d h ih => exact congrArg (· + 1) ih
  | ow h1 h2 h3 h4 ih => exact congrArg (· + 1) ih
theorem qo_callK {bs : List Bool} {sp : DSp} {F : DF} {os' : List (Option Nat)} {mk : AM} {fk : FAs} {n j : Nat} (hF : QFO bs sp F) (hr : QA c os mr fr) (hk : QA c os' mk fk) (hn : os.length = n := by rfl) (hj : os'.length = j := by rfl) (hb : (os ++ os').map (·.isSome) = bs := by rfl) (nd : ((os ++ os').filterMap id).Nodup := by decide) : QO c (mCallK n j sp mr mk) (fCallK F fr fk) := fun B ρ δ S P X k q => by
  subst hb
  unfold fCallK at q
  rw [Dr.wp_bind] at q
  refine hr B ρ δ S _ X k (q.imp (fun ds q S1 ws k1 h => ?_) fun e z => z)
  rw [Dr.wp_bind] at q
  refine hk B ρ δ S1 _ X k1 (q.imp (fun es q S2 us k2 h' => ?_) fun e z => z)
  obtain ⟨A, k2⟩ := k2
  refine ⟨h.len.trans hn, h'.len.trans hj, ?_⟩
  exact hF _ _ S2 _ P X ((h.app h').owa k2 nd) (q.imp (fun d q S' w Lr f o hw hr hc => q S' w ⟨A, Lr, k2.call (h.app h') f o, hw, fun b hb => k2.none_ (hr b hb), hc⟩) fun e q S' f o => q S' ⟨A, k2.call (h.app h') f o⟩)
end
end
end DX

set_option Elab.async false
set_option linter.all false
set_option maxRecDepth 100000
namespace DX
open PySem L2
noncomputable section
section
variable {c : Cf} {B : Bs} {ρ : Rho} {δ : Slots} {S S' : Store} {os : List (Option Nat)} {ws : List W} {ds : List D} {m ma mb mo : EM} {f fa fb fo : FE} {mr mk : AM} {fr fk : FAs} {name : String}
theorem lookup_d {f : String} : ∀ fs : List (String × D), (fs.map fun p => (p.1, W.d p.2)).lookup f = (fs.lookup f).map .d
  | [] => rfl
  | (g, d) :: fs => by
    rw [List.map_cons, List.lookup_cons, List.lookup_cons]
    cases f == g with
    | true => rfl
    | false => exact lookup_d fs
inductive FAt where
  | fld | con (d : D) | prp (F : DF)
inductive AtR : AtK → FAt → Prop
  | fld : AtR .fld .fld
  | con (d : D) : AtR (.con d) (.con d)
  | prp {sp : DSp} {F : DF} : QF [false] sp F → AtR (.prp sp) (.prp F)
inductive TbR {α β : Type} (R : α → β → Prop) : List (String × α) → List (String × β) → Prop
  | nil : TbR R [] []
  | cons {n : String} {a : α} {b : β} {l : List (String × α)} {r : List (String × β)} : R a b → TbR R l r → TbR R ((n, a) :: l) ((n, b) :: r)
theorem TbR.at {α β : Type} {R : α → β → Prop} {l : List (String × α)} {r : List (String × β)} {n : String} {b : β} (h : TbR R l r) (e : r.lookup n = some b) : ∃ a, l.lookup n = some a ∧ R a b := by
  induction h with
  | nil => cases e
  | cons h t ih =>
    rename_i n0 a0 b0 l r
    rw [List.lookup_cons] at e ⊢
    cases q : n == n0 with
    | true => rw [q] at e; cases e; exact ⟨_, rfl, h⟩
    | false => rw [q] at e; exact ih e
def atF (name : String) (tb : List (String × FAt)) (o : D) : Dr D := match o with
  | .ins C fs => match tb.lookup C with
    | some .fld => opt (fs.lookup name) .ok
    | some (.con d) => must ((fs.lookup name).isNone = true) (.ok d)
    | some (.prp F) => (F [o]).calm
    | none => .no
  | _ => .no
def fAttr (name : String) (tb : List (String × FAt)) (fo : FE) : FE := fun ρ => (fo ρ).bind (atF name tb)
theorem qe_attr {tb : List (String × AtK)} {tf : List (String × FAt)} (ho : QE c mo fo) (ht : TbR AtR tb tf) : QE c (mAttr name tb mo) (fAttr name tf fo) := fun B ρ δ S P X k q => by
  unfold fAttr at q
  rw [Dr.wp_bind] at q
  refine ho B ρ δ S _ X k (q.imp (fun o q S1 k1 => ?_) fun e z => z)
  cases o with
  | ins C fs =>
    unfold atF at q
    dsimp only at q
    show (match tb.lookup C with | some .fld => _ | some (.con d) => _ | some (.prp sp) => _ | none => False)
    cases e : tf.lookup C with
    | none => rw [e] at q; exact q.elim
    | some t =>
      rw [e] at q
      obtain ⟨a, ea, r⟩ := ht.at e
      rw [ea]
      cases r with
      | fld =>
        obtain ⟨v, ev, q⟩ := opt_wp q
        dsimp only
        rw [lookup_d, ev]
        exact q S1 k1
      | con d =>
        obtain ⟨h, q⟩ := must_wp q
        dsimp only
        rw [lookup_d, Option.isNone_iff_eq_none.mp h]
        exact ⟨rfl, q S1 k1⟩
      | prp hF =>
        obtain ⟨A, k1⟩ := k1
        have h0 : OwA S1 [false] [.d (.ins C fs)] [.ins C fs] [[]] := .tr _ .nil
        have q : ((_ : Dr D).calm).wp _ _ := q
        exact hF _ _ S1 _ P (fun _ _ => False) h0 (Dr.wp_calm (q.imp (fun d q S' f o => q S' ⟨A, k1.call (os := [none]) (.tr (.ins C fs) .nil) f o⟩) fun e z => z))
  | _ => exact q.elim
def methF (name : String) (tb : List (String × DF)) (o : D) (k : DF → Dr D) : Dr D := match o with
  | .ins C fs => must ((fs.lookup name).isNone = true) (opt (tb.lookup C) k)
  | _ => .no
def fMeth (name : String) (tb : List (String × DF)) (fo : FE) (fr : FAs) : FE := fun ρ => (fo ρ).bind fun o => methF name tb o fun F => (fr ρ).bind fun ds => F (o :: ds)
def fMethK (name : String) (tb : List (String × DF)) (fo : FE) (fr fk : FAs) : FE := fun ρ => (fo ρ).bind fun o => methF name tb o fun F => (fr ρ).bind fun ds => (fk ρ).bind fun es => F (o :: (ds ++ es))
theorem methF_wp {name : String} {tb : List (String × DSp)} {tf : List (String × DF)} {o : D} {k : DF → Dr D} {P : D → Prop} {X : ExD → Prop} {R : DSp → DF → Prop} (ht : TbR R tb tf) (q : (methF name tf o k).wp P X) : ∃ C fs sp F, o = .ins C fs ∧ (fs.map fun p => (p.1, W.d p.2)).lookup name = none ∧ tb.lookup C = some sp ∧ R sp F ∧ (k F).wp P X := by
  cases o with
  | ins C fs =>
    obtain ⟨h, q⟩ := must_wp q
    obtain ⟨F, e, q⟩ := opt_wp q
    obtain ⟨sp, ea, r⟩ := ht.at e
    exact ⟨C, fs, sp, F, rfl, by rw [lookup_d, Option.isNone_iff_eq_none.mp h]; rfl, ea, r, q⟩
  | _ => exact q.elim
theorem qe_meth {bs : List Bool} {tb : List (String × DSp)} {tf : List (String × DF)} (ho : QE c mo fo) (ht : TbR (QF (false :: bs)) tb tf) (hr : QA c os mr fr) (hb : os.map (·.isSome) = bs := by rfl) (nd : (os.filterMap id).Nodup := by decide) : QE c (mMeth name tb mo mr) (fMeth name tf fo fr) := fun B ρ δ S P X k q => by
  subst hb
  unfold fMeth at q
  rw [Dr.wp_bind] at q
  refine ho B ρ δ S _ X k (q.imp (fun o q S1 k1 => ?_) fun e z => z)
  obtain ⟨C, fs, sp, F, rfl, h1, h2, hF, q⟩ := methF_wp ht q
  rw [Dr.wp_bind] at q
  refine ⟨h1, ?_⟩
  rw [h2]
  refine hr B ρ δ S1 _ X k1 (q.imp (fun ds q S2 ws k2 h => ?_) fun e z => z)
  obtain ⟨A, k2⟩ := k2
  have h' := AR.tr (.ins C fs) h
  exact hF _ _ S2 _ P X (h'.owa k2 nd) (q.imp (fun d q S' f o => q S' ⟨A, k2.call h' f o⟩) fun e q S' f o => q S' ⟨A, k2.call h' f o⟩)
theorem qe_methK {bs : List Bool} {tb : List (String × DSp)} {tf : List (String × DF)} {os' : List (Option Nat)} {n j : Nat} (ho : QE c mo fo) (ht : TbR (QF (false :: bs)) tb tf) (hr : QA c os mr fr) (hk : QA c os' mk fk) (hn : os.length + 1 = n := by rfl) (hj : os'.length = j := by rfl) (hb : (os ++ os').map (·.isSome) = bs := by rfl) (nd : ((os ++ os').filterMap id).Nodup := by decide) : QE c (mMethK name n j tb mo mr mk) (fMethK name tf fo fr fk) := fun B ρ δ S P X k q => by
  subst hb
  unfold fMethK at q
  rw [Dr.wp_bind] at q
  refine ho B ρ δ S _ X k (q.imp (fun o q S1 k1 => ?_) fun e z => z)
  obtain ⟨C, fs, sp, F, rfl, h1, h2, hF, q⟩ := methF_wp ht q
  rw [Dr.wp_bind] at q
  refine ⟨h1, ?_⟩
  rw [h2]
  refine hr B ρ δ S1 _ X k1 (q.imp (fun ds q S2 ws k2 h => ?_) fun e z => z)
  rw [Dr.wp_bind] at q
  refine hk B ρ δ S2 _ X k2 (q.imp (fun es q S3 us k3 g => ?_) fun e z => z)
  obtain ⟨A, k3⟩ := k3
  have h' := AR.tr (.ins C fs) (h.app g)
  exact ⟨by rw [h.len]; exact hn, g.len.trans hj, hF _ _ S3 _ P X (h'.owa k3 nd) (q.imp (fun d q S' f o => q S' ⟨A, k3.call h' f o⟩) fun e q S' f o => q S' ⟨A, k3.call h' f o⟩)⟩
def fStar (n : Nat) (F : DF) : DF := fun ds => must (n ≤ ds.length ∧ ds.length ≤ 1000000) (F (ds.take n ++ [.tup (ds.drop n)]))
theorem OwA.keep {bs : List Bool} {Ls : List (List Addr)} (h : OwA S bs ws ds Ls) (e : ∀ b x, S b = some x → S' b = some x) : OwA S' bs ws ds Ls := by
  induction h with
  | nil => exact .nil
  | tr d h ih => exact .tr d ih
  | ow h1 h2 h3 h4 ih => exact .ow (h1.frS fun b x _ h => e b x h) ih h3 h4
def fMethS (name : String) (tb : List (String × DF)) (fo fa : FE) : FE := fun ρ => (fo ρ).bind fun o => methF name tb o fun F => (fa ρ).bind fun d => opt (seqD d) fun ds => F (o :: ds)
abbrev MF := List D → Dr (D × D)
def QM (bs : List Bool) (sp : DSp) (F : MF) : Prop := ∀ w g L0 ws ds S Ls P X, Ow S w g L0 → cel w g → OwA S bs ws ds Ls → (∀ b ∈ L0, ∀ L' ∈ Ls, b ∉ L') → (F (g :: ds)).wp (fun r => ∀ S' L1, FrL (L0 :: Ls) S S' → Ow S' w r.2 L1 → (∀ b ∈ L1, b ∈ L0 ∨ S b = none) → OwA S' bs ws ds Ls → (∀ b ∈ L0, S' b ≠ none) → P (.d r.1) S')
  (fun e => ∀ S', FrL (L0 :: Ls) S S' → OwA S' bs ws ds Ls → (∀ b ∈ L0, S' b ≠ none) → X e.w S') → sp (w :: ws) S P X
def fMk (C : String) (F : MF) : DF := fun ds => (F (.ins C [] :: ds)).bind fun r => match r.1 with
  | .non => .ok r.2
  | _ => .no
theorem qf_mk {C : String} {bs : List Bool} {sp : DSp} {F : MF} (hF : QM bs sp F) : QFO bs (mkD C sp) (fMk C F) := fun ws ds S Ls P X h q => by
  unfold fMk at q
  rw [Dr.wp_bind] at q
  intro a ha
  have up : ∀ b x, S b = some x → upS S a (.obj C []) b = some x := fun b x e => by
    rw [upS_ne (fun z => by rw [z, ha] at e; cases e)]
    exact e
  have dn : ∀ b, upS S a (.obj C []) b = none → S b = none := fun b e => by
    cases q : S b with
    | none => rfl
    | some x => rw [up b x q] at e; cases e
  refine hF (.ref a) (.ins C []) [a] ws ds _ Ls _ X (.obj upS_same .nil (by simp)) (fun _ => ⟨a, rfl⟩) (h.keep up) (fun b hb L' hL' hb' => ?_) (q.imp (fun r q S' L1 f o n oa _ => ?_) fun e q S' f oa _ => q S' (fun b x h1 h2 => f b x (fun L hL hb => ?_) (up b x h2)) oa)
  · rw [List.mem_singleton.mp hb] at hb'
    exact h.al L' hL' a hb' ha
  · obtain ⟨r1, r2⟩ := r
    cases r1 with
    | non =>
      refine q S' _ L1 (fun b x h1 h2 => f b x (fun L hL hb => ?_) (up b x h2)) oa o (fun b hb => ?_) fun _ => ⟨a, rfl⟩
      · rcases List.mem_cons.mp hL with rfl | hL
        · rw [List.mem_singleton.mp hb, ha] at h2; cases h2
        · exact h1 L hL hb
      · rcases n b hb with z | z
        · rw [List.mem_singleton.mp z]; exact ha
        · exact dn b z
    | _ => exact q.elim
  · rcases List.mem_cons.mp hL with rfl | hL
    · rw [List.mem_singleton.mp hb, ha] at h2; cases h2
    · exact h1 L hL hb
def flatD : D → Bool
  | .ins _ gs => gs.all fun p => !cellF p.1
  | _ => false
def fFrz (f : FE) : FE := fun ρ => (f ρ).bind fun d => must (flatD d = true) (.ok d)
theorem Owf.flat {fs : List (String × W)} {gs : List (String × D)} {L : List Addr} (h : Owf S fs gs L) (n : (gs.all fun p => !cellF p.1) = true) : fs = gs.map (fun p => (p.1, W.d p.2)) ∧ L = [] := by
  match h with
  | .nil => exact ⟨rfl, rfl⟩
  | .cons h r _ z _ =>
    rw [List.all_cons, Bool.and_eq_true] at n
    obtain ⟨e1, e2⟩ := r.flat n.2
    have e := z (by simpa using n.1)
    subst e
    rw [e1, e2]
    refine ⟨rfl, ?_⟩
    cases h
    rfl
theorem frzf_d {n : Nat} : ∀ (gs : List (String × D)) (S : Store), frzW.frzf (frzW n) S (gs.map fun p => (p.1, W.d p.2)) = some (gs, S)
  | [], S => rfl
  | (g, d) :: gs, S => by
    have e : frzW n S (.d d) = some (d, S) := by cases n <;> rfl
    simp only [List.map_cons, frzW.frzf, e, frzf_d gs S, Option.map_some]
end
end
end DX

set_option Elab.async false
set_option linter.all false
set_option maxRecDepth 100000
namespace DX
open PySem L2
noncomputable section
section
variable {c : Cf} {B : Bs} {ρ ρ' : Rho} {δ δ' : Slots} {S S' : Store} {os : List (Option Nat)} {ws : List W} {ds : List D} {m ma mb mo : EM} {f fa fb fo : FE} {mr mk : AM} {fr fk : FAs} {t u : TM} {ft fu : FT}
abbrev FG := D → Rho → Dr Rho
def Only (vs : List Nat) (ρ ρ' : Rho) (δ δ' : Slots) : Prop := ∀ j, j ∉ vs → ρ'[j]? = ρ[j]? ∧ δ'[j]? = δ[j]?
def QG (c : Cf) (vs : List Nat) (g : GM) (fg : FG) : Prop := ∀ B ρ δ S d Ps X, Em c B ρ δ S → (fg d ρ).wp (fun ρ' => ∀ δ' S', Em c B ρ' δ' S' → Only vs ρ ρ' δ δ' → Ps δ' S') (fun e => ∀ S', Em c B ρ δ S' → X e.w S') → g (.d d) δ S Ps X
def QGs (c : Cf) (vs : List Nat) (g : GsM) (fg : List D → Rho → Dr Rho) : Prop := ∀ B ρ δ S ds Ps X, Em c B ρ δ S → (fg ds ρ).wp (fun ρ' => ∀ δ' S', Em c B ρ' δ' S' → Only vs ρ ρ' δ δ' → Ps δ' S') (fun e => ∀ S', Em c B ρ δ S' → X e.w S') → g (ds.map .d) δ S Ps X
def ftN (i : Nat) : FG := fun d ρ => .ok (ρ.set i (some d))
def ftNil : List D → Rho → Dr Rho := fun ds ρ => match ds with
  | [] => .ok ρ
  | _ => .no
def ftCons (i : Nat) (gs : List D → Rho → Dr Rho) : List D → Rho → Dr Rho := fun ds ρ => match ds with
  | d :: ds => gs ds (ρ.set i (some d))
  | [] => .no
def ftT (n : Nat) (gs : List D → Rho → Dr Rho) : FG := fun d ρ => match d with
  | .tup ds => must (ds.length = n) (gs ds ρ)
  | _ => .no
theorem qg_n {i : Nat} (h1 : i ∉ c.own := by decide) (h2 : i ∉ c.pr := by decide) (h3 : i ∉ c.mu := by decide) : QG c [i] (tgN i) (ftN i) := fun B ρ δ S d Ps X k q => q _ S (k.set h1 h2 h3) fun j hj => by
  have ne : i ≠ j := fun z => hj (by simp [z])
  rw [List.getElem?_set_ne ne, List.getElem?_set_ne ne]
  exact ⟨rfl, rfl⟩
theorem qgs_nil : QGs c [] tgsNil ftNil := fun B ρ δ S ds Ps X k q => by
  cases ds with
  | nil => exact q δ S k fun j _ => ⟨rfl, rfl⟩
  | cons d ds => exact q.elim
theorem qgs_cons {i : Nat} {vs : List Nat} {ms : GsM} {gs : List D → Rho → Dr Rho} (hr : QGs c vs ms gs) (h1 : i ∉ c.own := by decide) (h2 : i ∉ c.pr := by decide) (h3 : i ∉ c.mu := by decide) : QGs c (i :: vs) (tgsCons (tgN i) ms) (ftCons i gs) := fun B ρ δ S ds Ps X k q => by
  cases ds with
  | nil => exact q.elim
  | cons d ds =>
    have q : (gs ds (ρ.set i (some d))).wp _ _ := q
    refine hr B _ _ S ds Ps X (k.set h1 h2 h3) (q.imp (fun ρ' q δ' S' k' o => q δ' S' k' fun j hj => ?_) fun e q S' k' => q S' ?_)
    · have ne : i ≠ j := fun z => hj (by simp [z])
      obtain ⟨a, b⟩ := o j fun z => hj (List.mem_cons_of_mem _ z)
      rw [a, b, List.getElem?_set_ne ne, List.getElem?_set_ne ne]
      exact ⟨rfl, rfl⟩
    · exact k'.swap k fun j hj => by
        have ne : i ≠ j := fun z => hj.elim (fun q => h1 (z ▸ q)) fun q => q.elim (fun q => h2 (z ▸ q)) fun q => h3 (z ▸ q)
        rw [List.getElem?_set_ne ne, List.getElem?_set_ne ne]
        exact ⟨rfl, rfl⟩
theorem qg_t {n : Nat} {vs : List Nat} {ms : GsM} {gs : List D → Rho → Dr Rho} (hr : QGs c vs ms gs) : QG c vs (tgT n ms) (ftT n gs) := fun B ρ δ S d Ps X k q => by
  cases d with
  | tup ds =>
    obtain ⟨h, q⟩ := must_wp q
    exact ⟨by simpa using h, hr B ρ δ S ds Ps X k q⟩
  | _ => exact q.elim

abbrev FI := Rho → Dr (List D)
def QI (c : Cf) (im : IM) (it : FI) : Prop := ∀ B ρ δ S P X, Em c B ρ δ S → (it ρ).wp (fun xs => ∀ S' gd, Em c B ρ δ S' → (∀ T, Em c B ρ δ T → gd T) → P (xs.map .d) gd S') (fun e => ∀ S', Em c B ρ δ S' → X e.w S') → im δ S P X
def QI0 (c : Cf) (im : IM) (it : FI) : Prop := ∀ B ρ δ S P X, Em c B ρ δ S → (it ρ).wp (fun xs => ∀ S' gd, Em c B ρ δ S' → (∀ L' ρ' δ' T, Em c (B.at L') ρ' δ' T → gd T) → P (xs.map .d) gd S') (fun e => ∀ S', Em c B ρ δ S' → X e.w S') → im δ S P X
theorem QI0.i {im : IM} {it : FI} (h : QI0 c im it) : QI c im it := fun B ρ δ S P X k q => h B ρ δ S P X k (q.imp (fun xs q S' gd k' g => q S' gd k' fun T kT => g B.L ρ δ T kT) fun e z => z)
def fiSeq (fa : FE) : FI := fun ρ => (fa ρ).bind fun d => opt (seqD d) .ok
theorem items_d {S : Store} {d : D} {ds : List D} (e : seqD d = some ds) : itemsOf S (.d d) = some (ds.map .d, allS) := by
  unfold itemsOf
  dsimp only
  rw [(Ow.d (S := S) d).seq e]
theorem qi_seq (ha : QE c ma fa) : QI0 c (itSeq ma) (fiSeq fa) := fun B ρ δ S P X k q => by
  unfold fiSeq at q
  rw [Dr.wp_bind] at q
  refine ha B ρ δ S _ X k (q.imp (fun d q S1 k1 => ?_) fun e z => z)
  obtain ⟨ds, e, q⟩ := opt_wp q
  rw [items_d e]
  exact q S1 _ k1 fun _ _ _ T _ => trivial
def rngD (lo : Int) (n : Nat) : List D := (List.range n).map fun (i : Nat) => D.int (lo + (i : Int))
theorem rng_map (lo : Int) (n : Nat) : rng lo n = (rngD lo n).map .d := by
  unfold rng rngD
  rw [List.map_map]
  rfl
open Classical in
def rngOk (j : Int) : Bool := decide (-(2 ^ 62) ≤ j ∧ j < 2 ^ 62)
theorem rngOk_ok {j : Int} (h : rngOk j = true) : -(2 ^ 62) ≤ j ∧ j < 2 ^ 62 := of_decide_eq_true h
theorem rngOk_of {j : Int} (h1 : -1000000 ≤ j) (h2 : j ≤ 1000000) : rngOk j = true := decide_eq_true ⟨Int.le_trans (by decide) h1, Int.lt_of_le_of_lt h2 (by decide)⟩
theorem rngOk_nat {n : Nat} (h : n ≤ 1000000) : rngOk (n : Int) = true := rngOk_of (by omega) (by omega)
def fiRng1 (fr : FAs) : FI := fun ρ => (fr ρ).bind fun ds => match ds with
  | [.int j] => must (rngOk j = true) (.ok (rngD 0 j.toNat))
  | _ => .no
def fiRng2 (fr : FAs) : FI := fun ρ => (fr ρ).bind fun ds => match ds with
  | [.int i, .int j] => must (rngOk i = true ∧ rngOk j = true) (.ok (rngD i (j - i).toNat))
  | _ => .no
theorem qi_rng1 (hr : QA c os mr fr) (n : os.all (·.isNone) = true := by rfl) : QI0 c (itRng1 mr) (fiRng1 fr) := fun B ρ δ S P X k q => by
  unfold fiRng1 at q
  rw [Dr.wp_bind] at q
  refine hr B ρ δ S _ X k (q.imp (fun ds q S1 ws k1 h => ?_) fun e z => z)
  rw [h.trees n]
  split at q
  · obtain ⟨h1, q⟩ := must_wp q
    refine ⟨rngOk_ok h1, ?_⟩
    rw [rng_map]
    exact q S1 _ k1 fun _ _ _ T _ => trivial
  · exact q.elim
def zipD (a b : List D) : List D := List.zipWith (fun x y => .tup [x, y]) a b
theorem zip_map : ∀ a b : List D, zipW (a.map .d) (b.map .d) = (zipD a b).map .d
  | [], b => rfl
  | a :: as, [] => rfl
  | a :: as, b :: bs => by
    have := zip_map as bs
    unfold zipW zipD at this ⊢
    rw [List.map_cons, List.map_cons, List.zipWith_cons_cons, List.zipWith_cons_cons, List.map_cons, this]
    rfl
def fiZip (fr : FAs) : FI := fun ρ => (fr ρ).bind fun ds => match ds with
  | [.lst a, .lst b] => .ok (zipD a b)
  | [.tup a, .tup b] => .ok (zipD a b)
  | _ => .no
theorem qi_zip (hr : QA c os mr fr) (n : os.all (·.isNone) = true := by rfl) : QI0 c (itZip mr) (fiZip fr) := fun B ρ δ S P X k q => by
  unfold fiZip at q
  rw [Dr.wp_bind] at q
  refine hr B ρ δ S _ X k (q.imp (fun ds q S1 ws k1 h => ?_) fun e z => z)
  rw [h.trees n]
  split at q
  · rename_i a b
    show P (zipW (a.map .d) (b.map .d)) _ S1
    rw [zip_map]
    exact q S1 _ k1 fun _ _ _ T _ => ⟨trivial, trivial⟩
  · rename_i a b
    show P (zipW (a.map .d) (b.map .d)) _ S1
    rw [zip_map]
    exact q S1 _ k1 fun _ _ _ T _ => trivial
  · exact q.elim
def enumD (a : List D) : List D := a.zipIdx.map fun p => .tup [.int (p.2 : Int), p.1]
theorem enum_map (a : List D) : enumW (a.map .d) = (enumD a).map .d := by
  unfold enumW enumD
  rw [List.zipIdx_map, List.map_map, List.map_map]
  rfl
def fiEnum (fr : FAs) : FI := fun ρ => (fr ρ).bind fun ds => match ds with
  | [.lst a] => .ok (enumD a)
  | _ => .no
theorem qi_enum (hr : QA c os mr fr) (n : os.all (·.isNone) = true := by rfl) : QI0 c (itEnum mr) (fiEnum fr) := fun B ρ δ S P X k q => by
  unfold fiEnum at q
  rw [Dr.wp_bind] at q
  refine hr B ρ δ S _ X k (q.imp (fun ds q S1 ws k1 h => ?_) fun e z => z)
  rw [h.trees n]
  split at q
  · rename_i a
    show P (enumW (a.map .d)) _ S1
    rw [enum_map]
    exact q S1 _ k1 fun _ _ _ T _ => trivial
  · exact q.elim
def strD (s : Str) : List D := s.cps.toList.map fun c => .str ⟨#[c]⟩
def fiStr (fa : FE) : FI := fun ρ => (fa ρ).bind fun d => match d with
  | .str s => .ok (strD s)
  | _ => .no
theorem qi_str (ha : QE c ma fa) : QI0 c (itStr ma) (fiStr fa) := fun B ρ δ S P X k q => by
  unfold fiStr at q
  rw [Dr.wp_bind] at q
  refine ha B ρ δ S _ X k (q.imp (fun d q S1 k1 => ?_) fun e z => z)
  cases d with
  | str s =>
    have e : strW s = (strD s).map .d := by
      unfold strW strD
      rw [List.map_map]
      rfl
    show P (strW s) _ S1
    rw [e]
    exact q S1 _ k1 fun _ _ _ T _ => trivial
  | _ => exact q.elim

def ftYes : FT := fun _ => .ok true
theorem qt_yes : QT c mYes ftYes := fun B ρ δ S P X k q => q S k
def wipeR (ρ : Rho) : List Nat → Rho
  | [] => ρ
  | v :: vs => (wipeR ρ vs).set v none
theorem Em.wipe {vs : List Nat} (k : Em c B ρ δ S) (h : ∀ v ∈ vs, v ∉ c.own ∧ v ∉ c.pr ∧ v ∉ c.mu) : Em c B (wipeR ρ vs) (wipeD δ vs) S := by
  induction vs with
  | nil => exact k
  | cons v vs ih =>
    obtain ⟨A, k⟩ := ih fun x hx => h x (List.mem_cons_of_mem _ hx)
    obtain ⟨h1, h2, h3⟩ := h v (by simp)
    unfold wipeR wipeD
    refine ⟨A, by simpa using k.len, fun j e hj ho => ?_, fun j e hj ho => ?_, fun j e w hj ho hw => ?_, k.inA, k.dis, k.a0, k.a1, k.al, k.new, k.fr, fun j hj => ?_, fun j hj => ?_, k.prl, k.mul, k.fresh⟩
    · by_cases z : v = j
      · subst z
        have hl := (List.getElem?_eq_some_iff.mp hj).1
        rw [List.length_set] at hl
        rw [List.getElem?_set_self hl] at hj
        cases hj
      · rw [List.getElem?_set_ne z] at hj ⊢
        exact k.tr j e hj ho
    · have z : v ≠ j := fun z => h1 (z ▸ ho)
      rw [List.getElem?_set_ne z] at hj ⊢
      exact k.ow j e hj ho
    · have z : v ≠ j := fun z => h1 (z ▸ ho)
      rw [List.getElem?_set_ne z] at hj hw
      exact k.ce j e w hj ho hw
    · have z : v ≠ j := fun z => hj.elim (fun q => h2 (z ▸ q)) fun q => h3 (z ▸ q)
      rw [List.getElem?_set_ne z]
      exact k.prd j hj
    · have z : v ≠ j := fun z => h2 (z ▸ hj)
      rw [List.getElem?_set_ne z]
      exact k.prr j hj
theorem wipe_ne {vs : List Nat} {j : Nat} (h : j ∉ vs) : (wipeR ρ vs)[j]? = ρ[j]? ∧ (wipeD δ vs)[j]? = δ[j]? := by
  induction vs with
  | nil => exact ⟨rfl, rfl⟩
  | cons v vs ih =>
    have ne : v ≠ j := fun z => h (by simp [z])
    unfold wipeR wipeD
    rw [List.getElem?_set_ne ne, List.getElem?_set_ne ne]
    exact ih fun z => h (List.mem_cons_of_mem _ z)
def lcF (g : FG) (t : FT) (m : FE) (ρ : Rho) : List D → Dr (List D)
  | [] => .ok []
  | x :: xs => (g x ρ).calm.bind fun ρ1 => (t ρ1).calm.bind fun b => if b = true then (m ρ1).calm.bind fun y => (lcF g t m ρ xs).bind fun ys => .ok (y :: ys) else lcF g t m ρ xs
def fLc (vs : List Nat) (it : FI) (g : FG) (t : FT) (m : FE) : FE := fun ρ => (it ρ).bind fun xs => must (xs.length < 10000000) ((lcF g t m (wipeR ρ vs) xs).bind fun ys => .ok (.lst ys))
abbrev Free (c : Cf) (vs : List Nat) : Prop := ∀ v ∈ vs, v ∉ c.own ∧ v ∉ c.pr ∧ v ∉ c.mu
theorem Only.hold {vs : List Nat} (h : Only vs ρ ρ' δ δ') (n : Free c vs) : ∀ j, j ∈ c.own ∨ j ∈ c.pr ∨ j ∈ c.mu → ρ'[j]? = ρ[j]? ∧ δ'[j]? = δ[j]? := fun j hj => h j fun z => by
  obtain ⟨h1, h2, h3⟩ := n j z
  exact hj.elim h1 fun q => q.elim h2 h3
theorem lc_ok {vs : List Nat} {gd : Store → Prop} {g : GM} {fg : FG} {f : FE} {m : EM} {P : List W → Store → Prop} {X : ExD → Prop} (hg : QG c vs g fg) (n : Free c vs) (ht : QT c t ft) (hm : QE c m f) (hgd : ∀ T, Em c B ρ δ T → gd T) : ∀ (xs acc : List D) (S : Store), Em c B ρ δ S →
    (lcF fg ft f ρ xs).wp (fun ys => ∀ S', Em c B ρ δ S' → P ((acc ++ ys).map .d) S') X → lcW gd g t m δ P (xs.map .d) (acc.map .d) S
  | [], acc, S, k, q => ⟨hgd S k, by simpa using q S k⟩
  | x :: xs, acc, S, k, q => by
    refine ⟨hgd S k, ?_⟩
    unfold lcF at q
    rw [Dr.wp_bind] at q
    refine hg B ρ δ S x _ _ k (Dr.wp_calm (q.imp (fun ρ1 q δ1 S1 k1 o => ?_) fun e z => z))
    rw [Dr.wp_bind] at q
    have hold := o.hold n
    refine ht B ρ1 δ1 S1 _ _ k1 (Dr.wp_calm (q.imp (fun b q S2 k2 => ?_) fun e z => z))
    cases b with
    | false => exact lc_ok hg n ht hm hgd xs acc S2 (k2.swap k hold) q
    | true =>
      have q : ((f ρ1).calm.bind fun y => (lcF fg ft f ρ xs).bind fun ys => .ok (y :: ys)).wp _ _ := q
      rw [Dr.wp_bind] at q
      refine hm B ρ1 δ1 S2 _ _ k2 (Dr.wp_calm (q.imp (fun y q S3 k3 => ?_) fun e z => z))
      rw [Dr.wp_bind] at q
      have := lc_ok hg n ht hm hgd xs (acc ++ [y]) S3 (P := P) (k3.swap k hold) (q.imp (fun ys q S' k' => by
        rw [List.append_assoc]
        exact q S' k') fun e z => z)
      simpa using this
theorem qe_lc {vs vs' : List Nat} {im : IM} {it : FI} {g : GM} {fg : FG} (hi : QI c im it) (hg : QG c vs' g fg) (ht : QT c t ft) (hm : QE c m f) (n : Free c vs := by decide) (n' : Free c vs' := by decide) : QE c (mLc false vs im g t m) (fLc vs it fg ft f) := fun B ρ δ S P X k q => by
  unfold fLc at q
  rw [Dr.wp_bind] at q
  refine hi B ρ δ S _ X k (q.imp (fun xs q S1 gd k1 hgd => ?_) fun e z => z)
  obtain ⟨h1, q⟩ := must_wp q
  rw [Dr.wp_bind] at q
  refine ⟨by simpa using h1, ?_⟩
  have hold : ∀ j, j ∈ c.own ∨ j ∈ c.pr ∨ j ∈ c.mu → (wipeR ρ vs)[j]? = ρ[j]? ∧ (wipeD δ vs)[j]? = δ[j]? := fun j hj => wipe_ne fun z => by
    obtain ⟨a1, a2, a3⟩ := n j z
    exact hj.elim a1 fun q => q.elim a2 a3
  refine lc_ok hg n' ht hm (fun T kT => hgd T (kT.swap k hold)) xs [] S1 (k1.wipe n) (q.imp (fun ys q S' k' => ?_) fun e z => z)
  exact newLC_f (q S' (k'.swap k hold))
def isLst : D → Bool
  | .lst _ => true
  | _ => false
def fLs (f : FE) : FE := fun ρ => (f ρ).bind fun d => must (isLst d = true) (.ok d)
end
end
end DX

set_option Elab.async false
set_option linter.all false
set_option maxRecDepth 100000
namespace DX
open PySem L2
noncomputable section
inductive Fl where
  | nx (ρ : Rho) | rt (d : D) (ρ : Rho) | bk (ρ : Rho) | ct (ρ : Rho)
abbrev FS := Rho → Dr Fl
section
variable {c : Cf} {B : Bs} {ρ ρ' : Rho} {δ δ' : Slots} {S S' : Store} {os : List (Option Nat)} {ws : List W} {ds : List D} {m ma mb mo : EM} {f fa fb fo : FE} {mr mk : AM} {fr fk : FAs} {t u : TM} {ft fu : FT} {o : Bool}
def EndF (c : Cf) (B : Bs) (o : Bool) (C : Ct) (r : Fl) : Prop := match r with
  | .nx ρ' => ∀ L' δ' S', Em c (B.at L') ρ' δ' S' → C.nx δ' S'
  | .bk ρ' => ∀ L' δ' S', Em c (B.at L') ρ' δ' S' → C.bk δ' S'
  | .ct ρ' => ∀ L' δ' S', Em c (B.at L') ρ' δ' S' → C.ct δ' S'
  | .rt d ρ' => match o with
    | false => ∀ L' δ' S', Em c (B.at L') ρ' δ' S' → C.rt (.d d) S'
    | true => ∀ L' δ' S' w, EmX c (B.at L') ρ' δ' S' w d → C.rt w S'
def QS (c : Cf) (o : Bool) (m : SM) (f : FS) : Prop := ∀ B ρ δ S C, Em c B ρ δ S → (f ρ).wp (EndF c B o C) (fun e => ∀ L' ρ' δ' S', Em c (B.at L') ρ' δ' S' → C.X e.w δ' S') → m C δ S
theorem xf_of {C : Ct} {e : ExD} (h : ∀ L' ρ' δ' S', Em c (B.at L') ρ' δ' S' → C.X e.w δ' S') : ∀ S', Em c B ρ δ S' → XF C δ e.w S' := fun S' k => h B.L ρ δ S' k
theorem EndF.rt_ {C : Ct} {d : D} (h : EndF c B o C (.rt d ρ)) (k : Em c B ρ δ S) (n : o = false ∨ cellLike d = false) : C.rt (.d d) S := by
  cases o with
  | false => exact h B.L δ S k
  | true => exact h B.L δ S _ (k.x (n.elim (fun z => by cases z) id))
def fSNil : FS := fun ρ => .ok (.nx ρ)
def fSCons (f g : FS) : FS := fun ρ => (f ρ).bind fun r => match r with
  | .nx ρ' => g ρ'
  | r => .ok r
def fSNo : FS := fun _ => .no
def fBrk : FS := fun ρ => .ok (.bk ρ)
def fCnt : FS := fun ρ => .ok (.ct ρ)
theorem qs_nil : QS c o mNil fSNil := fun B ρ δ S C k q => q B.L δ S k
theorem qs_no : QS c o mNoS fSNo := fun B ρ δ S C k q => q
theorem qs_cons {m n : SM} {f g : FS} (hm : QS c o m f) (hn : QS c o n g) : QS c o (mCons m n) (fSCons f g) := fun B ρ δ S C k q => by
  unfold fSCons at q
  rw [Dr.wp_bind] at q
  refine hm B ρ δ S _ k (q.imp (fun r q => ?_) fun e z => z)
  cases r with
  | nx ρ' => exact fun L' δ' S' k' => hn (B.at L') ρ' δ' S' C k' q
  | rt d ρ' => exact q
  | bk ρ' => exact q
  | ct ρ' => exact q
def fSet (i : Nat) (f : FE) : FS := fun ρ => (f ρ).bind fun d => .ok (.nx (ρ.set i (some d)))
theorem qs_set {i : Nat} (h : QE c m f) (h1 : i ∉ c.own := by decide) (h2 : i ∉ c.pr := by decide) (h3 : i ∉ c.mu := by decide) : QS c o (mSet i m) (fSet i f) := fun B ρ δ S C k q => by
  unfold fSet at q
  rw [Dr.wp_bind] at q
  exact h B ρ δ S _ (XF C δ) k (q.imp (fun d q S1 k1 => q B.L _ S1 (k1.set h1 h2 h3)) fun e z => xf_of z)
theorem qs_setO {i : Nat} (h : QO c m f) (h1 : i ∈ c.own := by decide) (h2 : i ∉ c.pr := by decide) (h3 : i ∉ c.mu := by decide) : QS c o (mSet i m) (fSet i f) := fun B ρ δ S C k q => by
  unfold fSet at q
  rw [Dr.wp_bind] at q
  exact h B ρ δ S _ (XF C δ) k (q.imp (fun d q S1 w k1 => let ⟨L', k2⟩ := k1.set h1 h2 h3; q L' _ S1 k2) fun e z => xf_of z)
def fPar (i j : Nat) (fa fb : FE) : FS := fun ρ => (fa ρ).bind fun a => (fb ρ).bind fun b => .ok (.nx ((ρ.set i (some a)).set j (some b)))
theorem qs_par {i j : Nat} (ha : QE c ma fa) (hb : QE c mb fb) (h1 : i ∉ c.own := by decide) (h2 : i ∉ c.pr := by decide) (h3 : i ∉ c.mu := by decide) (g1 : j ∉ c.own := by decide) (g2 : j ∉ c.pr := by decide) (g3 : j ∉ c.mu := by decide) : QS c o (mPar i j (aCons ma (aCons mb aNil))) (fPar i j fa fb) := fun B ρ δ S C k q => by
  unfold fPar at q
  rw [Dr.wp_bind] at q
  refine ha B ρ δ S _ (XF C δ) k (q.imp (fun a q S1 k1 => ?_) fun e z => xf_of z)
  rw [Dr.wp_bind] at q
  exact hb B ρ δ S1 _ (XF C δ) k1 (q.imp (fun b q S2 k2 => q B.L _ S2 ((k2.set h1 h2 h3).set g1 g2 g3)) fun e z => xf_of z)
def fAsg (f : FE) (g : FG) : FS := fun ρ => (f ρ).bind fun d => (g d ρ).bind fun ρ' => .ok (.nx ρ')
def fDrp (f : FE) : FS := fun ρ => (f ρ).bind fun _ => .ok (.nx ρ)
def fRet (f : FE) : FS := fun ρ => (f ρ).bind fun d => .ok (.rt d ρ)
def fRetN : FS := fun ρ => .ok (.rt .non ρ)
theorem qs_ret (h : QE c m f) : QS c false (mRet m) (fRet f) := fun B ρ δ S C k q => by
  unfold fRet at q
  rw [Dr.wp_bind] at q
  exact h B ρ δ S _ (XF C δ) k (q.imp (fun d q S1 k1 => EndF.rt_ q k1 (.inl rfl)) fun e z => xf_of z)
def fRetV (i : Nat) : FS := fun ρ => opt (getR ρ i) fun d => .ok (.rt d (ρ.set i none))
def frzOk : D → Bool
  | .lst _ => true
  | d => flatD d
def fRetZ (i : Nat) : FS := fun ρ => opt (getR ρ i) fun d => must (frzOk d = true) (.ok (.rt d (ρ.set i none)))
theorem EmC.out {A : Addr → Prop} {L : Nat → List Addr} {i : Nat} (k : EmC c B ρ δ S A L) (h2 : i ∉ c.pr) (h3 : i ∉ c.mu) (hS : ∀ b, b ∉ L i → S' b = S b) (hf : ∀ b x, ¬ B.A0 b → B.S0 b = some x → S' b = some x) : EmC c B (ρ.set i none) δ S' (fun b => A b ∧ b ∉ L i) (fun j => if j = i then [] else L j) := by
  have k0 := k.forget (i := i) h2
  refine ⟨k0.len, k0.tr, fun j e hj ho => ?_, k0.ce, fun j b hb => ?_, fun j l b ne hb hc => ?_, fun b hb => ?_, k.a1, fun b hb => ?_, fun b hb => k.new b hb.1, hf, k0.prd, k0.prr, fun j hj => ?_, fun j b hj hb => ?_, fun j b p q hb => ?_⟩
  · obtain ⟨w, e1, e2⟩ := k0.ow j e hj ho
    have ne : j ≠ i := fun z => by
      subst z
      have hl := (List.getElem?_eq_some_iff.mp hj).1
      rw [List.length_set] at hl
      rw [List.getElem?_set_self hl] at hj
      cases hj
    rw [if_neg ne]
    exact ⟨w, e1, e2.fr fun b hb => hS b (k.dis j i b ne hb)⟩
  · by_cases z : j = i
    · rw [if_pos z] at hb; cases hb
    · rw [if_neg z] at hb; exact ⟨k.inA j b hb, k.dis j i b z hb⟩
  · by_cases z : j = i
    · rw [if_pos z] at hb; cases hb
    · rw [if_neg z] at hb
      by_cases y : l = i
      · rw [if_pos y] at hc; cases hc
      · rw [if_neg y] at hc; exact k.dis j l b ne hb hc
  · exact ⟨k.a0 b hb, fun q => k.a1 b hb (k.fresh i b h2 h3 q)⟩
  · rw [hS b hb.2]; exact k.al b hb.1
  · have z : ¬ j = i := fun z => h2 (z ▸ hj)
    rw [if_neg z]; exact k.prl j hj
  · have z : ¬ j = i := fun z => h3 (z ▸ hj)
    rw [if_neg z] at hb; exact k.mul j b hj hb
  · by_cases z : j = i
    · rw [if_pos z] at hb; cases hb
    · rw [if_neg z] at hb; exact k.fresh j b p q hb
theorem EmC.put {A : Addr → Prop} {L : Nat → List Addr} {i : Nat} {d' : D} {w : W} {Li : List Addr} (k : EmC c B ρ δ S A L) (ew : δ[i]? = some (some w)) (h2 : i ∉ c.pr) (hw : Ow S' w d' Li) (hL : ∀ b ∈ Li, b ∈ L i) (hS : ∀ b, b ∉ L i → S' b = S b) (hal : ∀ b ∈ L i, S' b ≠ none) (h1 : i ∈ c.own) (hc : cel w d') : EmC c B (ρ.set i (some d')) δ S' A (fun j => if j = i then Li else L j) := by
  have li : ∀ j b, b ∈ (if j = i then Li else L j) → b ∈ L j := fun j b hb => by
    by_cases z : j = i
    · rw [if_pos z] at hb; rw [z]; exact hL b hb
    · rw [if_neg z] at hb; exact hb
  refine ⟨by simpa using k.len, fun j e hj ho => ?_, fun j e hj ho => ?_, fun j e u hj ho hu => ?_, fun j b hb => k.inA j b (li j b hb), fun j l b ne hb hc => k.dis j l b ne (li j b hb) (li l b hc), k.a0, k.a1, fun b hb => ?_, k.new, fun b x g1 g2 => ?_, k.prd, fun j hj => ?_, fun j hj => ?_, fun j b hj hb => k.mul j b hj (li j b hb), fun j b p q hb => k.fresh j b p q (li j b hb)⟩
  · have z : i ≠ j := fun z => ho (z ▸ h1)
    rw [List.getElem?_set_ne z] at hj
    exact k.tr j e hj ho
  · by_cases z : i = j
    · subst z
      have hl := (List.getElem?_eq_some_iff.mp hj).1
      rw [List.length_set] at hl
      rw [List.getElem?_set_self hl] at hj
      cases hj
      rw [if_pos rfl]
      exact ⟨w, ew, hw⟩
    · rw [List.getElem?_set_ne z] at hj
      rw [if_neg (Ne.symm z)]
      obtain ⟨u, e1, e2⟩ := k.ow j e hj ho
      exact ⟨u, e1, e2.fr fun b hb => hS b fun y => k.dis j i b (Ne.symm z) hb y⟩
  · by_cases z : i = j
    · subst z
      have hl := (List.getElem?_eq_some_iff.mp hj).1
      rw [List.length_set] at hl
      rw [List.getElem?_set_self hl] at hj
      cases hj
      rw [ew] at hu
      cases hu
      exact hc
    · rw [List.getElem?_set_ne z] at hj
      exact k.ce j e u hj ho hu
  · by_cases z : b ∈ L i
    · exact hal b z
    · rw [hS b z]; exact k.al b hb
  · have nb : b ∉ L i := fun z => by
      rcases k.new b (k.inA i b z) with y | y
      · exact g1 y
      · rw [y] at g2; cases g2
    rw [hS b nb]
    exact k.fr b x g1 g2
  · have z : i ≠ j := fun z => h2 (z ▸ hj)
    rw [List.getElem?_set_ne z]
    exact k.prr j hj
  · have z : ¬ j = i := fun z => h2 (z ▸ hj)
    rw [if_neg z]; exact k.prl j hj
theorem Em.putL {i : Nat} {a : Addr} {ds ds' : List D} (k : Em c B ρ δ S) (ew : δ[i]? = some (some (.ref a))) (er : getR ρ i = some (.lst ds)) (h1 : i ∈ c.own) (h2 : i ∉ c.pr) : S a = some (.lst (ds.map .d)) ∧ ∃ L', Em c (B.at L') (ρ.set i (some (.lst ds'))) δ (upS S a (.lst (ds'.map .d))) := by
  obtain ⟨A, k⟩ := k
  obtain ⟨w, e, hw⟩ := k.ow i _ (getR_at er) h1
  rw [ew] at e
  cases e
  generalize hL : B.L i = Li at hw
  cases hw with
  | lst ha =>
    refine ⟨ha, _, A, EmC.at_ (B := B) (k.put (Li := [a]) ew h2 (.lst upS_same) (fun b hb => by rw [hL]; exact hb) (fun b hb => upS_ne fun z => hb (by rw [hL, z]; simp)) (fun b hb => ?_) h1 (fun _ => ⟨a, rfl⟩))⟩
    rw [hL] at hb
    rw [List.mem_singleton.mp hb, upS_same]
    simp
theorem Em.ownL {i : Nat} {ds : List D} (k : Em c B ρ δ S) (er : getR ρ i = some (.lst ds)) (h1 : i ∈ c.own) (h2 : i ∉ c.pr) : ∃ a, δ[i]? = some (some (.ref a)) := by
  obtain ⟨A, k⟩ := k
  obtain ⟨w, e, hw⟩ := k.ow i _ (getR_at er) h1
  obtain ⟨a, rfl⟩ := k.ce i _ w (getR_at er) h1 e rfl
  exact ⟨a, e⟩
end
end
end DX

set_option Elab.async false
set_option linter.all false
set_option maxRecDepth 100000
namespace DX
open PySem L2
noncomputable section
section
variable {c : Cf} {B : Bs} {ρ ρ' : Rho} {δ δ' : Slots} {S S' : Store} {os : List (Option Nat)} {ws : List W} {ds : List D} {m ma mb mo mi : EM} {f fa fb fo fi : FE} {mr mk : AM} {fr fk : FAs} {t u : TM} {ft fu : FT} {o : Bool}
def fAppend (i : Nat) (f : FE) : FS := fun ρ => opt (getR ρ i) fun l => match l with
  | .lst ds => (f ρ).bind fun d => must (ds.length < 10000000) (.ok (.nx (ρ.set i (some (.lst (ds ++ [d]))))))
  | _ => .no
def fSetI (i : Nat) (fi f : FE) : FS := fun ρ => (f ρ).bind fun d => opt (getR ρ i) fun l => match l with
  | .lst ds => (fi ρ).bind fun y => match y with
    | .int n => opt (ixN ds.length n) fun j => .ok (.nx (ρ.set i (some (.lst (ds.set j d)))))
    | _ => .no
  | _ => .no
def putD (f : String) (d : D) : List (String × D) → List (String × D)
  | [] => [(f, d)]
  | (g, u) :: r => if g = f then (g, d) :: r else (g, u) :: putD f d r
theorem Owf.len {fs : List (String × W)} {gs : List (String × D)} {L : List Addr} (h : Owf S fs gs L) : fs.length = gs.length := by
  match h with
  | .nil => rfl
  | .cons h r _ _ _ => rw [List.length_cons, List.length_cons, r.len]
theorem Owf.put {f : String} {v : D} {fs : List (String × W)} {gs : List (String × D)} {L : List Addr} (hv : cellF f = true → cel (.d v) v) (h : Owf S fs gs L) : ∃ L', Owf S (putW f (.d v) fs) (putD f v gs) L' ∧ ∀ b ∈ L', b ∈ L := by
  match h with
  | .nil => exact ⟨[], by simpa [putW, putD] using (Owf.cons (f := f) (.d v) .nil (fun b hb => by cases hb) (fun _ => rfl) (hv ·) : Owf S [(f, .d v)] [(f, v)] ([] ++ [])), fun b hb => hb⟩
  | .cons (f := g) (L := L1) (L' := L2) h r n z y =>
    unfold putW putD
    by_cases e : g = f
    · rw [if_pos e, if_pos e]
      exact ⟨[] ++ L2, by rw [e]; exact .cons (.d v) r (fun b hb => by cases hb) (fun _ => rfl) hv, fun b hb => List.mem_append_right _ hb⟩
    · rw [if_neg e, if_neg e]
      obtain ⟨L', h1, h2⟩ := r.put (f := f) (v := v) hv
      refine ⟨L1 ++ L', .cons h h1 (fun b hb hc => n b hb (h2 b hc)) z y, fun b hb => ?_⟩
      rcases List.mem_append.mp hb with hb | hb
      · exact List.mem_append_left _ hb
      · exact List.mem_append_right _ (h2 b hb)
def fFld (f : String) (cs : List String) (i : Nat) (fv : FE) : FS := fun ρ => (fv ρ).bind fun v => opt (getR ρ i) fun g => match g with
  | .ins C gs => must (cs.contains C = true ∧ gs.length < 1000 ∧ (cellF f = false ∨ cellLike v = false)) (.ok (.nx (ρ.set i (some (.ins C (putD f v gs))))))
  | _ => .no
theorem qs_fld {f : String} {cs : List String} {i : Nat} {fv : FE} (h : QE c m fv) (h1 : i ∈ c.own := by decide) (h2 : i ∉ c.pr := by decide) : QS c o (mFldS f cs (mVar i) m) (fFld f cs i fv) := fun B ρ δ S C k q => by
  unfold fFld at q
  rw [Dr.wp_bind] at q
  refine h B ρ δ S _ (XF C δ) k (q.imp (fun v q S1 k1 => ?_) fun e z => xf_of z)
  obtain ⟨g, er, q⟩ := opt_wp q
  split at q
  · rename_i Cl gs
    obtain ⟨⟨hc, hl, hv⟩, q⟩ := must_wp q
    have hv : cellF f = true → cel (.d v) v := fun a b => by
      rcases hv with z | z
      · rw [z] at a; cases a
      · rw [z] at b; cases b
    obtain ⟨A, k1⟩ := k1
    obtain ⟨w, ew, hw⟩ := k1.ow i _ (getR_at er) h1
    obtain ⟨a, rfl⟩ := k1.ce i _ w (getR_at er) h1 ew rfl
    show (match δ[i]? with | some (some w) => _ | _ => False)
    rw [ew]
    generalize hL : B.L i = Li at hw
    cases hw with
    | @obj _ _ fs _ L1 ha hf nn =>
      show (match S1 a with | some (.obj cl fs) => _ | _ => False)
      rw [ha]
      refine ⟨hc, by rw [hf.len]; exact hl, ?_⟩
      obtain ⟨L2, g1, g2⟩ := Owf.put (f := f) (v := v) hv hf
      have na : ∀ b ∈ L2, b ≠ a := fun b hb z => nn (z ▸ g2 b hb)
      refine q _ δ _ ⟨A, EmC.at_ (B := B) (k1.put (Li := a :: L2) ew h2 (.obj upS_same (g1.fr fun b hb => upS_ne (na b hb)) fun z => na a z rfl) (fun b hb => ?_) (fun b hb => upS_ne fun z => hb (by rw [hL, z]; simp)) (fun b hb => ?_) h1 (fun _ => ⟨a, rfl⟩))⟩
      · rw [hL]
        rcases List.mem_cons.mp hb with rfl | hb
        · simp
        · exact List.mem_cons_of_mem _ (g2 b hb)
      · by_cases z : b = a
        · rw [z, upS_same]; simp
        · rw [upS_ne z]; exact k1.al b (k1.inA i b hb)
  · exact q.elim
def fIfS (t : FT) (f g : FS) : FS := fun ρ => (t ρ).bind fun b => if b = true then f ρ else g ρ
theorem qs_if {m n : SM} {f g : FS} (ht : QT c t ft) (hm : QS c o m f) (hn : QS c o n g) : QS c o (mIfS t m n) (fIfS ft f g) := fun B ρ δ S C k q => by
  unfold fIfS at q
  rw [Dr.wp_bind] at q
  refine ht B ρ δ S _ (XF C δ) k (q.imp (fun b q S1 k1 => ?_) fun e z => xf_of z)
  cases b with
  | true => exact hm B ρ δ S1 C k1 q
  | false => exact hn B ρ δ S1 C k1 q
def fForL (g : FG) (body : FS) (dead : List Nat) : List D → Rho → Dr Fl
  | [], ρ => .ok (.nx ρ)
  | x :: xs, ρ => (g x ρ).bind fun ρ1 => (body ρ1).bind fun r => match r with
    | .nx ρ2 => fForL g body dead xs (wipeR ρ2 dead)
    | .ct ρ2 => fForL g body dead xs (wipeR ρ2 dead)
    | .bk ρ2 => .ok (.nx (wipeR ρ2 dead))
    | .rt d ρ2 => .ok (.rt d ρ2)
def fFor (it : FI) (g : FG) (body : FS) (dead : List Nat) : FS := fun ρ => (it ρ).bind fun xs => fForL g body dead xs ρ
theorem Em.forgets {vs : List Nat} (k : Em c B ρ δ S) (h : ∀ v ∈ vs, v ∉ c.pr) : Em c B (wipeR ρ vs) δ S := by
  induction vs with
  | nil => exact k
  | cons v vs ih => exact (ih fun x hx => h x (List.mem_cons_of_mem _ hx)).forget (h v (by simp))
theorem qs_for {vs : List Nat} {im : IM} {it : FI} {g : GM} {fg : FG} {body : SM} {fb : FS} {dead : List Nat} (hi : QI0 c im it) (hg : QG c vs g fg) (hb : QS c o body fb) (hd : ∀ v ∈ dead, v ∉ c.pr := by decide) : QS c o (mFor im g body) (fFor it fg fb dead) := fun B ρ δ S C k q => by
  unfold fFor at q
  rw [Dr.wp_bind] at q
  refine hi B ρ δ S _ (XF C δ) k (q.imp (fun xs q S1 gd k1 hgd => ?_) fun e z => xf_of z)
  refine ⟨fun n δ2 S2 => n ≤ xs.length ∧ ∃ L2 ρ2, Em c (B.at L2) ρ2 δ2 S2 ∧ (fForL fg fb dead (xs.drop n) ρ2).wp (EndF c B o C) (fun e => ∀ L' ρ' δ' S', Em c (B.at L') ρ' δ' S' → C.X e.w δ' S'), ⟨Nat.zero_le _, B.L, ρ, k1, q⟩, fun n δ2 S2 ⟨hn, L2, ρ2, k2, q2⟩ => ⟨by simpa using hn, hgd L2 ρ2 δ2 S2 k2, fun w hw => ?_, fun e => ?_⟩⟩
  · rw [List.getElem?_map] at hw
    cases ex : xs[n]? with
    | none => rw [ex] at hw; cases hw
    | some x =>
      rw [ex] at hw
      cases hw
      have hl := (List.getElem?_eq_some_iff.mp ex).1
      have e : xs.drop n = x :: xs.drop (n + 1) := by
        rw [List.drop_eq_getElem_cons hl, (List.getElem?_eq_some_iff.mp ex).2]
      rw [e] at q2
      unfold fForL at q2
      rw [Dr.wp_bind] at q2
      refine hg (B.at L2) ρ2 δ2 S2 x _ (XF C δ2) k2 (q2.imp (fun ρ3 q δ3 S3 k3 _ => ?_) fun e z => xf_of z)
      rw [Dr.wp_bind] at q
      have dn : ∀ {P : Slots → Store → Prop} {δ : Slots} {S : Store}, P δ S → Dn P δ S := fun {P δ S} h => ⟨δ, S, fun _ _ h => h, Nat.le_refl _, fun _ _ h => h, h⟩
      refine hb (B.at L2) ρ3 δ3 S3 _ k3 (q.imp (fun r q => ?_) fun e z => z)
      cases r with
      | nx ρ4 => exact fun L' δ' S' k' => dn ⟨hl, L', _, k'.forgets hd, q⟩
      | ct ρ4 => exact fun L' δ' S' k' => dn ⟨hl, L', _, k'.forgets hd, q⟩
      | bk ρ4 => exact fun L' δ' S' k' => q L' δ' S' (k'.forgets hd)
      | rt d ρ4 => exact q
  · have e2 : xs.drop n = [] := by
      rw [List.drop_eq_nil_iff]
      rw [List.length_map] at e
      omega
    rw [e2] at q2
    exact q2 L2 δ2 S2 k2
end
end
end DX

set_option Elab.async false
set_option linter.all false
set_option maxRecDepth 100000
namespace DX
open PySem L2
noncomputable section
def startR (N : Nat) (ds : List D) : Rho := ds.map some ++ List.replicate (N - ds.length) none
def argsB (c : Cf) (bs : List Bool) : Bool := (c.pr.all fun i => decide (bs[i]? = some true) && c.own.contains i) && ((List.range bs.length).all fun i => if bs[i]? = some true then (c.pr.contains i || c.mu.contains i) && c.own.contains i else !c.own.contains i)
theorem argsB_t {c : Cf} {bs : List Bool} (k : argsB c bs = true) {i : Nat} (h : bs[i]? = some true) : (i ∈ c.pr ∨ i ∈ c.mu) ∧ i ∈ c.own := by
  unfold argsB at k
  rw [Bool.and_eq_true] at k
  have := List.all_eq_true.mp k.2 i (List.mem_range.mpr (List.getElem?_eq_some_iff.mp h).1)
  rw [if_pos h] at this
  simpa using this
theorem argsB_f {c : Cf} {bs : List Bool} (k : argsB c bs = true) {i : Nat} (h : bs[i]? = some false) : i ∉ c.own := by
  unfold argsB at k
  rw [Bool.and_eq_true] at k
  have := List.all_eq_true.mp k.2 i (List.mem_range.mpr (List.getElem?_eq_some_iff.mp h).1)
  rw [if_neg (by rw [h]; simp)] at this
  simpa using this
section
variable {S S' : Store} {bs : List Bool} {ws : List W} {ds : List D} {Ls : List (List Addr)}
theorem OwA.at_ (h : OwA S bs ws ds Ls) : ∀ {i : Nat} {d : D}, ds[i]? = some d → ∃ w, ws[i]? = some w ∧ ((bs[i]? = some false ∧ w = .d d ∧ Ls[i]? = some []) ∨ (bs[i]? = some true ∧ ∃ L, Ls[i]? = some L ∧ Ow S w d L ∧ cel w d)) := by
  induction h with
  | nil => intro i d e; simp at e
  | tr d h ih =>
    intro i e he
    cases i with
    | zero => simp at he; subst he; exact ⟨_, rfl, .inl ⟨rfl, rfl, rfl⟩⟩
    | succ i => simpa using ih (i := i) (by simpa using he)
  | ow h1 h2 h3 h4 ih =>
    intro i e he
    cases i with
    | zero => simp at he; subst he; exact ⟨_, rfl, .inr ⟨rfl, _, rfl, h1, h4⟩⟩
    | succ i => simpa using ih (i := i) (by simpa using he)
theorem OwA.dis (h : OwA S bs ws ds Ls) : ∀ {i j : Nat} {b : Addr}, i ≠ j → b ∈ Ls[i]?.getD [] → b ∉ Ls[j]?.getD [] := by
  induction h with
  | nil => intro i j b ne hb; simp at hb
  | tr d h ih =>
    intro i j b ne hb
    cases i with
    | zero => simp at hb
    | succ i => cases j with
      | zero => simp
      | succ j => simpa using ih (i := i) (j := j) (fun z => ne (by rw [z])) (by simpa using hb)
  | @ow bs ws ds Ls w d L h1 h2 h3 h4 ih =>
    have mem : ∀ {j : Nat} {b : Addr}, b ∈ Ls[j]?.getD [] → ∃ L' ∈ Ls, b ∈ L' := fun {j b} hb => by
      cases e : Ls[j]? with
      | none => rw [e] at hb; cases hb
      | some L' => rw [e] at hb; exact ⟨L', List.mem_of_getElem? e, hb⟩
    intro i j b ne hb
    cases i with
    | zero =>
      cases j with
      | zero => exact absurd rfl ne
      | succ j =>
        intro hc
        obtain ⟨L', g1, g2⟩ := mem (j := j) (b := b) (by simpa using hc)
        exact h3 b (by simpa using hb) L' g1 g2
    | succ i => cases j with
      | zero =>
        intro hc
        obtain ⟨L', g1, g2⟩ := mem (j := i) (b := b) (by simpa using hb)
        exact h3 b (by simpa using hc) L' g1 g2
      | succ j => simpa using ih (i := i) (j := j) (fun z => ne (by rw [z])) (by simpa using hb)
theorem OwA.re (h : OwA S bs ws ds Ls) : (∀ (i : Nat) (w : W) (d : D) (L : List Addr), ws[i]? = some w → ds[i]? = some d → Ls[i]? = some L → bs[i]? = some true → Ow S' w d L) → OwA S' bs ws ds Ls := by
  induction h with
  | nil => intro _; exact .nil
  | tr d h ih => intro q; exact .tr d (ih fun i w e L h1 h2 h3 h4 => q (i + 1) w e L (by simpa using h1) (by simpa using h2) (by simpa using h3) (by simpa using h4))
  | ow h1 h2 h3 h4 ih => intro q; exact .ow (q 0 _ _ _ rfl rfl rfl rfl) (ih fun i w e L h1 h2 h3 h4 => q (i + 1) w e L (by simpa using h1) (by simpa using h2) (by simpa using h3) (by simpa using h4)) h3 h4
theorem startR_at {N i : Nat} {d : D} (h : (startR N ds)[i]? = some (some d)) : ds[i]? = some d := by
  unfold startR at h
  by_cases l : i < ds.length
  · rw [List.getElem?_append_left (by simpa using l), List.getElem?_map] at h
    cases e : ds[i]? with
    | none => rw [e] at h; cases h
    | some x => rw [e] at h; cases h; rfl
  · rw [List.getElem?_append_right (by simpa using Nat.le_of_not_lt l)] at h
    exfalso
    have := List.getElem?_eq_some_iff.mp h
    obtain ⟨a, b⟩ := this
    rw [List.getElem_replicate] at b
    cases b
theorem startR_of {N i : Nat} {d : D} (h : ds[i]? = some d) : (startR N ds)[i]? = some (some d) := by
  unfold startR
  have l := (List.getElem?_eq_some_iff.mp h).1
  rw [List.getElem?_append_left (by simpa using l), List.getElem?_map, h]
  rfl
theorem startD_of {N i : Nat} {w : W} (h : ws[i]? = some w) : (startD N ws)[i]? = some (some w) := by
  unfold startD
  have l := (List.getElem?_eq_some_iff.mp h).1
  rw [List.getElem?_append_left (by simpa using l), List.getElem?_map, h]
  rfl
def startB (S : Store) (N : Nat) (ws : List W) (ds : List D) (Ls : List (List Addr)) : Bs := ⟨fun b => ∃ L ∈ Ls, b ∈ L, S, startD N ws, startR N ds, fun i => Ls[i]?.getD [], fun i => Ls[i]?.getD []⟩
theorem em_start {c : Cf} {N : Nat} (h : OwA S bs ws ds Ls) (k : argsB c bs = true) : Em c (startB S N ws ds Ls) (startR N ds) (startD N ws) S := by
  have l := h.lens
  refine ⟨fun b => ∃ L ∈ Ls, b ∈ L, by simp [startD, startR, l.2.1], fun i d hd ho => ?_, fun i d hd ho => ?_, fun i d w hd ho hw => ?_, fun i b hb => ?_, fun i j b ne hb => h.dis ne hb, fun b hb => hb, fun b hb => ?_, fun b hb => ?_, fun b hb => .inl hb, fun b x _ h => h, fun i _ => rfl, fun i _ => rfl, fun i _ => rfl, fun i b hi hb => .inl hb, fun i b h1 h2 hb => ?_⟩
  · obtain ⟨w, hw, r⟩ := h.at_ (startR_at hd)
    rcases r with ⟨e, rfl, _⟩ | ⟨e, _⟩
    · exact startD_of hw
    · exact absurd (argsB_t k e).2 ho
  · obtain ⟨w, hw, r⟩ := h.at_ (startR_at hd)
    rcases r with ⟨e, rfl, _⟩ | ⟨e, L, hL, ow, _⟩
    · exact absurd ho (argsB_f k e)
    · exact ⟨w, startD_of hw, by show Ow S w d (Ls[i]?.getD []); rw [hL]; exact ow⟩
  · obtain ⟨w', hw', r⟩ := h.at_ (startR_at hd)
    rcases r with ⟨e, rfl, _⟩ | ⟨e, L, hL, ow, hc⟩
    · exact absurd ho (argsB_f k e)
    · rw [startD_of hw'] at hw
      cases hw
      exact hc
  · have hb : b ∈ Ls[i]?.getD [] := hb
    cases e : Ls[i]? with
    | none => rw [e] at hb; cases hb
    | some L' => rw [e] at hb; exact ⟨L', List.mem_of_getElem? e, hb⟩
  · obtain ⟨L, g1, g2⟩ := hb; exact h.al L g1 b g2
  · obtain ⟨L, g1, g2⟩ := hb; exact h.al L g1 b g2
  · exfalso
    have hb : b ∈ Ls[i]?.getD [] := hb
    cases e : Ls[i]? with
    | none => rw [e] at hb; cases hb
    | some L' =>
      rw [e] at hb
      have l2 := (List.getElem?_eq_some_iff.mp e).1
      have hd : ∃ d, ds[i]? = some d := ⟨_, List.getElem?_eq_getElem (by omega)⟩
      obtain ⟨d, hd⟩ := hd
      obtain ⟨w, hw, r⟩ := h.at_ hd
      rcases r with ⟨e1, _, e2⟩ | ⟨e1, _⟩
      · rw [e] at e2; cases e2; cases hb
      · exact (argsB_t k e1).1.elim h1 h2
theorem em_ow {c : Cf} {N : Nat} {ρ' : Rho} {δ' : Slots} {A : Addr → Prop} {L : Nat → List Addr} (q : EmC c (startB S N ws ds Ls) ρ' δ' S' A L) {i : Nat} {w : W} {d : D} {L' : List Addr} (hp : i ∈ c.pr) (ho : i ∈ c.own) (h1 : ws[i]? = some w) (h2 : ds[i]? = some d) (h3 : Ls[i]? = some L') : Ow S' w d L' := by
  obtain ⟨w', e1, e2⟩ := q.ow i d ((q.prr i hp).trans (startR_of h2)) ho
  have e3 := (q.prd i (.inl hp)).trans (startD_of (N := N) h1)
  rw [e3] at e1
  cases e1
  have e4 := q.prl i hp
  have e5 : (startB S N ws ds Ls).L0 i = Ls[i]?.getD [] := rfl
  rw [e5, h3] at e4
  rw [e4] at e2
  exact e2
theorem em_end {c : Cf} {N : Nat} {ρ' : Rho} {δ' : Slots} (h : OwA S bs ws ds Ls) (k : argsB c bs = true) (n : c.mu = []) {Lx : Nat → List Addr} (q : Em c ((startB S N ws ds Ls).at Lx) ρ' δ' S') : FrL Ls S S' ∧ OwA S' bs ws ds Ls := by
  obtain ⟨A, q⟩ := q
  have q : EmC c (startB S N ws ds Ls) ρ' δ' S' A Lx := ⟨q.len, q.tr, q.ow, q.ce, q.inA, q.dis, q.a0, q.a1, q.al, q.new, q.fr, q.prd, q.prr, q.prl, q.mul, q.fresh⟩
  refine ⟨fun b x h1 h2 => q.fr b x (fun ⟨L', g1, g2⟩ => h1 L' g1 g2) h2, h.re fun i w d L' h1 h2 h3 h4 => ?_⟩
  obtain ⟨hp, ho⟩ := argsB_t k h4
  exact em_ow q (hp.elim id fun z => by rw [n] at z; cases z) ho h1 h2 h3
end
def bodyF (n N : Nat) (f : FS) : DF := fun ds => must (ds.length = n) ((f (startR N ds)).bind fun r => match r with
  | .nx _ => .ok .non
  | .rt d _ => .ok d
  | _ => .no)
theorem qf_body {c : Cf} {bs : List Bool} {nn N : Nat} {m : SM} {f : FS} (h : QS c false m f) (k : argsB c bs = true := by decide) (n : c.mu = [] := by rfl) : QF bs (bodyD nn N m) (bodyF nn N f) := fun ws ds S Ls P X ow q => by
  obtain ⟨hl, q⟩ := must_wp q
  rw [Dr.wp_bind] at q
  refine ⟨ow.lens.2.1.trans hl, ?_⟩
  refine h (startB S N ws ds Ls) (startR N ds) (startD N ws) S _ (em_start ow k) (q.imp (fun r q => ?_) fun e q L' ρ' δ' S' k' => ?_)
  · cases r with
    | nx ρ' => exact fun L' δ' S' k' => dnW.of (q S' (em_end ow k n k').1 (em_end ow k n k').2)
    | rt d ρ' => exact fun L' δ' S' k' => dnW.of (q S' (em_end ow k n k').1 (em_end ow k n k').2)
    | _ => exact q.elim
  · exact q S' (em_end ow k n k').1 (em_end ow k n k').2
def bodyM (n N : Nat) (f : FS) : MF := fun ds => must (ds.length = n) ((f (startR N ds)).bind fun r => match r with
  | .nx ρ => opt (getR ρ 0) fun g => .ok (.non, g)
  | .rt d ρ => opt (getR ρ 0) fun g => .ok (d, g)
  | _ => .no)
theorem qm_body {c : Cf} {bs : List Bool} {nn N : Nat} {m : SM} {f : FS} (h : QS c false m f) (k : argsB c (true :: bs) = true := by decide) (n : c.mu = [0] := by rfl) (n0 : 0 ∉ c.pr := by decide) : QM bs (bodyD nn N m) (bodyM nn N f) := fun w g L0 ws ds S Ls P X hw cw ow hd q => by
  obtain ⟨hl, q⟩ := must_wp q
  rw [Dr.wp_bind] at q
  have ow2 : OwA S (true :: bs) (w :: ws) (g :: ds) (L0 :: Ls) := .ow hw ow hd cw
  refine ⟨ow2.lens.2.1.trans hl, ?_⟩
  have h0 : 0 ∈ c.own := (argsB_t k (i := 0) rfl).2
  have fin : ∀ {Lx : Nat → List Addr} {ρ' : Rho} {δ' : Slots} {S' : Store}, Em c ((startB S N (w :: ws) (g :: ds) (L0 :: Ls)).at Lx) ρ' δ' S' → FrL (L0 :: Ls) S S' ∧ OwA S' bs ws ds Ls ∧ (∀ b ∈ L0, S' b ≠ none) ∧ ∀ g', getR ρ' 0 = some g' → ∃ L1, Ow S' w g' L1 ∧ ∀ b ∈ L1, b ∈ L0 ∨ S b = none := fun {Lx ρ' δ' S'} q => by
    obtain ⟨A, q⟩ := q
    have q : EmC c (startB S N (w :: ws) (g :: ds) (L0 :: Ls)) ρ' δ' S' A Lx := ⟨q.len, q.tr, q.ow, q.ce, q.inA, q.dis, q.a0, q.a1, q.al, q.new, q.fr, q.prd, q.prr, q.prl, q.mul, q.fresh⟩
    refine ⟨fun b x h1 h2 => q.fr b x (fun ⟨L', g1, g2⟩ => h1 L' g1 g2) h2, ow.re fun i w' d L' h1 h2 h3 h4 => ?_, fun b hb => q.al b (q.a0 b ⟨L0, by simp, hb⟩), fun g' e => ?_⟩
    · obtain ⟨hp, ho⟩ := argsB_t k (i := i + 1) (by simpa using h4)
      exact em_ow q (hp.elim id fun z => by rw [n] at z; simp at z) ho (by simpa using h1) (by simpa using h2) (by simpa using h3)
    · obtain ⟨w', e1, e2⟩ := q.ow 0 g' (getR_at e) h0
      have e3 := (q.prd 0 (.inr (by rw [n]; simp))).trans (startD_of (ws := w :: ws) (N := N) (i := 0) rfl)
      rw [e3] at e1
      cases e1
      exact ⟨Lx 0, e2, fun b hb => q.mul 0 b (by rw [n]; simp) hb⟩
  refine h _ _ _ S _ (em_start ow2 k) (q.imp (fun r q => ?_) fun e q L' ρ' δ' S' k' => q S' (fin k').1 (fin k').2.1 (fin k').2.2.1)
  cases r with
  | nx ρ' =>
    intro L' δ' S' k'
    obtain ⟨g', e, q⟩ := opt_wp q
    obtain ⟨f1, f2, fa, f3⟩ := fin k'
    obtain ⟨L1, f4, f5⟩ := f3 g' e
    exact dnW.of (q S' L1 f1 f4 f5 f2 fa)
  | rt d ρ' =>
    intro L' δ' S' k'
    obtain ⟨g', e, q⟩ := opt_wp q
    obtain ⟨f1, f2, fa, f3⟩ := fin k'
    obtain ⟨L1, f4, f5⟩ := f3 g' e
    exact dnW.of (q S' L1 f1 f4 f5 f2 fa)
  | _ => exact q.elim
theorem law_of {c : Cf} {m : SM} {f : FS} {N : Nat} {p cc : Addr} {ms : List Int} {z : Int} (h : QS c false m f) (hc : (c.own.contains 1 && c.pr == [1] && c.mu.isEmpty) = true) (ne : p ≠ cc) (hl : ms.length ≤ 63) (h0 : 0 ≤ z) (h1 : z < 2147483629)
    (q : (f (none :: some (.ty "bag") :: List.replicate N none)).wp (fun r => match r with
      | .rt d _ => d = .bl true
      | _ => False) (fun _ => False)) : m lawC (none :: some (.ref p) :: List.replicate N none) (bagS p cc ms z) := by
  simp only [Bool.and_eq_true] at hc
  obtain ⟨⟨c1, c2⟩, c3⟩ := hc
  have c1 : 1 ∈ c.own := by simpa using c1
  have c2 : c.pr = [1] := by simpa using c2
  have c3 : c.mu = [] := List.isEmpty_iff.mp c3
  have hp : bagS p cc ms z p = some (bagC cc 0 0 z 0) := upS_same
  have hcc : bagS p cc ms z cc = some (bagI ms) := by
    unfold bagS
    rw [upS_ne (Ne.symm ne), upS_same]
  have hb : BagOk (bagS p cc ms z) p cc := ⟨ms, 0, 0, z, 0, hp, hcc, ne, hl, by decide, by decide, h0, h1⟩
  have nr : ∀ i d, (none :: some (D.ty "bag") :: List.replicate N none : Rho)[i]? = some (some d) → i = 1 ∧ d = .ty "bag" := fun i d e => by
    match i with
    | 0 => simp at e
    | 1 => simp at e; exact ⟨rfl, e.symm⟩
    | i + 2 =>
      exfalso
      have e : (List.replicate N (none : Option D))[i]? = some (some d) := by simpa using e
      obtain ⟨a, b⟩ := List.getElem?_eq_some_iff.mp e
      rw [List.getElem_replicate] at b
      cases b
  refine h ⟨fun b => b ∈ [p, cc], bagS p cc ms z, none :: some (.ref p) :: List.replicate N none, none :: some (.ty "bag") :: List.replicate N none, fun i => if i = 1 then [p, cc] else [], fun i => if i = 1 then [p, cc] else []⟩ _ _ _ lawC ⟨fun b => b ∈ [p, cc], by simp, fun i d hd ho => ?_, fun i d hd ho => ?_, fun i d w hd ho hw => ?_, fun i b hb' => ?_, fun i j b nij hb' hc' => ?_, fun b hb => hb, fun b hb' => ?_, fun b hb' => ?_, fun b hb => .inl hb, fun b x _ h => h, fun i _ => rfl, fun i _ => rfl, fun i _ => rfl, fun i b hi => ?_, fun i b g1 g2 hb' => ?_⟩ (q.imp (fun r q => ?_) fun e z => z.elim)
  · obtain ⟨rfl, rfl⟩ := nr i d hd
    exact absurd c1 ho
  · obtain ⟨rfl, rfl⟩ := nr i d hd
    exact ⟨_, rfl, by show Ow _ _ _ (if 1 = 1 then [p, cc] else []); rw [if_pos rfl]; exact .bag hb⟩
  · obtain ⟨rfl, rfl⟩ := nr i d hd
    have e : (some (some (W.ref p)) : Option (Option W)) = some (some w) := hw
    cases e
    exact fun _ => ⟨p, rfl⟩
  · have hb' : b ∈ (if i = 1 then [p, cc] else []) := hb'
    by_cases e : i = 1
    · rw [if_pos e] at hb'; exact hb'
    · rw [if_neg e] at hb'; cases hb'
  · have hb' : b ∈ (if i = 1 then [p, cc] else []) := hb'
    have hc' : b ∈ (if j = 1 then [p, cc] else []) := hc'
    by_cases e : i = 1
    · by_cases e' : j = 1
      · exact nij (e.trans e'.symm)
      · rw [if_neg e'] at hc'; cases hc'
    · rw [if_neg e] at hb'; cases hb'
  · rcases List.mem_cons.mp hb' with rfl | hb'
    · show bagS _ _ _ _ _ ≠ none; rw [hp]; simp
    · rw [List.mem_singleton.mp hb']; show bagS _ _ _ _ _ ≠ none; rw [hcc]; simp
  · rcases List.mem_cons.mp hb' with rfl | hb'
    · rw [hp]; simp
    · rw [List.mem_singleton.mp hb', hcc]; simp
  · rw [c3] at hi; cases hi
  · have e : i ≠ 1 := fun e => g1 (by rw [c2, e]; simp)
    have hb' : b ∈ (if i = 1 then [p, cc] else []) := hb'
    rw [if_neg e] at hb'
    cases hb'
  · cases r with
    | rt d ρ' => exact fun L' δ' S' k' => by rw [show d = .bl true from q]; rfl
    | _ => exact q.elim
def fPull : DF := fun ds => match ds with
  | [.ty _, .int n] => .dr n fun d => .ok (.int d)
  | _ => .no
theorem qf_pull {sp : DSp} (h : ∀ {p c : Addr} {many : Int} {S : Store} {P : W → Store → Prop} {X : XP}, BagOk S p c → 1 ≤ many → many < 2 ^ 64 → (∀ d cell, 0 ≤ d → d < many → BagOk (upS S p cell) p c → P (.d (.int d)) (upS S p cell)) → sp [.ref p, .d (.int many)] S P X) : QF [true, false] sp fPull := fun ws ds S Ls P X ow q => by
  cases ow with
  | ow h1 h2 h3 hc =>
    cases h2 with
    | tr e h4 =>
      cases h4
      rename_i w d L
      unfold fPull at q
      split at q
      · rename_i ds0 t n e0
        simp only [List.cons.injEq, and_true] at e0
        obtain ⟨rfl, rfl⟩ := e0
        cases h1 with
        | d =>
          obtain ⟨a, z⟩ := hc rfl
          cases z
        | bag hb =>
          rename_i p c
          obtain ⟨⟨q1, q2⟩, q3⟩ := q
          refine h hb q1 q2 fun d cell d0 d1 hb2 => q3 d d0 d1 _ (fun b x hn hx => ?_) (.ow (.bag hb2) (.tr _ .nil) (fun b hb L' hL' => by simp at hL'; subst hL'; simp) hc)
          have nb : b ≠ p := fun z => hn [p, c] (by simp) (by simp [z])
          rw [upS_ne nb]
          exact hx
      · exact q.elim
end
end DX

set_option Elab.async false
set_option linter.all false
set_option maxRecDepth 100000
namespace DX
open PySem L2
noncomputable section
section
variable {c : Cf} {B : Bs} {ρ ρ' : Rho} {δ δ' : Slots} {S S' : Store} {os : List (Option Nat)} {ws : List W} {ds : List D} {m ma mb mo mi : EM} {f fa fb fo fi : FE} {mr mk : AM} {fr fk : FAs} {t u : TM} {ft fu : FT} {o : Bool}
def QAT (c : Cf) (m : AM) (f : FAs) : Prop := ∀ B ρ δ S P X, Em c B ρ δ S → (f ρ).wp (fun ds => ∀ S', Em c B ρ δ S' → P (ds.map .d) S') (fun e => ∀ S', Em c B ρ δ S' → X e.w S') → m δ S P X
theorem qat_nil : QAT c aNil fNil := fun B ρ δ S P X k q => q S k
theorem qat_cons (ha : QE c ma fa) (hr : QAT c mr fr) : QAT c (aCons ma mr) (fCons fa fr) := fun B ρ δ S P X k q => by
  unfold fCons at q
  rw [Dr.wp_bind] at q
  refine ha B ρ δ S _ X k (q.imp (fun a q S1 k1 => ?_) fun e z => z)
  rw [Dr.wp_bind] at q
  exact hr B ρ δ S1 _ X k1 (q.imp (fun r q S2 k2 => q S2 k2) fun e z => z)
def fStarA (fa : FE) (fr : FAs) : FAs := fun ρ => (fa ρ).bind fun a => opt (seqD a) fun us => (fr ρ).bind fun r => .ok (us ++ r)
theorem qat_star (ha : QE c ma fa) (hr : QAT c mr fr) : QAT c (aStar ma mr) (fStarA fa fr) := fun B ρ δ S P X k q => by
  unfold fStarA at q
  rw [Dr.wp_bind] at q
  refine ha B ρ δ S _ X k (q.imp (fun a q S1 k1 => ?_) fun e z => z)
  obtain ⟨us, e, q⟩ := opt_wp q
  rw [(Ow.d (S := S1) a).seq e]
  rw [Dr.wp_bind] at q
  refine hr B ρ δ S1 _ X k1 (q.imp (fun r q S2 k2 => ?_) fun e z => z)
  rw [ofCat]
  exact q S2 k2
theorem qe_lstT (hr : QAT c mr fr) : QE c (mLst false mr) (fLst fr) := fun B ρ δ S P X k q => by
  unfold fLst at q
  rw [Dr.wp_bind] at q
  refine hr B ρ δ S _ X k (q.imp (fun ds q S1 k1 => ?_) fun e z => z)
  obtain ⟨l, q⟩ := must_wp q
  exact ⟨by rw [List.length_map]; exact l, newLC_f (q S1 k1)⟩
abbrev FAr := Rho → Dr (List D × Rho)
def QAR (c : Cf) (m : AM) (f : FAr) : Prop := ∀ B ρ δ S P X, Em c B ρ δ S → (f ρ).wp (fun r => ∀ L' S', Em c (B.at L') r.2 δ S' → P (r.1.map .d) S') (fun e => ∀ L' ρ' S', Em c (B.at L') ρ' δ S' → X e.w S') → m δ S P X
def frNil : FAr := fun ρ => .ok ([], ρ)
def frCons (f : FE) (g : FAr) : FAr := fun ρ => (f ρ).bind fun d => (g ρ).bind fun r => .ok (d :: r.1, r.2)
def frFrz (i : Nat) (g : FAr) : FAr := fun ρ => opt (getR ρ i) fun d => must (frzOk d = true) ((g (ρ.set i none)).bind fun r => .ok (d :: r.1, r.2))
theorem qar_nil : QAR c aNil frNil := fun B ρ δ S P X k q => q B.L S k
theorem qar_cons {g : FAr} (h : QE c m f) (hr : QAR c mr g) : QAR c (aCons m mr) (frCons f g) := fun B ρ δ S P X k q => by
  unfold frCons at q
  rw [Dr.wp_bind] at q
  refine h B ρ δ S _ X k (q.imp (fun d q S1 k1 => ?_) fun e z => z B.L ρ)
  rw [Dr.wp_bind] at q
  exact hr B ρ δ S1 _ X k1 (q.imp (fun r q L' S2 k2 => q L' S2 k2) fun e z => z)
theorem frz_gone {i : Nat} {d : D} (k0 : Em c B ρ δ S) (ed : getR ρ i = some d) (hz : frzOk d = true) (h1 : i ∈ c.own) (h2 : i ∉ c.pr) (h3 : i ∉ c.mu) : ∃ w S2, δ[i]? = some (some w) ∧ frzW 4 S w = some (d, S2) ∧ ∃ L', Em c (B.at L') (ρ.set i none) δ S2 := by
  have k0' := k0
  obtain ⟨A, k⟩ := k0
  obtain ⟨w, ew, hw⟩ := k.ow i d (getR_at ed) h1
  have gone : ∀ a, B.L i = [a] → ∃ L', Em c (B.at L') (ρ.set i none) δ (erS S a) := fun a e => by
    have hf : ∀ b, b ∈ B.L i → B.S0 b = none := fun b hb => k.fresh i b h2 h3 hb
    refine ⟨_, _, (k.out h2 h3 (fun b hb => ?_) fun b x g1 g2 => ?_).at_⟩
    · have nb : b ≠ a := fun z => hb (by rw [e, z]; simp)
      exact erS_ne nb
    · have nb : b ≠ a := fun z => by
        rw [hf b (by rw [e, z]; simp)] at g2
        cases g2
      rw [erS_ne nb]
      exact k.fr b x g1 g2
  refine ⟨w, ?_⟩
  generalize hL : B.L i = Li at hw
  cases hw with
  | d => exact ⟨S, ew, rfl, B.L, k0'.forget h2⟩
  | @lst a ds ha => exact ⟨_, ew, by simp only [frzW, ha, frzs_d, Option.map_some], gone a hL⟩
  | dct ha => cases hz
  | @obj a Cl fs gs L' ha hf nn =>
    have fl : (gs.all fun p => !cellF p.1) = true := hz
    obtain ⟨e1, e2⟩ := hf.flat fl
    subst e1 e2
    exact ⟨_, ew, by simp only [frzW, ha, frzf_d, Option.map_some], gone a hL⟩
  | bag h => cases hz
theorem qar_frz {i : Nat} {g : FAr} (hr : QAR c mr g) (h1 : i ∈ c.own := by decide) (h2 : i ∉ c.pr := by decide) (h3 : i ∉ c.mu := by decide) : QAR c (aCons (mFrz (mVar i)) mr) (frFrz i g) := fun B ρ δ S P X k q => by
  obtain ⟨d, ed, q⟩ := opt_wp q
  obtain ⟨hz, q⟩ := must_wp q
  obtain ⟨w, S2, ew, ef, L2, k2⟩ := frz_gone k ed hz h1 h2 h3
  show (match δ[i]? with | some (some w) => _ | _ => False)
  rw [ew]
  dsimp only
  rw [ef]
  rw [Dr.wp_bind] at q
  exact hr (B.at L2) _ δ S2 _ X k2 (q.imp (fun r q L' S3 k3 => q L' S3 k3) fun e z => z)
def fRetL (g : FAr) : FS := fun ρ => (g ρ).bind fun r => must (r.1.length ≤ 1000) (.ok (.rt (.lst r.1) r.2))
def fRetT (g : FAr) : FS := fun ρ => (g ρ).bind fun r => must (r.1.length ≤ 1000) (.ok (.rt (.tup r.1) r.2))
theorem qs_retL {g : FAr} (h : QAR c mr g) : QS c false (mRet (mLst false mr)) (fRetL g) := fun B ρ δ S C k q => by
  unfold fRetL at q
  rw [Dr.wp_bind] at q
  refine h B ρ δ S _ (XF C δ) k (q.imp (fun r q L1 S1 k1 => ?_) fun e z L' ρ' S' k' => z L' ρ' δ S' k')
  obtain ⟨l, q⟩ := must_wp q
  exact ⟨by rw [List.length_map]; exact l, newLC_f (q L1 δ S1 k1)⟩
def fFrzA (f : FE) : FE := fun ρ => (f ρ).bind fun d => must (frzOk d = true) (.ok d)
theorem qe_frzA (h : QO c m f) : QE c (mFrz m) (fFrzA f) := fun B ρ δ S P X k q => by
  unfold fFrzA at q
  rw [Dr.wp_bind] at q
  refine h B ρ δ S _ X k (q.imp (fun d q S1 w kx => ?_) fun e z => z)
  obtain ⟨hz, q⟩ := must_wp q
  obtain ⟨A, Lr, k1, hw, hr, hc⟩ := kx
  have gone : ∀ a, Lr = [a] → Em c B ρ δ (erS S1 a) := fun a e => by
    have na := (hr a (by rw [e]; simp)).1
    have n0 := (hr a (by rw [e]; simp)).2
    refine ⟨A, ⟨k1.len, k1.tr, fun i d h1 h2 => ?_, k1.ce, k1.inA, k1.dis, k1.a0, k1.a1, fun b hb => ?_, k1.new, fun b x h1 h2 => ?_, k1.prd, k1.prr, k1.prl, k1.mul, k1.fresh⟩⟩
    · obtain ⟨w, e, hw⟩ := k1.ow i d h1 h2
      exact ⟨w, e, hw.fr fun b hb => by
        have nb : b ≠ a := fun z => na (z ▸ k1.inA i b hb)
        exact erS_ne nb⟩
    · have nb : b ≠ a := fun z => na (z ▸ hb)
      rw [erS_ne nb]
      exact k1.al b hb
    · rw [erS_ne (fun z => by rw [z, n0] at h2; cases h2)]
      exact k1.fr b x h1 h2
  generalize hL : Lr = Li at hw
  cases hw with
  | d => exact q S1 ⟨A, k1⟩
  | @lst a ds ha =>
    have e : frzW 4 S1 (.ref a) = some (.lst ds, erS S1 a) := by simp only [frzW, ha, frzs_d, Option.map_some]
    rw [e]
    exact q _ (gone a hL)
  | dct ha => cases hz
  | @obj a Cl fs gs L' ha hf nn =>
    have fl : (gs.all fun p => !cellF p.1) = true := hz
    obtain ⟨e1, e2⟩ := hf.flat fl
    subst e1 e2
    have e : frzW 4 S1 (.ref a) = some (.ins Cl gs, erS S1 a) := by simp only [frzW, ha, frzf_d, Option.map_some]
    rw [e]
    exact q _ (gone a hL)
  | bag h => cases hz
def foInG (nm : String) (rows : List (Str × Int)) (g : Bool → Bool) : F2
  | .str z, .cls c => ite_ (c = nm) (some (.bl (g (rows.lookup z).isSome)))
  | _, _ => none
def foIxG (nm : String) (rows : List (Str × Int)) : F2
  | .cls c, .str z => ite_ (c = nm) ((rows.lookup z).map .int)
  | _, _ => none
theorem qf_reO {n j : Nat} {sp : DSp} {F : DF} {g : List W → List W} {gd : List D → List D} (hF : QFO (List.replicate n false) sp F) (hg : ∀ ds, ds.length = j → g (ds.map .d) = (gd ds).map .d ∧ (gd ds).length = n) : QFO (List.replicate j false) (fun ws => sp (g ws)) (fun ds => F (gd ds)) := fun ws ds S Ls P X h q => by
  have e := h.allT
  have l := h.lens
  subst e
  have hl : ds.length = j := by rw [← l.2.1, ← l.1]; simp
  obtain ⟨g1, g2⟩ := hg ds hl
  show sp (g (ds.map .d)) S P X
  rw [g1]
  exact hF _ _ S _ P X (.trees g2) (q.imp (fun d q S' w Lr f o hw hr hc => q S' w Lr (fun b x h1 h2 => f.trees b x h2) (h.keep f.trees) hw hr hc) fun e q S' f o => q S' (fun b x h1 h2 => f.trees b x h2) (h.keep f.trees))
end
end
end DX

set_option Elab.async false
set_option linter.all false
set_option maxRecDepth 100000
namespace DX
open PySem L2
noncomputable section
section
variable {c : Cf} {B : Bs} {ρ ρ' : Rho} {δ δ' : Slots} {S S' : Store} {A : Addr → Prop} {L : Nat → List Addr} {os : List (Option Nat)} {ws : List W} {ds : List D} {m ma mb mo mi : EM} {f fa fb fo fi : FE} {mr mk : AM} {fr fk : FAs} {t u : TM} {ft fu : FT} {o : Bool} {name : String} {w : W} {d v : D}
theorem EmC.onto2 (k : EmC c B ρ δ S A L) (hB : ∀ b x, ¬ B.A0 b → B.S0 b = some x → S' b = some x) (hal : ∀ b, A b → S' b ≠ none) (how : ∀ i d w, ρ[i]? = some (some d) → i ∈ c.own → δ[i]? = some (some w) → Ow S w d (L i) → Ow S' w d (L i)) : EmC c B ρ δ S' A L := by
  refine ⟨k.len, k.tr, fun i d h1 h2 => ?_, k.ce, k.inA, k.dis, k.a0, k.a1, hal, k.new, hB, k.prd, k.prr, k.prl, k.mul, k.fresh⟩
  obtain ⟨w, e, h⟩ := k.ow i d h1 h2
  exact ⟨w, e, how i d w h1 h2 e h⟩
def Bs.pin (B : Bs) (S : Store) (Lr : List Addr) : Bs := { B with S0 := fun b => if b ∈ Lr then S b else B.S0 b }
theorem EmC.pin {Lr : List Addr} (k : EmC c B ρ δ S A L) (hw : Ow S w d Lr) (hr : ∀ b ∈ Lr, ¬ A b ∧ B.S0 b = none) : EmC c (B.pin S Lr) ρ δ S A L := by
  have e1 : ∀ b, b ∈ Lr → (B.pin S Lr).S0 b = S b := fun b hb => if_pos hb
  have e2 : ∀ b, b ∉ Lr → (B.pin S Lr).S0 b = B.S0 b := fun b hb => if_neg hb
  have na : ∀ b, A b → b ∉ Lr := fun b ha hb => (hr b hb).1 ha
  refine ⟨k.len, k.tr, k.ow, k.ce, k.inA, k.dis, k.a0, fun b hb => ?_, k.al, fun b hb => ?_, fun b x h1 h2 => ?_, k.prd, k.prr, k.prl, fun i b h1 h2 => ?_, fun i b h1 h2 h3 => ?_⟩
  · rw [e2 b (na b (k.a0 b hb))]; exact k.a1 b hb
  · rw [e2 b (na b hb)]; exact k.new b hb
  · by_cases z : b ∈ Lr
    · rw [e1 b z] at h2; exact h2
    · rw [e2 b z] at h2; exact k.fr b x h1 h2
  · rw [e2 b (na b (k.inA i b h2))]; exact k.mul i b h1 h2
  · rw [e2 b (na b (k.inA i b h3))]; exact k.fresh i b h1 h2 h3
theorem EmC.unpin {Lr : List Addr} {ρ2 : Rho} {δ2 : Slots} {A2 : Addr → Prop} {L2 : Nat → List Addr} (k : EmC c B ρ δ S A L) (hw : Ow S w d Lr) (hr : ∀ b ∈ Lr, ¬ A b ∧ B.S0 b = none) (k2 : EmC c (B.pin S Lr) ρ2 δ2 S' A2 L2) : EmC c B ρ2 δ2 S' A2 L2 ∧ Ow S' w d Lr ∧ ∀ b ∈ Lr, ¬ A2 b ∧ B.S0 b = none := by
  have e1 : ∀ b, b ∈ Lr → (B.pin S Lr).S0 b = S b := fun b hb => if_pos hb
  have e2 : ∀ b, b ∉ Lr → (B.pin S Lr).S0 b = B.S0 b := fun b hb => if_neg hb
  have na : ∀ b ∈ Lr, ¬ A2 b := fun b hb ha => by
    rcases k2.new b ha with z | z
    · exact (hr b hb).1 (k.a0 b z)
    · rw [e1 b hb] at z; exact hw.al b hb z
  have le : ∀ b, A2 b → (B.pin S Lr).S0 b = B.S0 b := fun b ha => e2 b fun hb => na b hb ha
  have l0 : ∀ b, B.S0 b = none ∨ (B.pin S Lr).S0 b = B.S0 b := fun b => by
    by_cases z : b ∈ Lr
    · exact .inl (hr b z).2
    · exact .inr (e2 b z)
  refine ⟨⟨k2.len, k2.tr, k2.ow, k2.ce, k2.inA, k2.dis, k2.a0, fun b hb => ?_, k2.al, fun b hb => ?_, fun b x h1 h2 => ?_, k2.prd, k2.prr, k2.prl, fun i b h1 h2 => ?_, fun i b h1 h2 h3 => ?_⟩, hw.frS fun b x hb e => ?_, fun b hb => ⟨na b hb, (hr b hb).2⟩⟩
  · rw [← le b (k2.a0 b hb)]; exact k2.a1 b hb
  · rw [← le b hb]; exact k2.new b hb
  · refine k2.fr b x h1 ?_
    rcases l0 b with z | z
    · rw [z] at h2; cases h2
    · rw [z]; exact h2
  · rw [← le b (k2.inA i b h2)]; exact k2.mul i b h1 h2
  · rw [← le b (k2.inA i b h3)]; exact k2.fresh i b h1 h2 h3
  · exact k2.fr b x (fun z => (hr b hb).1 (k.a0 b z)) (by rw [e1 b hb]; exact e)
theorem EmX.hold {P : W → Store → Prop} {X : XP} {w : W} {d : D} (kx : EmX c B ρ δ S w d) (h : QE c m f) (q : (f ρ).wp (fun e => ∀ S', EmX c B ρ δ S' w d → P (.d e) S') (fun e => ∀ S', Em c B ρ δ S' → X e.w S')) : m δ S P X := by
  obtain ⟨A, Lr, k, hw, hr, hc⟩ := kx
  refine h (B.pin S Lr) ρ δ S P X ⟨A, k.pin hw hr⟩ (q.imp (fun e q S' k' => ?_) fun e q S' k' => ?_)
  · obtain ⟨A2, k'⟩ := k'
    obtain ⟨k2, h2, h3⟩ := k.unpin hw hr k'
    exact q S' ⟨A2, Lr, k2, h2, h3, hc⟩
  · obtain ⟨A2, k'⟩ := k'
    obtain ⟨k2, h2, h3⟩ := k.unpin hw hr k'
    exact q S' ⟨A2, k2⟩

theorem Owf.get {fs : List (String × W)} {gs : List (String × D)} {L : List Addr} {f : String} {v : D} (h : Owf S fs gs L) (e : gs.lookup f = some v) : ∃ w Lf, fs.lookup f = some w ∧ Ow S w v Lf ∧ (∀ b ∈ Lf, b ∈ L) ∧ (cellF f = false → w = .d v) ∧ (cellF f = true → cel w v) := by
  match h with
  | .nil => cases e
  | .cons (f := g) (L := L1) (L' := L2) h r n z y =>
    rw [List.lookup_cons] at e
    by_cases q : (f == g) = true
    · rw [q] at e
      cases e
      have q2 : f = g := by simpa using q
      subst q2
      exact ⟨_, L1, by rw [List.lookup_cons, q], h, fun b hb => List.mem_append_left _ hb, z, y⟩
    · have q : (f == g) = false := by simpa using q
      rw [q] at e
      obtain ⟨w, Lf, h1, h2, h3, h4⟩ := r.get e
      exact ⟨w, Lf, by rw [List.lookup_cons, q]; exact h1, h2, fun b hb => List.mem_append_right _ (h3 b hb), h4⟩
theorem Em.ownO {i : Nat} {C : String} {gs : List (String × D)} (k : Em c B ρ δ S) (er : getR ρ i = some (.ins C gs)) (h1 : i ∈ c.own) : ∃ a fs L1, δ[i]? = some (some (.ref a)) ∧ S a = some (.obj C fs) ∧ Owf S fs gs L1 ∧ a ∉ L1 ∧ B.L i = a :: L1 := by
  obtain ⟨A, k⟩ := k
  obtain ⟨w, e, hw⟩ := k.ow i _ (getR_at er) h1
  obtain ⟨a, rfl⟩ := k.ce i _ w (getR_at er) h1 e rfl
  generalize hL : B.L i = Li at hw
  cases hw with
  | obj ha hf nn => exact ⟨a, _, _, e, ha, hf, nn, rfl⟩
mutual
theorem Ow.uniq {T : Store} : ∀ {w w' : W} {d : D} {L L' : List Addr}, Ow S w d L → Ow T w' d L' → cel w d → cel w' d → L.length = L'.length ∧ (L = L' → w = w')
  | _, w', _, _, L', .d x, h, c1, c2 => by
    by_cases z : cellLike x = true
    · obtain ⟨a, e⟩ := c1 z
      cases e
    · cases h with
      | d => exact ⟨rfl, fun _ => rfl⟩
      | _ => exact absurd rfl z
  | _, w', _, _, L', .lst h0, h, c1, c2 => by
    obtain ⟨a, rfl⟩ := c2 rfl
    cases h with
    | lst h1 => exact ⟨rfl, fun e => by cases e; rfl⟩
  | _, w', _, _, L', .dct h0, h, c1, c2 => by
    obtain ⟨a, rfl⟩ := c2 rfl
    cases h with
    | dct h1 => exact ⟨rfl, fun e => by cases e; rfl⟩
  | _, w', _, _, L', .bag h0, h, c1, c2 => by
    obtain ⟨a, rfl⟩ := c2 rfl
    cases h with
    | bag h1 => exact ⟨rfl, fun e => by cases e; rfl⟩
  | _, w', _, _, L', .obj h0 r n, h, c1, c2 => by
    obtain ⟨a, rfl⟩ := c2 rfl
    cases h with
    | obj h1 r1 n1 => exact ⟨congrArg (· + 1) (Owf.uniq r r1).1, fun e => by injection e with e1 e2; rw [e1]⟩
theorem Owf.uniq {T : Store} : ∀ {fs fs' : List (String × W)} {gs : List (String × D)} {L L' : List Addr}, Owf S fs gs L → Owf T fs' gs L' → L.length = L'.length ∧ (L = L' → fs = fs')
  | _, _, _, _, _, .nil, h => by cases h; exact ⟨rfl, fun _ => rfl⟩
  | _, fs', _, _, L', .cons (f := g) h r n z y, h' => by
    cases h' with
    | cons h1 r1 n1 z1 y1 =>
      obtain ⟨b1, b2⟩ := Owf.uniq r r1
      by_cases q : cellF g = true
      · obtain ⟨a1, a2⟩ := Ow.uniq h h1 (y q) (y1 q)
        refine ⟨by rw [List.length_append, List.length_append, a1, b1], fun e => ?_⟩
        obtain ⟨e1, e2⟩ := List.append_inj e a1
        rw [a2 e1, b2 e2]
      · have q : cellF g = false := by simpa using q
        have e1 := z q
        have e2 := z1 q
        subst e1 e2
        cases h
        cases h1
        exact ⟨by simpa using b1, fun e => by rw [b2 (by simpa using e)]⟩
end
def fFldR (C : String) (f : String) (i : Nat) : FE := fun ρ => opt (getR ρ i) fun o => match o with
  | .ins C' gs => must (C' = C) (opt (gs.lookup f) .ok)
  | _ => .no
theorem Em.fld {C : String} {i : Nat} {f : String} {gs : List (String × D)} {d : D} (k : Em c B ρ δ S) (hi : i ∈ c.own) (er : getR ρ i = some (.ins C gs)) (ed : gs.lookup f = some d) : ∃ w a fs, δ[i]? = some (some (.ref a)) ∧ S a = some (.obj C fs) ∧ fs.lookup f = some w ∧ (cellF f = true → cel w d) ∧ ∀ T, Em c B ρ δ T → ∃ Lf, Ow T w d Lf := by
  obtain ⟨a, fs, L1, ea, ha, hf, nn, hL⟩ := k.ownO er hi
  obtain ⟨w, Lf, h1, h2, h3, h4, h5⟩ := hf.get ed
  refine ⟨w, a, fs, ea, ha, h1, h5, fun T kT => ?_⟩
  obtain ⟨a', fs', L1', ea', ha', hf', nn', hL'⟩ := kT.ownO er hi
  rw [hL] at hL'
  injection hL' with e1 e2
  subst e1 e2
  have e := (hf.uniq hf').2 rfl
  subst e
  obtain ⟨w', Lf', g1, g2, _⟩ := hf'.get ed
  rw [h1] at g1
  cases g1
  exact ⟨Lf', g2⟩
end
end
end DX

set_option Elab.async false
set_option linter.all false
set_option maxRecDepth 100000
namespace DX
open PySem L2
noncomputable section
section
variable {c : Cf} {B : Bs} {ρ ρ' : Rho} {δ δ' : Slots} {S S' : Store} {A : Addr → Prop} {L : Nat → List Addr} {os : List (Option Nat)} {ws : List W} {ds : List D} {m ma mb mo mi : EM} {f fa fb fo fi : FE} {mr mk : AM} {fr fk : FAs} {t u : TM} {ft fu : FT} {o : Bool} {name : String} {w : W} {d v : D}
theorem EmC.remake {i : Nat} {g' : D} {L1 : List Addr} (k : EmC c B ρ δ S A B.L) (hi : i ∈ c.own) (hp : i ∉ c.pr) (ew : δ[i]? = some (some w)) (hw : Ow S' w g' L1) (hc : cel w g') (hn : ∀ b ∈ L1, b ∈ B.L i ∨ (¬ A b ∧ B.S0 b = none)) (al : ∀ b ∈ B.L i, S' b ≠ none)
    (hb : ∀ b x, ¬ B.A0 b → B.S0 b = some x → S' b = some x) (ha : ∀ b, A b → S' b ≠ none) (ho : ∀ j d w, j ≠ i → ρ[j]? = some (some d) → j ∈ c.own → δ[j]? = some (some w) → Ow S w d (B.L j) → Ow S' w d (B.L j)) : Em c (B.at fun j => if j = i then L1 else B.L j) (ρ.set i (some g')) δ S' := by
  refine ⟨fun b => A b ∨ b ∈ L1, EmC.at_ (B := B) ?_⟩
  show EmC c B (ρ.set i (some g')) δ S' (fun b => A b ∨ b ∈ L1) (fun j => if j = i then L1 else B.L j)
  have fresh : ∀ b ∈ L1, b ∉ B.L i → ¬ A b ∧ B.S0 b = none := fun b hb' h => (hn b hb').elim (fun z => absurd z h) fun z => z
  refine ⟨by simpa using k.len, fun j e hj hjo => ?_, fun j e hj hjo => ?_, fun j e u hj hjo hu => ?_, fun j b hb' => ?_, fun j l b ne hb' hc' => ?_, fun b hb' => .inl (k.a0 b hb'), k.a1, fun b hb' => ?_, fun b hb' => ?_, hb, k.prd, fun j hj => ?_, fun j hj => ?_, fun j b hj hb' => ?_, fun j b p q hb' => ?_⟩
  · have z : i ≠ j := fun z => hjo (z ▸ hi)
    rw [List.getElem?_set_ne z] at hj
    exact k.tr j e hj hjo
  · by_cases z : i = j
    · subst z
      have hl := (List.getElem?_eq_some_iff.mp hj).1
      rw [List.length_set] at hl
      rw [List.getElem?_set_self hl] at hj
      cases hj
      rw [if_pos rfl]
      exact ⟨w, ew, hw⟩
    · rw [List.getElem?_set_ne z] at hj
      rw [if_neg (Ne.symm z)]
      obtain ⟨u, e1, e2⟩ := k.ow j e hj hjo
      exact ⟨u, e1, ho j e u (Ne.symm z) hj hjo e1 e2⟩
  · by_cases z : i = j
    · subst z
      have hl := (List.getElem?_eq_some_iff.mp hj).1
      rw [List.length_set] at hl
      rw [List.getElem?_set_self hl] at hj
      cases hj
      rw [ew] at hu
      cases hu
      exact hc
    · rw [List.getElem?_set_ne z] at hj
      exact k.ce j e u hj hjo hu
  · by_cases z : j = i
    · rw [if_pos z] at hb'; exact .inr hb'
    · rw [if_neg z] at hb'; exact .inl (k.inA j b hb')
  · by_cases z : j = i
    · rw [if_pos z] at hb'
      rw [if_neg (fun y => ne (z.trans y.symm))] at hc'
      by_cases y : b ∈ B.L i
      · exact k.dis j l b ne (z ▸ y) hc'
      · exact (fresh b hb' y).1 (k.inA l b hc')
    · rw [if_neg z] at hb'
      by_cases y : l = i
      · rw [if_pos y] at hc'
        by_cases x : b ∈ B.L i
        · exact k.dis j l b ne hb' (y ▸ x)
        · exact (fresh b hc' x).1 (k.inA j b hb')
      · rw [if_neg y] at hc'
        exact k.dis j l b ne hb' hc'
  · rcases hb' with hb' | hb'
    · exact ha b hb'
    · exact hw.al b hb'
  · rcases hb' with hb' | hb'
    · exact k.new b hb'
    · by_cases y : b ∈ B.L i
      · exact k.new b (k.inA i b y)
      · exact .inr (fresh b hb' y).2
  · have z : i ≠ j := fun z => hp (z ▸ hj)
    rw [List.getElem?_set_ne z]
    exact k.prr j hj
  · have z : ¬ j = i := fun z => hp (z ▸ hj)
    rw [if_neg z]; exact k.prl j hj
  · by_cases z : j = i
    · rw [if_pos z] at hb'
      by_cases y : b ∈ B.L i
      · exact k.mul j b hj (z ▸ y)
      · exact .inr (fresh b hb' y).2
    · rw [if_neg z] at hb'; exact k.mul j b hj hb'
  · by_cases z : j = i
    · rw [if_pos z] at hb'
      by_cases y : b ∈ B.L i
      · exact k.fresh j b p q (z ▸ y)
      · exact (fresh b hb' y).2
    · rw [if_neg z] at hb'; exact k.fresh j b p q hb'
def methM (name : String) (tb : List (String × MF)) (o : D) (k : MF → Dr Fl) : Dr Fl := match o with
  | .ins C fs => must ((fs.lookup name).isNone = true) (opt (tb.lookup C) k)
  | _ => .no
def fMut (name : String) (tb : List (String × MF)) (i : Nat) (fr : FAs) : FS := fun ρ => opt (getR ρ i) fun o => methM name tb o fun F => (fr ρ).bind fun ds => (F (o :: ds)).bind fun r => .ok (.nx (ρ.set i (some r.2)))
def fMutS (name : String) (n : Nat) (tb : List (String × MF)) (i : Nat) (fa : FE) : FS := fun ρ => opt (getR ρ i) fun o => methM name tb o fun F => (fa ρ).bind fun d => opt (seqD d) fun ds => must (n ≤ ds.length + 1 ∧ ds.length + 1 ≤ 1000000 ∧ n = 1) ((F [o, .tup ds]).bind fun r => .ok (.nx (ρ.set i (some r.2))))
theorem Owf.putO {f : String} {w : W} {d : D} {Lr : List Addr} {fs : List (String × W)} {gs : List (String × D)} {L : List Addr} (hw : Ow S w d Lr) (h1 : cellF f = false → w = .d d) (h2 : cellF f = true → cel w d) (h : Owf S fs gs L) (hd : ∀ b ∈ Lr, b ∉ L) : ∃ L', Owf S (putW f w fs) (putD f d gs) L' ∧ ∀ b ∈ L', b ∈ L ∨ b ∈ Lr := by
  match h with
  | .nil => exact ⟨Lr ++ [], .cons hw .nil (fun b _ hb => by cases hb) h1 h2, fun b hb => .inr (by simpa using hb)⟩
  | .cons (f := g) (L := L1) (L' := L2) h r n z y =>
    unfold putW putD
    by_cases e : g = f
    · rw [if_pos e, if_pos e]
      refine ⟨Lr ++ L2, by rw [e]; exact .cons hw r (fun b hb hc => hd b hb (List.mem_append_right _ hc)) h1 h2, fun b hb => ?_⟩
      rcases List.mem_append.mp hb with hb | hb
      · exact .inr hb
      · exact .inl (List.mem_append_right _ hb)
    · rw [if_neg e, if_neg e]
      obtain ⟨L', g1, g2⟩ := Owf.putO hw h1 h2 r fun b hb hc => hd b hb (List.mem_append_right _ hc)
      refine ⟨L1 ++ L', .cons h g1 (fun b hb hc => ?_) z y, fun b hb => ?_⟩
      · rcases g2 b hc with q | q
        · exact n b hb q
        · exact hd b q (List.mem_append_left _ hb)
      · rcases List.mem_append.mp hb with hb | hb
        · exact .inl (List.mem_append_left _ hb)
        · exact (g2 b hb).imp (fun q => List.mem_append_right _ q) id
theorem EmC.fld {Lr : List Addr} {f : String} {i : Nat} {Cl : String} {gs : List (String × D)} {a : Addr} {fs : List (String × W)} {L1 : List Addr} (k : EmC c B ρ δ S A B.L) (hw : Ow S w d Lr) (hr : ∀ b ∈ Lr, ¬ A b ∧ B.S0 b = none) (hi : i ∈ c.own) (hp : i ∉ c.pr) (ea : δ[i]? = some (some (.ref a))) (ha : S a = some (.obj Cl fs)) (hf : Owf S fs gs L1) (nn : a ∉ L1) (hL : B.L i = a :: L1) (h1 : cellF f = false → w = .d d) (h2 : cellF f = true → cel w d) :
    ∃ L', Em c (B.at L') (ρ.set i (some (.ins Cl (putD f d gs)))) δ (upS S a (.obj Cl (putW f w fs))) := by
  have hd : ∀ b ∈ Lr, b ∉ L1 := fun b hb hc => (hr b hb).1 (k.inA i b (by rw [hL]; exact List.mem_cons_of_mem _ hc))
  have Aa : A a := k.inA i a (by rw [hL]; simp)
  obtain ⟨L', g1, g2⟩ := Owf.putO hw h1 h2 hf hd
  have na : ∀ b ∈ L', b ≠ a := fun b hb z => by
    rcases g2 b hb with q | q
    · exact nn (z ▸ q)
    · exact (hr b q).1 (z ▸ Aa)
  have nb : ∀ b, b ≠ a → upS S a (.obj Cl (putW f w fs)) b = S b := fun b h => upS_ne h
  refine ⟨_, k.remake (L1 := a :: L') hi hp ea (.obj upS_same (g1.fr fun b hb => nb b (na b hb)) fun z => na a z rfl) (fun _ => ⟨a, rfl⟩) (fun b hb => ?_) (fun b hb => ?_) (fun b x q1 q2 => ?_) (fun b hb => ?_) fun j e u ne q1 q2 q3 q4 => q4.fr fun b hb => nb b fun z => ?_⟩
  · rcases List.mem_cons.mp hb with rfl | hb
    · exact .inl (by rw [hL]; simp)
    · rcases g2 b hb with q | q
      · exact .inl (by rw [hL]; exact List.mem_cons_of_mem _ q)
      · exact .inr (hr b q)
  · by_cases z : b = a
    · rw [z, upS_same]; simp
    · rw [nb b z]; exact k.al b (k.inA i b hb)
  · have z : b ≠ a := fun z => by
      rcases k.new a Aa with y | y
      · exact q1 (z ▸ y)
      · rw [z, y] at q2; cases q2
    rw [nb b z]; exact k.fr b x q1 q2
  · by_cases z : b = a
    · rw [z, upS_same]; simp
    · rw [nb b z]; exact k.al b hb
  · exact k.dis j i b ne hb (by rw [hL, z]; simp)
theorem EmX.fld {f : String} {i : Nat} {Cl : String} {gs : List (String × D)} {a : Addr} {fs : List (String × W)} {L1 : List Addr} (kx : EmX c B ρ δ S w d) (hi : i ∈ c.own) (hp : i ∉ c.pr) (ea : δ[i]? = some (some (.ref a))) (ha : S a = some (.obj Cl fs)) (hf : Owf S fs gs L1) (nn : a ∉ L1) (hL : B.L i = a :: L1) (h1 : cellF f = false → w = .d d) (h2 : cellF f = true → cel w d) :
    ∃ L', Em c (B.at L') (ρ.set i (some (.ins Cl (putD f d gs)))) δ (upS S a (.obj Cl (putW f w fs))) := by
  obtain ⟨A, Lr, k, hw, hr, hc⟩ := kx
  exact k.fld hw hr hi hp ea ha hf nn hL h1 h2
def fFldO (f : String) (cs : List String) (i : Nat) (fv : FE) : FS := fun ρ => (fv ρ).bind fun v => opt (getR ρ i) fun g => match g with
  | .ins C gs => must (cs.contains C = true ∧ gs.length < 1000 ∧ cellF f = true) (.ok (.nx (ρ.set i (some (.ins C (putD f v gs))))))
  | _ => .no
def putDs (i : Nat) (cs : List String) (f : String) (v : D) (ρ : Rho) (k : Rho → Dr Fl) : Dr Fl := opt (getR ρ i) fun g => match g with
  | .ins C gs => must (cs.contains C = true ∧ gs.length < 1000) (k (ρ.set i (some (.ins C (putD f v gs)))))
  | _ => .no
def fFld2 (f g : String) (cs cs' : List String) (i j : Nat) (fa fb : FE) : FS := fun ρ => (fa ρ).bind fun a => (fb ρ).bind fun b => must (cellF f = false ∧ cellF g = false) (putDs i cs f a ρ fun ρ1 => putDs j cs' g b ρ1 fun ρ2 => .ok (.nx ρ2))
def fFld2OT (f g : String) (cs cs' : List String) (i j : Nat) (fa fb : FE) : FS := fun ρ => (fa ρ).bind fun a => (fb ρ).bind fun b => must (cellF f = true ∧ cellF g = false) (putDs i cs f a ρ fun ρ1 => putDs j cs' g b ρ1 fun ρ2 => .ok (.nx ρ2))
def fFld2TM (f g : String) (cs cs' : List String) (i j : Nat) (fa : FE) (C0 g0 : String) (j0 : Nat) : FS := fun ρ => (fa ρ).bind fun a => (fFldR C0 g0 j0 ρ).bind fun b => must (cellF f = false ∧ cellF g0 = true ∧ cellF g = true) (putDs i cs f a (ρ.set j0 none) fun ρ1 => putDs j cs' g b ρ1 fun ρ2 => .ok (.nx ρ2))
def fFApp (C : String) (f : String) (i : Nat) (fv : FE) : FS := fun ρ => opt (getR ρ i) fun o => match o with
  | .ins C' gs => must (C' = C ∧ cellF f = true) (opt (gs.lookup f) fun l => match l with
    | .lst ds => (fv ρ).bind fun v => must (ds.length < 10000000) (.ok (.nx (ρ.set i (some (.ins C' (putD f (.lst (ds ++ [v])) gs))))))
    | _ => .no)
  | _ => .no
def fFPop (C : String) (f : String) (i : Nat) (g : FG) : FS := fun ρ => opt (getR ρ i) fun o => match o with
  | .ins C' gs => must (C' = C ∧ cellF f = true) (opt (gs.lookup f) fun l => match l with
    | .lst ds => opt ds[ds.length - 1]? fun v => (g v (ρ.set i (some (.ins C' (putD f (.lst ds.dropLast) gs))))).bind fun ρ' => .ok (.nx ρ')
    | _ => .no)
  | _ => .no
end
end
end DX

set_option Elab.async false
set_option linter.all false
set_option maxRecDepth 100000
namespace DX
open PySem L2
noncomputable section
section
variable {c : Cf} {B : Bs} {ρ ρ' : Rho} {δ δ' : Slots} {S S' : Store} {os : List (Option Nat)} {ws : List W} {ds : List D} {mr mk : AM} {fr fk : FAs}
theorem AR.all {T : Store} (h : AR c ρ δ os ws ds) (k : Em c B ρ δ T) : Ows T ws ds := h.ows k
end
end
end DX

set_option Elab.async false
set_option linter.all false
set_option maxRecDepth 100000
namespace DX
open PySem L2
noncomputable section
variable {c : Cf} {mr : AM} {fr : FAs}
def lenF (tf : List (String × DF)) : DF := fun ds => match ds with
  | [.ins C fs] => opt (tf.lookup C) fun F => (F [.ins C fs]).bind fun r => match r with
    | .int i => must (0 ≤ i ∧ i < 2 ^ 62) (.ok (.int i))
    | _ => .no
  | _ => .no
def fLenO (tf : List (String × DF)) (fr : FAs) : FE := fun ρ => (fr ρ).bind fun ds => lenF tf ds
def enumTK : List D → Dr (List D)
  | [.tup a] => .ok (enumD a)
  | _ => .no
def fiEnumT (fr : FAs) : FI := fun ρ => (fr ρ).bind enumTK
theorem r_enumT {fr : FAs} {ρ : Rho} : fiEnumT fr ρ = (fr ρ).bind enumTK := rfl
theorem r_enumTK {a : List D} : enumTK [.tup a] = .ok (enumD a) := rfl
theorem r_lenO {tf : List (String × DF)} {fr : FAs} {ρ : Rho} : fLenO tf fr ρ = (fr ρ).bind fun ds => lenF tf ds := rfl
end
end DX

set_option Elab.async false
set_option linter.all false
set_option maxRecDepth 100000
namespace DX
open PySem L2
noncomputable section
def kChD (o' : F2) (b : D) (fc : FE) (ρ : Rho) : D → Dr D
  | .bl true => (fc ρ).bind fun w => opt (o' b w) .ok
  | .bl false => .ok (.bl false)
  | _ => .no
def blD : D → Dr Bool
  | .bl b => .ok b
  | _ => .no
def intO : D → Dr (Option Int)
  | .int i => .ok (some i)
  | _ => .no
def atK (name : String) (t : Option FAt) (C : String) (fs : List (String × D)) : Dr D := match t with
  | some .fld => opt (fs.lookup name) .ok
  | some (.con d) => must ((fs.lookup name).isNone = true) (.ok d)
  | some (.prp F) => (F [.ins C fs]).calm
  | none => .no
def mkK (r g : D) : Dr D := match r with
  | .non => .ok g
  | _ => .no
def isK (cs : List String) (t : Tg) (b : Bool) : Dr D := match t with
  | .own C => must (C ∈ cs) (.ok (.bl b))
  | _ => .ok (.bl b)
def rng1K : List D → Dr (List D)
  | [.int j] => must (rngOk j = true) (.ok (rngD 0 j.toNat))
  | _ => .no
def rng2K : List D → Dr (List D)
  | [.int i, .int j] => must (rngOk i = true ∧ rngOk j = true) (.ok (rngD i (j - i).toNat))
  | _ => .no
def zipK : List D → Dr (List D)
  | [.lst a, .lst b] => .ok (zipD a b)
  | [.tup a, .tup b] => .ok (zipD a b)
  | _ => .no
def enumK : List D → Dr (List D)
  | [.lst a] => .ok (enumD a)
  | _ => .no
def strK : D → Dr (List D)
  | .str s => .ok (strD s)
  | _ => .no
def seqK (g : FS) : Fl → Dr Fl
  | .nx ρ' => g ρ'
  | r => .ok r
def appK (i : Nat) (f : FE) (ρ : Rho) : D → Dr Fl
  | .lst ds => (f ρ).bind fun d => must (ds.length < 10000000) (.ok (.nx (ρ.set i (some (.lst (ds ++ [d]))))))
  | _ => .no
def setJ (i : Nat) (ρ : Rho) (d : D) (ds : List D) : D → Dr Fl
  | .int n => opt (ixN ds.length n) fun j => .ok (.nx (ρ.set i (some (.lst (ds.set j d)))))
  | _ => .no
def setK (i : Nat) (fi : FE) (ρ : Rho) (d : D) : D → Dr Fl
  | .lst ds => (fi ρ).bind fun y => match y with
    | .int n => opt (ixN ds.length n) fun j => .ok (.nx (ρ.set i (some (.lst (ds.set j d)))))
    | _ => .no
  | _ => .no
def fldK (f : String) (cs : List String) (i : Nat) (ρ : Rho) (v : D) : D → Dr Fl
  | .ins C gs => must (cs.contains C = true ∧ gs.length < 1000 ∧ (cellF f = false ∨ cellLike v = false)) (.ok (.nx (ρ.set i (some (.ins C (putD f v gs))))))
  | _ => .no
def fldOK (f : String) (cs : List String) (i : Nat) (ρ : Rho) (v : D) : D → Dr Fl
  | .ins C gs => must (cs.contains C = true ∧ gs.length < 1000 ∧ cellF f = true) (.ok (.nx (ρ.set i (some (.ins C (putD f v gs))))))
  | _ => .no
def fldRK (C f : String) : D → Dr D
  | .ins C' gs => must (C' = C) (opt (gs.lookup f) .ok)
  | _ => .no
def fappJ (f : String) (i : Nat) (fv : FE) (ρ : Rho) (C' : String) (gs : List (String × D)) : D → Dr Fl
  | .lst ds => (fv ρ).bind fun v => must (ds.length < 10000000) (.ok (.nx (ρ.set i (some (.ins C' (putD f (.lst (ds ++ [v])) gs))))))
  | _ => .no
def fappK (C f : String) (i : Nat) (fv : FE) (ρ : Rho) : D → Dr Fl
  | .ins C' gs => must (C' = C ∧ cellF f = true) (opt (gs.lookup f) fun l => match l with
    | .lst ds => (fv ρ).bind fun v => must (ds.length < 10000000) (.ok (.nx (ρ.set i (some (.ins C' (putD f (.lst (ds ++ [v])) gs))))))
    | _ => .no)
  | _ => .no
def fpopJ (f : String) (i : Nat) (g : FG) (ρ : Rho) (C' : String) (gs : List (String × D)) : D → Dr Fl
  | .lst ds => opt ds[ds.length - 1]? fun v => (g v (ρ.set i (some (.ins C' (putD f (.lst ds.dropLast) gs))))).bind fun ρ' => .ok (.nx ρ')
  | _ => .no
def fpopK (C f : String) (i : Nat) (g : FG) (ρ : Rho) : D → Dr Fl
  | .ins C' gs => must (C' = C ∧ cellF f = true) (opt (gs.lookup f) fun l => match l with
    | .lst ds => opt ds[ds.length - 1]? fun v => (g v (ρ.set i (some (.ins C' (putD f (.lst ds.dropLast) gs))))).bind fun ρ' => .ok (.nx ρ')
    | _ => .no)
  | _ => .no
def putDK (i : Nat) (cs : List String) (f : String) (v : D) (ρ : Rho) (k : Rho → Dr Fl) : D → Dr Fl
  | .ins C gs => must (cs.contains C = true ∧ gs.length < 1000) (k (ρ.set i (some (.ins C (putD f v gs)))))
  | _ => .no
def bodyK : Fl → Dr D
  | .nx _ => .ok .non
  | .rt d _ => .ok d
  | _ => .no
def bodyMK : Fl → Dr (D × D)
  | .nx ρ => opt (getR ρ 0) fun g => .ok (.non, g)
  | .rt d ρ => opt (getR ρ 0) fun g => .ok (d, g)
  | _ => .no
theorem r_c {d : D} {ρ : Rho} : fC d ρ = .ok d := rfl
theorem r_var {i : Nat} {ρ : Rho} : fVar i ρ = opt (getR ρ i) .ok := rfl
theorem r_get0 {x : Option D} {l : Rho} : getR (x :: l) 0 = x := rfl
theorem r_getS {x : Option D} {l : Rho} {n : Nat} : getR (x :: l) (n + 1) = getR l n := rfl
theorem r_op {o : F2} {fa fb : FE} {ρ : Rho} : fOp o fa fb ρ = (fa ρ).bind fun a => (fb ρ).bind fun b => opt (o a b) .ok := rfl
theorem r_un {o : F1} {fa : FE} {ρ : Rho} : fUn o fa ρ = (fa ρ).bind fun a => opt (o a) .ok := rfl
theorem r_chain {o o' : F2} {fa fb fc : FE} {ρ : Rho} : fChain o o' fa fb fc ρ = (fa ρ).bind fun a => (fb ρ).bind fun b => opt (o a b) fun z => kChD o' b fc ρ z := rfl
theorem r_kch {o' : F2} {b : D} {fc : FE} {ρ : Rho} {q : Bool} : kChD o' b fc ρ (.bl q) = if q = true then (fc ρ).bind fun w => opt (o' b w) .ok else .ok (.bl false) := by cases q <;> rfl
theorem r_tru {fa : FE} {ρ : Rho} : fTru fa ρ = (fa ρ).bind fun a => opt (truD a) .ok := rfl
theorem r_bl {fa : FE} {ρ : Rho} : fBl fa ρ = (fa ρ).bind blD := rfl
theorem r_blD {b : Bool} : blD (.bl b) = .ok b := rfl
theorem r_and {t u : FT} {ρ : Rho} : fAnd t u ρ = (t ρ).bind fun b => if b = true then u ρ else .ok false := rfl
theorem r_or {t u : FT} {ρ : Rho} : fOr t u ρ = (t ρ).bind fun b => if b = true then .ok true else u ρ := rfl
theorem r_not {t : FT} {ρ : Rho} : fNot t ρ = (t ρ).bind fun b => .ok (!b) := rfl
theorem r_andV {fa fb : FE} {ρ : Rho} : fAndV fa fb ρ = (fa ρ).bind fun a => opt (truD a) fun b => if b = true then fb ρ else .ok a := rfl
theorem r_orV {fa fb : FE} {ρ : Rho} : fOrV fa fb ρ = (fa ρ).bind fun a => opt (truD a) fun b => if b = true then .ok a else fb ρ := rfl
theorem r_notV {fa : FE} {ρ : Rho} : fNotV fa ρ = (fa ρ).bind fun a => opt (truD a) fun b => .ok (.bl (!b)) := rfl
theorem r_if {t : FT} {fa fb : FE} {ρ : Rho} : fIf t fa fb ρ = (t ρ).bind fun b => if b = true then fa ρ else fb ρ := rfl
theorem r_nil {ρ : Rho} : fNil ρ = .ok [] := rfl
theorem r_cons {fa : FE} {fr : FAs} {ρ : Rho} : fCons fa fr ρ = (fa ρ).bind fun a => (fr ρ).bind fun r => .ok (a :: r) := rfl
theorem r_starA {fa : FE} {fr : FAs} {ρ : Rho} : fStarA fa fr ρ = (fa ρ).bind fun a => opt (seqD a) fun us => (fr ρ).bind fun r => .ok (us ++ r) := rfl
theorem r_tup {fr : FAs} {ρ : Rho} : fTup fr ρ = (fr ρ).bind fun ds => must (ds.length ≤ 1000) (.ok (.tup ds)) := rfl
theorem r_lst {fr : FAs} {ρ : Rho} : fLst fr ρ = (fr ρ).bind fun ds => must (ds.length ≤ 1000) (.ok (.lst ds)) := rfl
theorem r_pl {f : FE} {ρ : Rho} : fPl f ρ = (f ρ).bind fun d => must (cellLike d = false) (.ok d) := rfl
theorem r_cb {fo : FN} {fr : FAs} {ρ : Rho} : fCB fo fr ρ = (fr ρ).bind fun ds => opt (fo ds) .ok := rfl
theorem r_pno {ρ : Rho} : fpNo ρ = .ok none := rfl
theorem r_pat {fa : FE} {ρ : Rho} : fpAt fa ρ = (fa ρ).bind intO := rfl
theorem r_into {i : Int} : intO (.int i) = .ok (some i) := rfl
theorem r_sl {fa : FE} {lo hi : FP} {ρ : Rho} : fSl fa lo hi ρ = (fa ρ).bind fun a => (lo ρ).bind fun l => (hi ρ).bind fun h => opt (foSl a l h) .ok := rfl
theorem r_call {F : DF} {fr : FAs} {ρ : Rho} : fCall F fr ρ = (fr ρ).bind F := rfl
theorem r_callK {F : DF} {fr fk : FAs} {ρ : Rho} : fCallK F fr fk ρ = (fr ρ).bind fun ds => (fk ρ).bind fun es => F (ds ++ es) := rfl
theorem r_attr {name : String} {tb : List (String × FAt)} {fo : FE} {ρ : Rho} : fAttr name tb fo ρ = (fo ρ).bind (atF name tb) := rfl
theorem r_at {name C : String} {tb : List (String × FAt)} {fs : List (String × D)} : atF name tb (.ins C fs) = atK name (tb.lookup C) C fs := by unfold atF atK; first | (dsimp only; done) | (dsimp only; cases tb.lookup C with | none => rfl | some t => cases t <;> rfl)
theorem r_atF {name C : String} {fs : List (String × D)} : atK name (some .fld) C fs = opt (fs.lookup name) .ok := rfl
theorem r_atC {name C : String} {fs : List (String × D)} {d : D} : atK name (some (.con d)) C fs = must ((fs.lookup name).isNone = true) (.ok d) := rfl
theorem r_atP {name C : String} {fs : List (String × D)} {F : DF} : atK name (some (.prp F)) C fs = (F [.ins C fs]).calm := rfl
theorem r_meth {name : String} {tb : List (String × DF)} {fo : FE} {fr : FAs} {ρ : Rho} : fMeth name tb fo fr ρ = (fo ρ).bind fun o => methF name tb o fun F => (fr ρ).bind fun ds => F (o :: ds) := rfl
theorem r_methK {name : String} {tb : List (String × DF)} {fo : FE} {fr fk : FAs} {ρ : Rho} : fMethK name tb fo fr fk ρ = (fo ρ).bind fun o => methF name tb o fun F => (fr ρ).bind fun ds => (fk ρ).bind fun es => F (o :: (ds ++ es)) := rfl
theorem r_methS {name : String} {tb : List (String × DF)} {fo fa : FE} {ρ : Rho} : fMethS name tb fo fa ρ = (fo ρ).bind fun o => methF name tb o fun F => (fa ρ).bind fun d => opt (seqD d) fun ds => F (o :: ds) := rfl
theorem r_mF {name C : String} {tb : List (String × DF)} {fs : List (String × D)} {k : DF → Dr D} : methF name tb (.ins C fs) k = must ((fs.lookup name).isNone = true) (opt (tb.lookup C) k) := rfl
theorem r_star {n : Nat} {F : DF} {ds : List D} : fStar n F ds = must (n ≤ ds.length ∧ ds.length ≤ 1000000) (F (ds.take n ++ [.tup (ds.drop n)])) := rfl
theorem r_mk {C : String} {F : MF} {ds : List D} : fMk C F ds = (F (.ins C [] :: ds)).bind fun r => mkK r.1 r.2 := rfl
theorem r_mkK {d : D} : mkK .non d = .ok d := rfl
theorem r_frz {f : FE} {ρ : Rho} : fFrz f ρ = (f ρ).bind fun d => must (flatD d = true) (.ok d) := rfl
theorem r_frzA {f : FE} {ρ : Rho} : fFrzA f ρ = (f ρ).bind fun d => must (frzOk d = true) (.ok d) := rfl
theorem r_ls {f : FE} {ρ : Rho} : fLs f ρ = (f ρ).bind fun d => must (isLst d = true) (.ok d) := rfl
theorem r_isT {cs : List String} {sub : String → String → Bool} {fa : FE} {fr : FAs} {ρ : Rho} : fIsT cs sub fa fr ρ = (fa ρ).bind fun a => (fr ρ).bind fun ds => must (ds.length ≤ 1000) (opt a.tg fun t => opt (isAny cs sub t ds) fun b => must (ds.all (fun d => d.ctg.isSome) = true) (isK cs t b)) := rfl
theorem r_isKo {cs : List String} {C : String} {b : Bool} : isK cs (.own C) b = must (C ∈ cs) (.ok (.bl b)) := rfl
theorem r_isK_non {cs : List String} {b : Bool} : isK cs .non b = .ok (.bl b) := rfl
theorem r_isK_bl {cs : List String} {b : Bool} : isK cs .bl b = .ok (.bl b) := rfl
theorem r_isK_int {cs : List String} {b : Bool} : isK cs .int b = .ok (.bl b) := rfl
theorem r_isK_str {cs : List String} {b : Bool} : isK cs .str b = .ok (.bl b) := rfl
theorem r_isK_lst {cs : List String} {b : Bool} : isK cs .lst b = .ok (.bl b) := rfl
theorem r_isK_tup {cs : List String} {b : Bool} : isK cs .tup b = .ok (.bl b) := rfl
theorem r_isK_dct {cs : List String} {b : Bool} : isK cs .dct b = .ok (.bl b) := rfl
theorem r_seq {fa : FE} {ρ : Rho} : fiSeq fa ρ = (fa ρ).bind fun d => opt (seqD d) .ok := rfl
theorem r_rng1 {fr : FAs} {ρ : Rho} : fiRng1 fr ρ = (fr ρ).bind rng1K := rfl
theorem r_rng1K {j : Int} : rng1K [.int j] = must (rngOk j = true) (.ok (rngD 0 j.toNat)) := rfl
theorem r_rng2 {fr : FAs} {ρ : Rho} : fiRng2 fr ρ = (fr ρ).bind rng2K := rfl
theorem r_rng2K {i j : Int} : rng2K [.int i, .int j] = must (rngOk i = true ∧ rngOk j = true) (.ok (rngD i (j - i).toNat)) := rfl
theorem r_zip {fr : FAs} {ρ : Rho} : fiZip fr ρ = (fr ρ).bind zipK := rfl
theorem r_zipKL {a b : List D} : zipK [.lst a, .lst b] = .ok (zipD a b) := rfl
theorem r_zipKT {a b : List D} : zipK [.tup a, .tup b] = .ok (zipD a b) := rfl
theorem r_enum {fr : FAs} {ρ : Rho} : fiEnum fr ρ = (fr ρ).bind enumK := rfl
theorem r_enumK {a : List D} : enumK [.lst a] = .ok (enumD a) := rfl
theorem r_str {fa : FE} {ρ : Rho} : fiStr fa ρ = (fa ρ).bind strK := rfl
theorem r_strK {s : Str} : strK (.str s) = .ok (strD s) := rfl
theorem r_lc {vs : List Nat} {it : FI} {g : FG} {t : FT} {m : FE} {ρ : Rho} : fLc vs it g t m ρ = (it ρ).bind fun xs => must (xs.length < 10000000) ((lcF g t m (wipeR ρ vs) xs).bind fun ys => .ok (.lst ys)) := rfl
theorem r_yes {ρ : Rho} : ftYes ρ = .ok true := rfl
theorem r_wipe0 {ρ : Rho} : wipeR ρ [] = ρ := rfl
theorem r_wipeS {ρ : Rho} {v : Nat} {vs : List Nat} : wipeR ρ (v :: vs) = (wipeR ρ vs).set v none := rfl
theorem r_tn {i : Nat} {d : D} {ρ : Rho} : ftN i d ρ = .ok (ρ.set i (some d)) := rfl
theorem r_tt {n : Nat} {gs : List D → Rho → Dr Rho} {ds : List D} {ρ : Rho} : ftT n gs (.tup ds) ρ = must (ds.length = n) (gs ds ρ) := rfl
theorem r_tnil {ρ : Rho} : ftNil [] ρ = .ok ρ := rfl
theorem r_tcons {i : Nat} {gs : List D → Rho → Dr Rho} {d : D} {ds : List D} {ρ : Rho} : ftCons i gs (d :: ds) ρ = gs ds (ρ.set i (some d)) := rfl
theorem r_snil {ρ : Rho} : fSNil ρ = .ok (.nx ρ) := rfl
theorem r_scons {f g : FS} {ρ : Rho} : fSCons f g ρ = (f ρ).bind fun r => seqK g r := by unfold fSCons seqK; rfl
theorem r_seqN {g : FS} {ρ : Rho} : seqK g (.nx ρ) = g ρ := rfl
theorem r_seqR {g : FS} {d : D} {ρ : Rho} : seqK g (.rt d ρ) = .ok (.rt d ρ) := rfl
theorem r_seqB {g : FS} {ρ : Rho} : seqK g (.bk ρ) = .ok (.bk ρ) := rfl
theorem r_seqC {g : FS} {ρ : Rho} : seqK g (.ct ρ) = .ok (.ct ρ) := rfl
theorem r_sno {ρ : Rho} : fSNo ρ = .no := rfl
theorem r_brk {ρ : Rho} : fBrk ρ = .ok (.bk ρ) := rfl
theorem r_cnt {ρ : Rho} : fCnt ρ = .ok (.ct ρ) := rfl
theorem r_set {i : Nat} {f : FE} {ρ : Rho} : fSet i f ρ = (f ρ).bind fun d => .ok (.nx (ρ.set i (some d))) := rfl
theorem r_par {i j : Nat} {fa fb : FE} {ρ : Rho} : fPar i j fa fb ρ = (fa ρ).bind fun a => (fb ρ).bind fun b => .ok (.nx ((ρ.set i (some a)).set j (some b))) := rfl
theorem r_asg {f : FE} {g : FG} {ρ : Rho} : fAsg f g ρ = (f ρ).bind fun d => (g d ρ).bind fun ρ' => .ok (.nx ρ') := rfl
theorem r_drp {f : FE} {ρ : Rho} : fDrp f ρ = (f ρ).bind fun _ => .ok (.nx ρ) := rfl
theorem r_ret {f : FE} {ρ : Rho} : fRet f ρ = (f ρ).bind fun d => .ok (.rt d ρ) := rfl
theorem r_retN {ρ : Rho} : fRetN ρ = .ok (.rt .non ρ) := rfl
theorem r_retV {i : Nat} {ρ : Rho} : fRetV i ρ = opt (getR ρ i) fun d => .ok (.rt d (ρ.set i none)) := rfl
theorem r_retZ {i : Nat} {ρ : Rho} : fRetZ i ρ = opt (getR ρ i) fun d => must (frzOk d = true) (.ok (.rt d (ρ.set i none))) := rfl
theorem r_ifS {t : FT} {f g : FS} {ρ : Rho} : fIfS t f g ρ = (t ρ).bind fun b => if b = true then f ρ else g ρ := rfl
theorem r_for {it : FI} {g : FG} {body : FS} {dead : List Nat} {ρ : Rho} : fFor it g body dead ρ = (it ρ).bind fun xs => fForL g body dead xs ρ := rfl
theorem r_app {i : Nat} {f : FE} {ρ : Rho} : fAppend i f ρ = opt (getR ρ i) fun l => appK i f ρ l := by unfold fAppend appK; rfl
theorem r_appK {i : Nat} {f : FE} {ρ : Rho} {ds : List D} : appK i f ρ (.lst ds) = (f ρ).bind fun d => must (ds.length < 10000000) (.ok (.nx (ρ.set i (some (.lst (ds ++ [d])))))) := rfl
theorem r_setI {i : Nat} {fi f : FE} {ρ : Rho} : fSetI i fi f ρ = (f ρ).bind fun d => opt (getR ρ i) fun l => setK i fi ρ d l := by unfold fSetI setK; rfl
theorem r_setK {i : Nat} {fi : FE} {ρ : Rho} {d : D} {ds : List D} : setK i fi ρ d (.lst ds) = (fi ρ).bind fun y => setJ i ρ d ds y := by unfold setK setJ; rfl
theorem r_setJ {i : Nat} {ρ : Rho} {d : D} {ds : List D} {n : Int} : setJ i ρ d ds (.int n) = opt (ixN ds.length n) fun j => .ok (.nx (ρ.set i (some (.lst (ds.set j d))))) := rfl
theorem r_fld {f : String} {cs : List String} {i : Nat} {fv : FE} {ρ : Rho} : fFld f cs i fv ρ = (fv ρ).bind fun v => opt (getR ρ i) fun g => fldK f cs i ρ v g := by unfold fFld fldK; rfl
theorem r_fldK {f C : String} {cs : List String} {i : Nat} {v : D} {gs : List (String × D)} {ρ : Rho} : fldK f cs i ρ v (.ins C gs) = must (cs.contains C = true ∧ gs.length < 1000 ∧ (cellF f = false ∨ cellLike v = false)) (.ok (.nx (ρ.set i (some (.ins C (putD f v gs)))))) := rfl
theorem r_fldO {f : String} {cs : List String} {i : Nat} {fv : FE} {ρ : Rho} : fFldO f cs i fv ρ = (fv ρ).bind fun v => opt (getR ρ i) fun g => fldOK f cs i ρ v g := by unfold fFldO fldOK; rfl
theorem r_fldOK {f C : String} {cs : List String} {i : Nat} {v : D} {gs : List (String × D)} {ρ : Rho} : fldOK f cs i ρ v (.ins C gs) = must (cs.contains C = true ∧ gs.length < 1000 ∧ cellF f = true) (.ok (.nx (ρ.set i (some (.ins C (putD f v gs)))))) := rfl
theorem r_fldR {C f : String} {i : Nat} {ρ : Rho} : fFldR C f i ρ = opt (getR ρ i) fun o => fldRK C f o := by unfold fFldR fldRK; rfl
theorem r_fldRK {C C' f : String} {gs : List (String × D)} : fldRK C f (.ins C' gs) = must (C' = C) (opt (gs.lookup f) .ok) := rfl
theorem r_mut {name : String} {tb : List (String × MF)} {i : Nat} {fr : FAs} {ρ : Rho} : fMut name tb i fr ρ = opt (getR ρ i) fun o => methM name tb o fun F => (fr ρ).bind fun ds => (F (o :: ds)).bind fun r => .ok (.nx (ρ.set i (some r.2))) := rfl
theorem r_mutS {name : String} {n : Nat} {tb : List (String × MF)} {i : Nat} {fa : FE} {ρ : Rho} : fMutS name n tb i fa ρ = opt (getR ρ i) fun o => methM name tb o fun F => (fa ρ).bind fun d => opt (seqD d) fun ds => must (n ≤ ds.length + 1 ∧ ds.length + 1 ≤ 1000000 ∧ n = 1) ((F [o, .tup ds]).bind fun r => .ok (.nx (ρ.set i (some r.2)))) := rfl
theorem r_mM {name C : String} {tb : List (String × MF)} {fs : List (String × D)} {k : MF → Dr Fl} : methM name tb (.ins C fs) k = must ((fs.lookup name).isNone = true) (opt (tb.lookup C) k) := rfl
theorem r_fapp {C f : String} {i : Nat} {fv : FE} {ρ : Rho} : fFApp C f i fv ρ = opt (getR ρ i) fun o => fappK C f i fv ρ o := by unfold fFApp fappK; rfl
theorem r_fappK {C C' f : String} {i : Nat} {fv : FE} {gs : List (String × D)} {ρ : Rho} : fappK C f i fv ρ (.ins C' gs) = must (C' = C ∧ cellF f = true) (opt (gs.lookup f) fun l => fappJ f i fv ρ C' gs l) := by unfold fappK fappJ; rfl
theorem r_fappJ {C' f : String} {i : Nat} {fv : FE} {gs : List (String × D)} {ds : List D} {ρ : Rho} : fappJ f i fv ρ C' gs (.lst ds) = (fv ρ).bind fun v => must (ds.length < 10000000) (.ok (.nx (ρ.set i (some (.ins C' (putD f (.lst (ds ++ [v])) gs)))))) := rfl
theorem r_fpop {C f : String} {i : Nat} {g : FG} {ρ : Rho} : fFPop C f i g ρ = opt (getR ρ i) fun o => fpopK C f i g ρ o := by unfold fFPop fpopK; rfl
theorem r_fpopK {C C' f : String} {i : Nat} {g : FG} {gs : List (String × D)} {ρ : Rho} : fpopK C f i g ρ (.ins C' gs) = must (C' = C ∧ cellF f = true) (opt (gs.lookup f) fun l => fpopJ f i g ρ C' gs l) := by unfold fpopK fpopJ; rfl
theorem r_fpopJ {C' f : String} {i : Nat} {g : FG} {gs : List (String × D)} {ds : List D} {ρ : Rho} : fpopJ f i g ρ C' gs (.lst ds) = opt ds[ds.length - 1]? fun v => (g v (ρ.set i (some (.ins C' (putD f (.lst ds.dropLast) gs))))).bind fun ρ' => .ok (.nx ρ') := rfl
theorem r_fld2 {f g : String} {cs cs2 : List String} {i j : Nat} {fa fb : FE} {ρ : Rho} : fFld2 f g cs cs2 i j fa fb ρ = (fa ρ).bind fun a => (fb ρ).bind fun b => must (cellF f = false ∧ cellF g = false) (putDs i cs f a ρ fun ρ1 => putDs j cs2 g b ρ1 fun ρ2 => .ok (.nx ρ2)) := rfl
theorem r_fld2OT {f g : String} {cs cs2 : List String} {i j : Nat} {fa fb : FE} {ρ : Rho} : fFld2OT f g cs cs2 i j fa fb ρ = (fa ρ).bind fun a => (fb ρ).bind fun b => must (cellF f = true ∧ cellF g = false) (putDs i cs f a ρ fun ρ1 => putDs j cs2 g b ρ1 fun ρ2 => .ok (.nx ρ2)) := rfl
theorem r_fld2TM {f g C0 g0 : String} {cs cs2 : List String} {i j j0 : Nat} {fa : FE} {ρ : Rho} : fFld2TM f g cs cs2 i j fa C0 g0 j0 ρ = (fa ρ).bind fun a => (fFldR C0 g0 j0 ρ).bind fun b => must (cellF f = false ∧ cellF g0 = true ∧ cellF g = true) (putDs i cs f a (ρ.set j0 none) fun ρ1 => putDs j cs2 g b ρ1 fun ρ2 => .ok (.nx ρ2)) := rfl
theorem r_putDs {i : Nat} {cs : List String} {f : String} {v : D} {ρ : Rho} {k : Rho → Dr Fl} : putDs i cs f v ρ k = opt (getR ρ i) fun g => putDK i cs f v ρ k g := by unfold putDs putDK; rfl
theorem r_putDK {i : Nat} {cs : List String} {f C : String} {v : D} {ρ : Rho} {k : Rho → Dr Fl} {gs : List (String × D)} : putDK i cs f v ρ k (.ins C gs) = must (cs.contains C = true ∧ gs.length < 1000) (k (ρ.set i (some (.ins C (putD f v gs))))) := rfl
theorem r_retL {g : FAr} {ρ : Rho} : fRetL g ρ = (g ρ).bind fun r => must (r.1.length ≤ 1000) (.ok (.rt (.lst r.1) r.2)) := rfl
theorem r_retT {g : FAr} {ρ : Rho} : fRetT g ρ = (g ρ).bind fun r => must (r.1.length ≤ 1000) (.ok (.rt (.tup r.1) r.2)) := rfl
theorem r_rnil {ρ : Rho} : frNil ρ = .ok ([], ρ) := rfl
theorem r_rcons {f : FE} {g : FAr} {ρ : Rho} : frCons f g ρ = (f ρ).bind fun d => (g ρ).bind fun r => .ok (d :: r.1, r.2) := rfl
theorem r_rfrz {i : Nat} {g : FAr} {ρ : Rho} : frFrz i g ρ = opt (getR ρ i) fun d => must (frzOk d = true) ((g (ρ.set i none)).bind fun r => .ok (d :: r.1, r.2)) := rfl
theorem r_body {n N : Nat} {f : FS} {ds : List D} : bodyF n N f ds = must (ds.length = n) ((f (startR N ds)).bind bodyK) := by unfold bodyF bodyK; rfl
theorem r_bodyN {ρ : Rho} : bodyK (.nx ρ) = .ok .non := rfl
theorem r_bodyR {d : D} {ρ : Rho} : bodyK (.rt d ρ) = .ok d := rfl
theorem r_bodyM {n N : Nat} {f : FS} {ds : List D} : bodyM n N f ds = must (ds.length = n) ((f (startR N ds)).bind bodyMK) := by unfold bodyM bodyMK; rfl
theorem r_bodyMN {ρ : Rho} : bodyMK (.nx ρ) = opt (getR ρ 0) fun g => .ok (.non, g) := rfl
theorem r_bodyMR {d : D} {ρ : Rho} : bodyMK (.rt d ρ) = opt (getR ρ 0) fun g => .ok (d, g) := rfl
end
end DX

set_option Elab.async false
set_option linter.all false
set_option maxRecDepth 100000
namespace DX
open PySem L2
noncomputable section
def lcOne (g : FG) (t : FT) (m : FE) (ρ : Rho) (x : D) : Dr (Option D) := (g x ρ).bind fun ρ1 => (t ρ1).bind fun b => if b = true then (m ρ1).bind fun y => .ok (some y) else .ok none
theorem calm_ok {α : Type} (a : α) : (Dr.ok a).calm = .ok a := rfl
theorem lcF_all {α : Type} {g : FG} {t : FT} {m : FE} {ρ : Rho} (enc : α → D) (y : α → D) : ∀ l : List α, (∀ x ∈ l, lcOne g t m ρ (enc x) = .ok (some (y x))) → lcF g t m ρ (l.map enc) = .ok (l.map y)
  | [], h => rfl
  | x :: l, h => by
    have h1 := h x (by simp)
    unfold lcOne at h1
    have ih := lcF_all enc y l fun z hz => h z (List.mem_cons_of_mem _ hz)
    rw [List.map_cons, lcF]
    cases e : g (enc x) ρ with
    | ok ρ1 =>
      rw [e] at h1
      dsimp only [Dr.bind_ok] at h1
      cases e2 : t ρ1 with
      | ok b =>
        rw [e2] at h1
        dsimp only [Dr.bind_ok] at h1
        cases b with
        | false => simp at h1
        | true =>
          rw [if_pos rfl] at h1
          cases e3 : m ρ1 with
          | ok z =>
            rw [e3] at h1
            have : z = y x := by simpa [Dr.bind_ok] using h1
            subst this
            rw [calm_ok, Dr.bind_ok, e2, calm_ok, Dr.bind_ok, if_pos rfl, e3, calm_ok, Dr.bind_ok, ih]
            rfl
          | ex z => rw [e3] at h1; simp [Dr.bind_ex] at h1
          | no => rw [e3] at h1; simp [Dr.bind_no] at h1
          | dr n k => rw [e3] at h1; simp [Dr.bind_dr] at h1
      | ex z => rw [e2] at h1; simp [Dr.bind_ex] at h1
      | no => rw [e2] at h1; simp [Dr.bind_no] at h1
      | dr n k => rw [e2] at h1; simp [Dr.bind_dr] at h1
    | ex z => rw [e] at h1; simp [Dr.bind_ex] at h1
    | no => rw [e] at h1; simp [Dr.bind_no] at h1
    | dr n k => rw [e] at h1; simp [Dr.bind_dr] at h1
theorem wp_to_calm {α : Type} {r : Dr α} {P : α → Prop} {X : ExD → Prop} (h : r.wp P (fun _ => False)) : r.calm.wp P X := by
  induction r with
  | ok a => exact h
  | ex e => exact h
  | no => exact h
  | dr n k ih => exact ⟨h.1, fun d h1 h2 => ih d (h.2 d h1 h2)⟩
theorem lcF_wp {α : Type} {g : FG} {t : FT} {m : FE} {ρ : Rho} (enc : α → D) (R : α → D → Prop) {X : ExD → Prop} : ∀ (l : List α) (P : List D → Prop), (∀ x ∈ l, (lcOne g t m ρ (enc x)).wp (fun o => ∃ y, o = some y ∧ R x y) (fun _ => False)) →
    (∀ ys : List D, ys.length = l.length → (∀ (i : Nat) (x : α) (y : D), l[i]? = some x → ys[i]? = some y → R x y) → P ys) → (lcF g t m ρ (l.map enc)).wp P X
  | [], P, h, q => q [] rfl fun i x y e => by simp at e
  | x :: l, P, h, q => by
    have h1 := h x (by simp)
    unfold lcOne at h1
    rw [Dr.wp_bind] at h1
    rw [List.map_cons, lcF, Dr.wp_bind]
    refine wp_to_calm (h1.imp (fun ρ1 h1 => ?_) fun _ z => z)
    rw [Dr.wp_bind] at h1 ⊢
    refine wp_to_calm (h1.imp (fun b h1 => ?_) fun _ z => z)
    cases b with
    | false => obtain ⟨y, e, _⟩ := h1; cases e
    | true =>
      rw [if_pos rfl] at h1 ⊢
      rw [Dr.wp_bind] at h1 ⊢
      refine wp_to_calm (h1.imp (fun z h1 => ?_) fun _ z => z)
      obtain ⟨y, e, r⟩ := h1
      cases e
      rw [Dr.wp_bind]
      refine lcF_wp enc R l _ (fun u hu => h u (List.mem_cons_of_mem _ hu)) fun ys e1 e2 => q (z :: ys) (by simp [e1]) fun i a b ha hb => ?_
      cases i with
      | zero => simp at ha hb; subst ha hb; exact r
      | succ i => exact e2 i a b (by simpa using ha) (by simpa using hb)
theorem decode {α : Type} (enc : α → D) (R : α → Prop) : ∀ ys : List D, (∀ y ∈ ys, ∃ a, R a ∧ y = enc a) → ∃ as : List α, ys = as.map enc ∧ ∀ a ∈ as, R a
  | [], _ => ⟨[], rfl, fun a h => by cases h⟩
  | y :: ys, h => by
    obtain ⟨a, r, rfl⟩ := h y (by simp)
    obtain ⟨as, e, q⟩ := decode enc R ys fun y hy => h y (List.mem_cons_of_mem _ hy)
    exact ⟨a :: as, by rw [e]; rfl, fun b hb => (List.mem_cons.mp hb).elim (fun z => z ▸ r) (q b)⟩
theorem lcF_dec {α β : Type} {g : FG} {t : FT} {m : FE} {ρ : Rho} (enc : α → D) (enc' : β → D) (R : β → Prop) {X : ExD → Prop} (l : List α) (P : List D → Prop) (h : ∀ x ∈ l, (lcOne g t m ρ (enc x)).wp (fun o => ∃ b, o = some (enc' b) ∧ R b) (fun _ => False)) (q : ∀ bs : List β, bs.length = l.length → (∀ b ∈ bs, R b) → P (bs.map enc')) : (lcF g t m ρ (l.map enc)).wp P X := by
  refine lcF_wp enc (fun _ y => ∃ b, R b ∧ y = enc' b) l P (fun x hx => (h x hx).imp (fun o ⟨b, e, r⟩ => ⟨_, e, b, r, rfl⟩) fun _ z => z) fun ys hl hy => ?_
  obtain ⟨bs, e, r⟩ := decode enc' R ys fun y hm => by
    obtain ⟨i, hi, e⟩ := List.getElem_of_mem hm
    exact hy i _ y (List.getElem?_eq_getElem (show i < l.length by omega)) (by rw [← e]; exact List.getElem?_eq_getElem hi)
  subst e
  exact q bs (by simpa using hl) r
theorem for_fold {α σ : Type} {g : FG} {body : FS} {dead : List Nat} (enc : α → D) (st : σ → Rho) (step : σ → α → σ) : ∀ (l : List α) (s : σ), (∀ s x, x ∈ l → (g (enc x) (st s)).bind (fun ρ1 => (body ρ1).bind fun r => match r with
    | .nx ρ2 => .ok (wipeR ρ2 dead)
    | .ct ρ2 => .ok (wipeR ρ2 dead)
    | _ => .no) = .ok (st (step s x))) → fForL g body dead (l.map enc) (st s) = .ok (.nx (st (l.foldl step s)))
  | [], s, h => rfl
  | x :: l, s, h => by
    have h1 := h s x (by simp)
    rw [List.map_cons, List.foldl_cons]
    unfold fForL
    cases e : g (enc x) (st s) with
    | ok ρ1 =>
      rw [e, Dr.bind_ok] at h1
      rw [Dr.bind_ok]
      cases e2 : body ρ1 with
      | ok r =>
        rw [e2, Dr.bind_ok] at h1
        rw [Dr.bind_ok]
        have ih := for_fold enc st step l (step s x) fun s x hx => h s x (List.mem_cons_of_mem _ hx)
        cases r with
        | nx ρ2 =>
          dsimp only at h1 ⊢
          injection h1 with h1
          rw [h1]
          exact ih
        | ct ρ2 =>
          dsimp only at h1 ⊢
          injection h1 with h1
          rw [h1]
          exact ih
        | bk ρ2 => cases h1
        | rt d ρ2 => cases h1
      | ex z => rw [e2] at h1; cases h1
      | no => rw [e2] at h1; cases h1
      | dr n k => rw [e2] at h1; cases h1
    | ex z => rw [e] at h1; cases h1
    | no => rw [e] at h1; cases h1
    | dr n k => rw [e] at h1; cases h1
theorem atN {α : Type} (l : List α) (n : Nat) : L2.atI l (n : Int) = l[n]? := by
  unfold L2.atI ixN
  rw [if_pos (by omega)]
  by_cases h : n < l.length
  · rw [if_pos (by omega)]
    show l[((n : Int)).toNat]? = _
    rw [Int.toNat_natCast]
  · rw [if_neg (by omega)]
    show none = _
    rw [List.getElem?_eq_none (by omega)]
theorem cutW_take {α : Type} (l : List α) (n : Nat) : cutW l none (some (n : Int)) = l.take n := by
  unfold cutW
  rw [HT.sIx_none, HT.sIx_nat, List.drop_zero, Nat.sub_zero]
  by_cases h : n ≤ l.length
  · rw [Nat.min_eq_left h]
  · rw [Nat.min_eq_right (by omega), List.take_length, List.take_of_length_le (by omega)]
theorem rngD_nat (n : Nat) : rngD 0 n = (List.range n).map fun (i : Nat) => D.int (i : Int) := by
  unfold rngD
  congr 1
  funext i
  rw [Int.zero_add]
theorem allBD_map (l : List Bool) : allBD (l.map D.bl) = some l := by
  induction l with
  | nil => rfl
  | cons b l ih => rw [List.map_cons, allBD, ih]; rfl
theorem allID_map (l : List Int) : allID (l.map D.int) = some l := by
  induction l with
  | nil => rfl
  | cons b l ih => rw [List.map_cons, allID, ih]; rfl
end
end DX

set_option Elab.async false
set_option linter.all false
set_option maxRecDepth 100000
namespace DX
open PySem L2
noncomputable section
def inL (a : D) (ds : List D) : Option Bool := match a.sc, mapSc ds with
  | some u, some us => some (inV u us)
  | _, _ => ite_ (okD a = true ∧ okD (.lst ds) = true) (some (ds.any fun z => eqD z a))
def inT (a : D) (ds : List D) : Option Bool := match a.sc, mapSc ds with
  | some u, some us => some (inV u us)
  | _, _ => none
theorem o_addI {a b : Int} : foAdd (.int a) (.int b) = some (.int (a + b)) := rfl
theorem o_addS {a b : Str} : foAdd (.str a) (.str b) = ite_ (a.length + b.length ≤ 1000000) (some (.str (a ++ b))) := rfl
theorem o_addL {a b : List D} : foAdd (.lst a) (.lst b) = ite_ (a.length + b.length ≤ 100000) (some (.lst (a ++ b))) := rfl
theorem o_addT {a b : List D} : foAdd (.tup a) (.tup b) = ite_ (a.length + b.length ≤ 100000) (some (.tup (a ++ b))) := rfl
theorem o_sub {a b : Int} : foSub (.int a) (.int b) = some (.int (a - b)) := rfl
theorem o_mod {a b : Int} : foMod (.int a) (.int b) = ite_ (0 < b) (some (.int (a % b))) := rfl
theorem o_div {a b : Int} : foDiv (.int a) (.int b) = ite_ (0 < b ∧ b < 2 ^ 64) (some (.int (a / b))) := rfl
theorem o_pow {a b : Int} : foPow (.int a) (.int b) = ite_ (0 ≤ b ∧ b ≤ 100 ∧ a.natAbs < 2 ^ 64) (some (.int (a ^ b.toNat))) := rfl
theorem o_lt {a b : Int} : foLt (.int a) (.int b) = some (.bl (decide (a < b))) := rfl
theorem o_le {a b : Int} : foLe (.int a) (.int b) = some (.bl (decide (a ≤ b))) := rfl
theorem o_gt {a b : Int} : foGt (.int a) (.int b) = some (.bl (decide (b < a))) := rfl
theorem o_ge {a b : Int} : foGe (.int a) (.int b) = some (.bl (decide (b ≤ a))) := rfl
theorem o_mulI {a b : Int} : foMul (.int a) (.int b) = ite_ (CMul a b) (some (.int (a * b))) := rfl
theorem o_mulL {l : List D} {n : Int} : foMul (.lst l) (.int n) = ite_ (-10000 ≤ n ∧ n ≤ 10000 ∧ l.length ≤ 1000) (some (.lst (List.replicate n.toNat l).flatten)) := rfl
theorem o_mulT {l : List D} {n : Int} : foMul (.tup l) (.int n) = ite_ (l ≠ [] ∧ 0 ≤ n ∧ n ≤ 1000 ∧ l.length ≤ 1000) (some (.tup (List.replicate n.toNat l).flatten)) := rfl
theorem o_neg {a : Int} : foNeg (.int a) = some (.int (-a)) := rfl
theorem o_eq {x y : D} : foEq x y = (DX.eqV x y).map .bl := rfl
theorem o_ne {x y : D} : foNe x y = (DX.eqV x y).map fun q => .bl (!q) := rfl
theorem o_eqI {a b : Int} : DX.eqV (.int a) (.int b) = some (decide (a = b)) := rfl
theorem o_eqS {a b : Str} : DX.eqV (.str a) (.str b) = some (decide (a = b)) := rfl
theorem o_eqB {a b : Bool} : DX.eqV (.bl a) (.bl b) = some (decide (a = b)) := rfl
theorem o_eqNS {b : Str} : DX.eqV .non (.str b) = some false := rfl
theorem o_eqSN {b : Str} : DX.eqV (.str b) .non = some false := rfl
theorem o_eqIS {a : Int} {b : Str} : DX.eqV (.int a) (.str b) = some false := rfl
theorem o_eqSI {a : Int} {b : Str} : DX.eqV (.str b) (.int a) = some false := rfl
theorem o_eqLL {x y : List D} : DX.eqV (.lst x) (.lst y) = ite_ (okD (.lst x) = true ∧ okD (.lst y) = true) (some (eqD (.lst x) (.lst y))) := rfl
theorem o_eqTT {x y : List D} : DX.eqV (.tup x) (.tup y) = ite_ (okD (.tup x) = true ∧ okD (.tup y) = true) (some (eqD (.tup x) (.tup y))) := rfl
theorem o_eqLT {x y : List D} : DX.eqV (.lst x) (.tup y) = ite_ (okD (.lst x) = true ∧ okD (.tup y) = true) (some (eqD (.lst x) (.tup y))) := rfl
theorem o_eqTL {x y : List D} : DX.eqV (.tup x) (.lst y) = ite_ (okD (.tup x) = true ∧ okD (.lst y) = true) (some (eqD (.tup x) (.lst y))) := rfl
theorem o_eqTN {x : List D} : DX.eqV (.tup x) .non = ite_ (okD (.tup x) = true ∧ okD .non = true) (some (eqD (.tup x) .non)) := rfl
theorem o_eqNT {x : List D} : DX.eqV .non (.tup x) = ite_ (okD .non = true ∧ okD (.tup x) = true) (some (eqD .non (.tup x))) := rfl
theorem o_eqLN {x : List D} : DX.eqV (.lst x) .non = ite_ (okD (.lst x) = true ∧ okD .non = true) (some (eqD (.lst x) .non)) := rfl
theorem o_eqNL {x : List D} : DX.eqV .non (.lst x) = ite_ (okD .non = true ∧ okD (.lst x) = true) (some (eqD .non (.lst x))) := rfl
theorem o_eqNN  : DX.eqV .non .non = ite_ (okD .non = true ∧ okD .non = true) (some (eqD .non .non)) := rfl
theorem o_eqIN {a : Int} : DX.eqV (.int a) .non = ite_ (okD (.int a) = true ∧ okD .non = true) (some (eqD (.int a) .non)) := rfl
theorem o_eqNI {a : Int} : DX.eqV .non (.int a) = ite_ (okD .non = true ∧ okD (.int a) = true) (some (eqD .non (.int a))) := rfl
theorem o_isN {x : D} : foIsN x .non = some (.bl (DX.isNon x)) := by cases x <;> rfl
theorem o_notN {x : D} : foNotN x .non = some (.bl (!DX.isNon x)) := by cases x <;> rfl
theorem o_nn_int {a : Int} : DX.isNon (.int a) = false := rfl
theorem o_nn_bl {a : Bool} : DX.isNon (.bl a) = false := rfl
theorem o_nn_str {a : Str} : DX.isNon (.str a) = false := rfl
theorem o_nn_lst {a : List D} : DX.isNon (.lst a) = false := rfl
theorem o_nn_tup {a : List D} : DX.isNon (.tup a) = false := rfl
theorem o_nn_ins {C : String} {a : List (String × D)} : DX.isNon (.ins C a) = false := rfl
theorem o_nn_dct {a : List (Key × D)} : DX.isNon (.dct a) = false := rfl
theorem o_nn_cls {a : String} : DX.isNon (.cls a) = false := rfl
theorem o_nn  : DX.isNon .non = true := rfl
theorem o_in {x y : D} : foIn x y = (inD x y).map .bl := rfl
theorem o_nin {x y : D} : foNin x y = (inD x y).map fun q => .bl (!q) := rfl
theorem o_inSS {s t : Str} : inD (.str s) (.str t) = (oneSign s).map fun c => decide (c ∈ t.cps.toList) := by unfold inD; dsimp only; cases oneSign s <;> rfl
theorem o_inLs {s : Str} {ds : List D} : inD (.str s) (.lst ds) = inL (.str s) ds := rfl
theorem o_inTs {s : Str} {ds : List D} : inD (.str s) (.tup ds) = inT (.str s) ds := rfl
theorem o_inLi {s : Int} {ds : List D} : inD (.int s) (.lst ds) = inL (.int s) ds := rfl
theorem o_inTi {s : Int} {ds : List D} : inD (.int s) (.tup ds) = inT (.int s) ds := rfl
theorem o_inLb {s : Bool} {ds : List D} : inD (.bl s) (.lst ds) = inL (.bl s) ds := rfl
theorem o_inTb {s : Bool} {ds : List D} : inD (.bl s) (.tup ds) = inT (.bl s) ds := rfl
theorem o_inLn  {ds : List D} : inD .non (.lst ds) = inL .non ds := rfl
theorem o_inTn  {ds : List D} : inD .non (.tup ds) = inT .non ds := rfl
theorem o_inLt {s : List D} {ds : List D} : inD (.tup s) (.lst ds) = inL (.tup s) ds := rfl
theorem o_inTt {s : List D} {ds : List D} : inD (.tup s) (.tup ds) = inT (.tup s) ds := rfl
theorem o_ixL {l : List D} {i : Int} : foIx (.lst l) (.int i) = L2.atI l i := rfl
theorem o_ixT {l : List D} {i : Int} : foIx (.tup l) (.int i) = L2.atI l i := rfl
theorem o_ixS {z : Str} {i : Int} : foIx (.str z) (.int i) = ite_ (z.length ≤ 100000) ((L2.atI z.cps.toList i).map fun c => .str ⟨#[c]⟩) := rfl
theorem o_at0 {α : Type} {x : α} {l : List α} : L2.atI (x :: l) 0 = some x := x_atI0
theorem o_atn {α : Type} {l : List α} {n : Nat} : L2.atI l ((n : Nat) : Int) = l[n]? := atN l n
theorem o_slL {l : List D} {lo hi : Option Int} : foSl (.lst l) lo hi = some (.lst (cutW l lo hi)) := rfl
theorem o_slT {l : List D} {lo hi : Option Int} : foSl (.tup l) lo hi = some (.tup (cutW l lo hi)) := rfl
theorem o_slS {z : Str} {lo hi : Option Int} : foSl (.str z) lo hi = ite_ (z.length ≤ 100000) (some (.str (L2.cutS z lo hi))) := rfl
theorem o_inG {nm c : String} {rows : List (Str × Int)} {g : Bool → Bool} {z : Str} : foInG nm rows g (.str z) (.cls c) = ite_ (c = nm) (some (.bl (g (rows.lookup z).isSome))) := rfl
theorem o_ixG {nm c : String} {rows : List (Str × Int)} {z : Str} : foIxG nm rows (.cls c) (.str z) = ite_ (c = nm) ((rows.lookup z).map .int) := rfl
theorem b_lenL {l : List D} : fbLen [.lst l] = some (.int l.length) := rfl
theorem b_lenT {l : List D} : fbLen [.tup l] = some (.int l.length) := rfl
theorem b_lenS {z : Str} : fbLen [.str z] = ite_ (z.length ≤ 100000) (some (.int z.length)) := rfl
theorem b_intI {i : Int} : fbInt [.int i] = some (.int i) := rfl
theorem b_intB {b : Bool} : fbInt [.bl b] = some (.int (if b then 1 else 0)) := rfl
theorem b_all {l : List D} : fbAll [.lst l] = (allBD l).map fun bs => .bl (bs.all id) := rfl
theorem b_any {l : List D} : fbAny [.lst l] = (allBD l).map fun bs => .bl (bs.any id) := rfl
theorem b_sum {l : List D} : fbSum [.lst l] = (allID l).map fun bs => .int bs.sum := rfl
theorem b_max2 {a b : Int} : fbMax [.int a, .int b] = some (.int (max a b)) := rfl
theorem b_min2 {a b : Int} : fbMin [.int a, .int b] = some (.int (min a b)) := rfl
theorem b_maxL {l : List D} : fbMax [.lst l] = (allID l).bind fun ns => ite_ (ns ≠ []) (some (.int (mx ns))) := by unfold fbMax; dsimp only; cases allID l <;> rfl
theorem b_minL {l : List D} : fbMin [.lst l] = (allID l).bind fun ns => ite_ (ns ≠ []) (some (.int (mn ns))) := by unfold fbMin; dsimp only; cases allID l <;> rfl
theorem b_listL {l : List D} : fbList [.lst l] = some (.lst l) := rfl
theorem b_listT {l : List D} : fbList [.tup l] = some (.lst l) := rfl
theorem b_tupL {l : List D} : fbTup [.lst l] = some (.tup l) := rfl
theorem b_tupT {l : List D} : fbTup [.tup l] = some (.tup l) := rfl
theorem b_strI {i : Int} : fbStr [.int i] = ite_ (i.natAbs < 2 ^ 60) (some (.str (toString i))) := rfl
theorem b_strS {s : Str} : fbStr [.str s] = some (.str s) := rfl
theorem b_isi {cs : List String} {sub : String → String → Bool} {x y : D} : fbIsi cs sub [x, y] = x.tg.bind fun t => y.ctg.bind fun u => (isI cs sub t u).map .bl := by unfold fbIsi; dsimp only; cases x.tg with | none => rfl | some t => cases y.ctg <;> rfl
theorem t_non  : truD .non = some false := rfl
theorem t_bl {b : Bool} : truD (.bl b) = some b := rfl
theorem t_int {i : Int} : truD (.int i) = some (i != 0) := rfl
theorem t_lst {l : List D} : truD (.lst l) = some (!l.isEmpty) := rfl
theorem t_tup {l : List D} : truD (.tup l) = some (!l.isEmpty) := rfl
theorem t_str {s : Str} : truD (.str s) = if s.length ≤ 100000 then some ((s.length : Int) != 0) else none := rfl
theorem s_lst {l : List D} : seqD (.lst l) = some l := rfl
theorem s_tup {l : List D} : seqD (.tup l) = some l := rfl
theorem c_non  : cellLike .non = false := rfl
theorem c_int {a : Int} : cellLike (.int a) = false := rfl
theorem c_bl {a : Bool} : cellLike (.bl a) = false := rfl
theorem c_str {a : Str} : cellLike (.str a) = false := rfl
theorem c_tup {a : List D} : cellLike (.tup a) = false := rfl
theorem c_lst {a : List D} : cellLike (.lst a) = true := rfl
theorem c_ins {C : String} {a : List (String × D)} : cellLike (.ins C a) = true := rfl
theorem z_lst {l : List D} : frzOk (.lst l) = true := rfl
theorem z_ins {C : String} {gs : List (String × D)} : frzOk (.ins C gs) = gs.all fun p => !cellF p.1 := rfl
theorem z_fl {C : String} {gs : List (String × D)} : flatD (.ins C gs) = gs.all fun p => !cellF p.1 := rfl
theorem il_lst {l : List D} : isLst (.lst l) = true := rfl
theorem g_put0 {f : String} {d : D} : putD f d [] = [(f, d)] := rfl
theorem g_putS {f g : String} {d u : D} {r : List (String × D)} : putD f d ((g, u) :: r) = if g = f then (g, d) :: r else (g, u) :: putD f d r := rfl
theorem tg_non  : D.tg .non = some .non := rfl
theorem tg_int {a : Int} : D.tg (.int a) = some .int := rfl
theorem tg_bl {a : Bool} : D.tg (.bl a) = some .bl := rfl
theorem tg_str {a : Str} : D.tg (.str a) = some .str := rfl
theorem tg_lst {a : List D} : D.tg (.lst a) = some .lst := rfl
theorem tg_tup {a : List D} : D.tg (.tup a) = some .tup := rfl
theorem tg_ins {C : String} {a : List (String × D)} : D.tg (.ins C a) = some (.own C) := rfl
theorem tg_dct {a : List (Key × D)} : D.tg (.dct a) = some .dct := rfl
theorem ct_bool  : D.ctg (.ty "bool") = some .bl := rfl
theorem ct_int  : D.ctg (.ty "int") = some .int := rfl
theorem ct_str  : D.ctg (.ty "str") = some .str := rfl
theorem ct_list  : D.ctg (.ty "list") = some .lst := rfl
theorem ct_tuple  : D.ctg (.ty "tuple") = some .tup := rfl
theorem ct_dict  : D.ctg (.ty "dict") = some .dct := rfl
theorem ct_cls {C : String} : D.ctg (.cls C) = some (.own C) := rfl
theorem ii_non_non {cs : List String} {sub : String → String → Bool} : isI cs sub .non .non = some true := rfl
theorem ii_non_bl {cs : List String} {sub : String → String → Bool} : isI cs sub .non .bl = some false := rfl
theorem ii_non_int {cs : List String} {sub : String → String → Bool} : isI cs sub .non .int = some false := rfl
theorem ii_non_str {cs : List String} {sub : String → String → Bool} : isI cs sub .non .str = some false := rfl
theorem ii_non_lst {cs : List String} {sub : String → String → Bool} : isI cs sub .non .lst = some false := rfl
theorem ii_non_tup {cs : List String} {sub : String → String → Bool} : isI cs sub .non .tup = some false := rfl
theorem ii_non_dct {cs : List String} {sub : String → String → Bool} : isI cs sub .non .dct = some false := rfl
theorem ii_non_own {cs : List String} {sub : String → String → Bool} {C : String} : isI cs sub .non (.own C) = if C ∈ cs then some false else none := rfl
theorem ii_bl_bl {cs : List String} {sub : String → String → Bool} : isI cs sub .bl .bl = some true := rfl
theorem ii_bl_int {cs : List String} {sub : String → String → Bool} : isI cs sub .bl .int = some true := rfl
theorem ii_bl_str {cs : List String} {sub : String → String → Bool} : isI cs sub .bl .str = some false := rfl
theorem ii_bl_lst {cs : List String} {sub : String → String → Bool} : isI cs sub .bl .lst = some false := rfl
theorem ii_bl_tup {cs : List String} {sub : String → String → Bool} : isI cs sub .bl .tup = some false := rfl
theorem ii_bl_dct {cs : List String} {sub : String → String → Bool} : isI cs sub .bl .dct = some false := rfl
theorem ii_bl_own {cs : List String} {sub : String → String → Bool} {C : String} : isI cs sub .bl (.own C) = if C ∈ cs then some false else none := rfl
theorem ii_own_bl {cs : List String} {sub : String → String → Bool} {C : String} : isI cs sub (.own C) .bl = if C ∈ cs then some false else none := rfl
theorem ii_int_bl {cs : List String} {sub : String → String → Bool} : isI cs sub .int .bl = some false := rfl
theorem ii_int_int {cs : List String} {sub : String → String → Bool} : isI cs sub .int .int = some true := rfl
theorem ii_int_str {cs : List String} {sub : String → String → Bool} : isI cs sub .int .str = some false := rfl
theorem ii_int_lst {cs : List String} {sub : String → String → Bool} : isI cs sub .int .lst = some false := rfl
theorem ii_int_tup {cs : List String} {sub : String → String → Bool} : isI cs sub .int .tup = some false := rfl
theorem ii_int_dct {cs : List String} {sub : String → String → Bool} : isI cs sub .int .dct = some false := rfl
theorem ii_int_own {cs : List String} {sub : String → String → Bool} {C : String} : isI cs sub .int (.own C) = if C ∈ cs then some false else none := rfl
theorem ii_own_int {cs : List String} {sub : String → String → Bool} {C : String} : isI cs sub (.own C) .int = if C ∈ cs then some false else none := rfl
theorem ii_str_bl {cs : List String} {sub : String → String → Bool} : isI cs sub .str .bl = some false := rfl
theorem ii_str_int {cs : List String} {sub : String → String → Bool} : isI cs sub .str .int = some false := rfl
theorem ii_str_str {cs : List String} {sub : String → String → Bool} : isI cs sub .str .str = some true := rfl
theorem ii_str_lst {cs : List String} {sub : String → String → Bool} : isI cs sub .str .lst = some false := rfl
theorem ii_str_tup {cs : List String} {sub : String → String → Bool} : isI cs sub .str .tup = some false := rfl
theorem ii_str_dct {cs : List String} {sub : String → String → Bool} : isI cs sub .str .dct = some false := rfl
theorem ii_str_own {cs : List String} {sub : String → String → Bool} {C : String} : isI cs sub .str (.own C) = if C ∈ cs then some false else none := rfl
theorem ii_own_str {cs : List String} {sub : String → String → Bool} {C : String} : isI cs sub (.own C) .str = if C ∈ cs then some false else none := rfl
theorem ii_lst_bl {cs : List String} {sub : String → String → Bool} : isI cs sub .lst .bl = some false := rfl
theorem ii_lst_int {cs : List String} {sub : String → String → Bool} : isI cs sub .lst .int = some false := rfl
theorem ii_lst_str {cs : List String} {sub : String → String → Bool} : isI cs sub .lst .str = some false := rfl
theorem ii_lst_lst {cs : List String} {sub : String → String → Bool} : isI cs sub .lst .lst = some true := rfl
theorem ii_lst_tup {cs : List String} {sub : String → String → Bool} : isI cs sub .lst .tup = some false := rfl
theorem ii_lst_dct {cs : List String} {sub : String → String → Bool} : isI cs sub .lst .dct = some false := rfl
theorem ii_lst_own {cs : List String} {sub : String → String → Bool} {C : String} : isI cs sub .lst (.own C) = if C ∈ cs then some false else none := rfl
theorem ii_own_lst {cs : List String} {sub : String → String → Bool} {C : String} : isI cs sub (.own C) .lst = if C ∈ cs then some false else none := rfl
theorem ii_tup_bl {cs : List String} {sub : String → String → Bool} : isI cs sub .tup .bl = some false := rfl
theorem ii_tup_int {cs : List String} {sub : String → String → Bool} : isI cs sub .tup .int = some false := rfl
theorem ii_tup_str {cs : List String} {sub : String → String → Bool} : isI cs sub .tup .str = some false := rfl
theorem ii_tup_lst {cs : List String} {sub : String → String → Bool} : isI cs sub .tup .lst = some false := rfl
theorem ii_tup_tup {cs : List String} {sub : String → String → Bool} : isI cs sub .tup .tup = some true := rfl
theorem ii_tup_dct {cs : List String} {sub : String → String → Bool} : isI cs sub .tup .dct = some false := rfl
theorem ii_tup_own {cs : List String} {sub : String → String → Bool} {C : String} : isI cs sub .tup (.own C) = if C ∈ cs then some false else none := rfl
theorem ii_own_tup {cs : List String} {sub : String → String → Bool} {C : String} : isI cs sub (.own C) .tup = if C ∈ cs then some false else none := rfl
theorem ii_dct_bl {cs : List String} {sub : String → String → Bool} : isI cs sub .dct .bl = some false := rfl
theorem ii_dct_int {cs : List String} {sub : String → String → Bool} : isI cs sub .dct .int = some false := rfl
theorem ii_dct_str {cs : List String} {sub : String → String → Bool} : isI cs sub .dct .str = some false := rfl
theorem ii_dct_lst {cs : List String} {sub : String → String → Bool} : isI cs sub .dct .lst = some false := rfl
theorem ii_dct_tup {cs : List String} {sub : String → String → Bool} : isI cs sub .dct .tup = some false := rfl
theorem ii_dct_dct {cs : List String} {sub : String → String → Bool} : isI cs sub .dct .dct = some true := rfl
theorem ii_dct_own {cs : List String} {sub : String → String → Bool} {C : String} : isI cs sub .dct (.own C) = if C ∈ cs then some false else none := rfl
theorem ii_own_dct {cs : List String} {sub : String → String → Bool} {C : String} : isI cs sub (.own C) .dct = if C ∈ cs then some false else none := rfl
theorem ii_own_own {cs : List String} {sub : String → String → Bool} {C E : String} : isI cs sub (.own C) (.own E) = if C ∈ cs ∧ E ∈ cs then some (sub C E) else none := rfl
theorem ia_nil {cs : List String} {sub : String → String → Bool} {t : Tg} : isAny cs sub t [] = some false := rfl
theorem ia_cons {cs : List String} {sub : String → String → Bool} {t : Tg} {d : D} {ds : List D} : isAny cs sub t (d :: ds) = d.ctg.bind fun u => (isI cs sub t u).bind fun q => if q = true then some true else isAny cs sub t ds := by rw [isAny]; cases d.ctg with | none => rfl | some u => dsimp only [Option.bind_some]; cases isI cs sub t u with | none => rfl | some q => cases q <;> rfl
theorem st_R {N : Nat} {ds : List D} : startR N ds = ds.map some ++ List.replicate (N - ds.length) none := rfl
theorem o_at1 {α : Type} {x y : α} {l : List α} : L2.atI (x :: y :: l) 1 = some y := by
  rw [show (1 : Int) = ((1 : Nat) : Int) from rfl, atN]
  rfl
theorem o_at2 {α : Type} {x y z : α} {l : List α} : L2.atI (x :: y :: z :: l) 2 = some z := by
  rw [show (2 : Int) = ((2 : Nat) : Int) from rfl, atN]
  rfl
theorem o_at3 {α : Type} {x y z u : α} {l : List α} : L2.atI (x :: y :: z :: u :: l) 3 = some u := by
  rw [show (3 : Int) = ((3 : Nat) : Int) from rfl, atN]
  rfl
theorem r_pull {t : String} {n : Int} : fPull [.ty t, .int n] = .dr n fun d => .ok (.int d) := rfl
theorem ite_t {α : Type} {c : Prop} {r : Option α} (h : c) : ite_ c r = r := if_pos h
theorem ite_T {α : Type} {r : Option α} : ite_ True r = r := if_pos trivial
theorem inV_int {a b : Int} {us : List V} : inV (.int a) (.int b :: us) = (decide (b = a) || inV (.int a) us) := by
  unfold inV
  rw [List.any_cons]
  rfl
end
end DX

set_option Elab.async false
set_option linter.all false
set_option maxRecDepth 100000
namespace DX
open PySem L2
noncomputable section
def turnF (g : FG) (body : FS) (dead : List Nat) (x : D) (ρ : Rho) : Dr Fl := (g x ρ).bind fun ρ1 => (body ρ1).bind fun r => match r with
  | .nx ρ2 => .ok (.nx (wipeR ρ2 dead))
  | .ct ρ2 => .ok (.nx (wipeR ρ2 dead))
  | .bk ρ2 => .ok (.bk (wipeR ρ2 dead))
  | .rt d ρ2 => .ok (.rt d ρ2)
theorem r_turn {g : FG} {body : FS} {dead : List Nat} {x : D} {ρ : Rho} : turnF g body dead x ρ = (g x ρ).bind fun ρ1 => (body ρ1).bind fun r => match r with
  | .nx ρ2 => .ok (.nx (wipeR ρ2 dead))
  | .ct ρ2 => .ok (.nx (wipeR ρ2 dead))
  | .bk ρ2 => .ok (.bk (wipeR ρ2 dead))
  | .rt d ρ2 => .ok (.rt d ρ2) := rfl
theorem fForL_cons {g : FG} {body : FS} {dead : List Nat} {x : D} {xs : List D} {ρ : Rho} : fForL g body dead (x :: xs) ρ = (turnF g body dead x ρ).bind fun r => match r with
  | .nx ρ2 => fForL g body dead xs ρ2
  | .bk ρ2 => .ok (.nx ρ2)
  | .rt d ρ2 => .ok (.rt d ρ2)
  | .ct ρ2 => .no := by
  rw [fForL, turnF, Dr.bind_assoc]
  congr 1
  funext ρ1
  rw [Dr.bind_assoc]
  congr 1
  funext r
  cases r <;> rfl
theorem for_seq {α σ : Type} {g : FG} {body : FS} {dead : List Nat} (enc : α → D) (st : σ → Rho) (R : σ → List α → Prop) (hs : ∀ s x l, R s (x :: l) → ∃ s', R s' l ∧ turnF g body dead (enc x) (st s) = .ok (.nx (st s'))) : ∀ (l : List α) (s : σ), R s l → ∃ s', R s' [] ∧ fForL g body dead (l.map enc) (st s) = .ok (.nx (st s'))
  | [], s, h => ⟨s, h, rfl⟩
  | x :: l, s, h => by
    obtain ⟨s1, h1, e1⟩ := hs s x l h
    obtain ⟨s2, h2, e2⟩ := for_seq enc st R hs l s1 h1
    refine ⟨s2, h2, ?_⟩
    rw [List.map_cons, fForL_cons, e1, Dr.bind_ok]
    exact e2
theorem for_seqK {α σ β : Type} {g : FG} {body : FS} {dead : List Nat} {K : Fl → Dr β} {r : Dr β} (enc : α → D) (st : σ → Rho) (R : σ → List α → Prop) {l : List α} {s : σ} {ρ : Rho} (h0 : R s l) (hs : ∀ s x l, R s (x :: l) → ∃ s', R s' l ∧ turnF g body dead (enc x) (st s) = .ok (.nx (st s'))) (he : ∀ s, R s [] → K (.nx (st s)) = r) (hρ : ρ = st s := by rfl) : (fForL g body dead (l.map enc) ρ).bind K = r := by
  obtain ⟨s', h', e⟩ := for_seq enc st R hs l s h0
  subst hρ
  rw [e, Dr.bind_ok]
  exact he s' h'
theorem for_out {α σ : Type} {g : FG} {body : FS} {dead : List Nat} (enc : α → D) (st : σ → Rho) (R : σ → List α → Prop) (Z : D → Prop) (hs : ∀ s x l, R s (x :: l) → (∃ s', R s' l ∧ turnF g body dead (enc x) (st s) = .ok (.nx (st s'))) ∨ ∃ d ρ, Z d ∧ turnF g body dead (enc x) (st s) = .ok (.rt d ρ)) : ∀ (l : List α) (s : σ), R s l → (∃ s', R s' [] ∧ fForL g body dead (l.map enc) (st s) = .ok (.nx (st s'))) ∨ ∃ d ρ, Z d ∧ fForL g body dead (l.map enc) (st s) = .ok (.rt d ρ)
  | [], s, h => .inl ⟨s, h, rfl⟩
  | x :: l, s, h => by
    rcases hs s x l h with ⟨s1, h1, e1⟩ | ⟨d, ρ, z, e1⟩
    · rcases for_out enc st R Z hs l s1 h1 with ⟨s2, h2, e2⟩ | ⟨d, ρ, z, e2⟩
      · refine .inl ⟨s2, h2, ?_⟩
        rw [List.map_cons, fForL_cons, e1, Dr.bind_ok]
        exact e2
      · refine .inr ⟨d, ρ, z, ?_⟩
        rw [List.map_cons, fForL_cons, e1, Dr.bind_ok]
        exact e2
    · refine .inr ⟨d, ρ, z, ?_⟩
      rw [List.map_cons, fForL_cons, e1, Dr.bind_ok]
theorem for_outK {α σ β : Type} {g : FG} {body : FS} {dead : List Nat} {K : Fl → Dr β} {r : Dr β} (enc : α → D) (st : σ → Rho) (R : σ → List α → Prop) (Z : D → Prop) {l : List α} {s : σ} {ρ : Rho} (h0 : R s l) (hs : ∀ s x l, R s (x :: l) → (∃ s', R s' l ∧ turnF g body dead (enc x) (st s) = .ok (.nx (st s'))) ∨ ∃ d ρ, Z d ∧ turnF g body dead (enc x) (st s) = .ok (.rt d ρ)) (he : ∀ s, R s [] → K (.nx (st s)) = r) (hz : ∀ d ρ, Z d → K (.rt d ρ) = r) (hρ : ρ = st s := by rfl) : (fForL g body dead (l.map enc) ρ).bind K = r := by
  subst hρ
  rcases for_out enc st R Z hs l s h0 with ⟨s', h', e⟩ | ⟨d, ρ, z, e⟩
  · rw [e, Dr.bind_ok]
    exact he s' h'
  · rw [e, Dr.bind_ok]
    exact hz d ρ z
theorem for_wp {α σ : Type} {g : FG} {body : FS} {dead : List Nat} {X : ExD → Prop} {Q : Fl → Prop} (enc : α → D) (st : σ → Rho) (R : σ → List α → Prop) (hs : ∀ s x l, R s (x :: l) → (turnF g body dead (enc x) (st s)).wp (fun r => match r with
    | .nx ρ => ∃ s', ρ = st s' ∧ R s' l
    | .bk ρ => Q (.nx ρ)
    | .rt d ρ => Q (.rt d ρ)
    | .ct ρ => False) X) (he : ∀ s, R s [] → Q (.nx (st s))) : ∀ (l : List α) (s : σ), R s l → (fForL g body dead (l.map enc) (st s)).wp Q X
  | [], s, h => he s h
  | x :: l, s, h => by
    rw [List.map_cons, fForL_cons, Dr.wp_bind]
    refine (hs s x l h).imp (fun r hr => ?_) fun _ z => z
    cases r with
    | nx ρ =>
      obtain ⟨s', rfl, h'⟩ := hr
      exact for_wp enc st R hs he l s' h'
    | bk ρ => exact hr
    | rt d ρ => exact hr
    | ct ρ => exact hr.elim
theorem for_wpK {α σ : Type} {g : FG} {body : FS} {dead : List Nat} {X : ExD → Prop} {Q : Fl → Prop} (enc : α → D) (st : σ → Rho) (R : σ → List α → Prop) {l : List α} {s : σ} {ρ : Rho} (h0 : R s l) (hs : ∀ s x l, R s (x :: l) → (turnF g body dead (enc x) (st s)).wp (fun r => match r with
    | .nx ρ => ∃ s', ρ = st s' ∧ R s' l
    | .bk ρ => Q (.nx ρ)
    | .rt d ρ => Q (.rt d ρ)
    | .ct ρ => False) X) (he : ∀ s, R s [] → Q (.nx (st s))) (hρ : ρ = st s := by rfl) : (fForL g body dead (l.map enc) ρ).wp Q X := by
  subst hρ
  exact for_wp enc st R hs he l s h0
end
end DX

set_option Elab.async false
set_option linter.all false
set_option maxRecDepth 100000
namespace DX
open PySem L2
noncomputable section
def nbN : Nat → D → Bool
  | _, .non => true
  | _, .int _ => true
  | _, .str s => PyData.strOk s
  | n + 1, .lst l => l.all (nbN n)
  | n + 1, .tup l => l.all (nbN n)
  | _, _ => false
theorem nb_ok : ∀ (n : Nat) (d : D), nbN n d = true → okN n d = true
  | n, .non, _ => by cases n <;> rfl
  | n, .int _, _ => by cases n <;> rfl
  | n, .str s, h => by cases n <;> simpa [nbN, okN] using h
  | n + 1, .lst l, h => by
    simp only [nbN, okN, List.all_eq_true] at h ⊢
    exact fun x hx => nb_ok n x (h x hx)
  | n + 1, .tup l, h => by
    simp only [nbN, okN, List.all_eq_true] at h ⊢
    exact fun x hx => nb_ok n x (h x hx)
  | n, .bl _, h => by cases n <;> simp [nbN] at h
  | n, .ins _ _, h => by cases n <;> simp [nbN] at h
  | n, .dct _, h => by cases n <;> simp [nbN] at h
  | n, .cls _, h => by cases n <;> simp [nbN] at h
  | n, .ty _, h => by cases n <;> simp [nbN] at h
  | 0, .lst _, h => by simp [nbN] at h
  | 0, .tup _, h => by simp [nbN] at h
theorem eqvAll_nb {n : Nat} (ih : ∀ x y : D, nbN n x = true → ∀ m, nbN m y = true → (PyData.eqv x.toP y.toP = true ↔ x = y)) : ∀ l l' : List D, l.all (nbN n) = true → ∀ m, l'.all (nbN m) = true → (PyData.eqvAll (D.toPs l) (D.toPs l') = true ↔ l = l')
  | [], [], _, _, _ => by simp [D.toPs, PyData.eqvAll]
  | x :: l, [], _, _, _ => by simp [D.toPs, PyData.eqvAll]
  | [], y :: l', _, _, _ => by simp [D.toPs, PyData.eqvAll]
  | x :: l, y :: l', h, m, k => by
    rw [List.all_cons, Bool.and_eq_true] at h k
    rw [D.toPs, D.toPs, PyData.eqvAll, Bool.and_eq_true, ih x y h.1 m k.1, eqvAll_nb ih l l' h.2 m k.2]
    simp
theorem eqv_nb : ∀ (n : Nat) (x y : D), nbN n x = true → ∀ m, nbN m y = true → (PyData.eqv x.toP y.toP = true ↔ x = y) := by
  intro n
  induction n with
  | zero =>
    intro x y hx m hy
    cases x <;> simp [nbN] at hx <;> cases y <;> cases m <;> simp [nbN] at hy <;> simp [D.toP, PyData.eqv]
  | succ n ih =>
    intro x y hx m hy
    cases x <;> simp only [nbN, Bool.false_eq_true] at hx <;> cases y <;> cases m <;> simp only [nbN, Bool.false_eq_true] at hy <;> simp only [D.toP, PyData.eqv]
    all_goals first
      | (rw [eqvAll_nb ih _ _ hx _ hy]; simp; done)
      | (simp; done)
theorem eqD_nb {x y : D} (hx : nbN 60 x = true) (hy : nbN 60 y = true) : eqD x y = true ↔ x = y := eqv_nb 60 x y hx 60 hy
end
end DX

set_option Elab.async false
set_option linter.all false
set_option maxRecDepth 100000
namespace DX
open PySem L2
noncomputable section
variable {c : Cf} {m : EM} {f : FE}
def okFl (p : String × D) : Bool := !cellF p.1 || match p.2 with
  | .lst _ => true
  | d => !cellLike d
def okT : D → Bool
  | .ty _ => false
  | .dct _ => false
  | .ins _ gs => gs.all okFl
  | _ => true
def hideR (ρ : Rho) : Rho := ρ.map fun o => match o with
  | some d => if okT d = true then some d else none
  | none => none
def leafK : D → Dr D := fun d => must (leafD d = true) (.ok d)
theorem calm_okT {α : Type} {a : α} : (Dr.ok a).calm = .ok a := rfl
end
end DX

set_option Elab.async false
set_option linter.all false
set_option maxRecDepth 100000
namespace DX
open PySem L2
noncomputable section
variable {c : Cf} {m ma mo : EM} {f fa fo : FE}
def fmtK : D → Dr D
  | .str s => must (s.length ≤ 10000000) (.ok (.str s))
  | .int i => must (i.natAbs < 2 ^ 60) (.ok (.str (toString i)))
  | _ => .no
def fmtRK (n : Nat) : D → Dr D
  | .int i => must (i.natAbs < 2 ^ 60) (.ok (.str (PyProof.Rows.intSpecText (fmR n) i)))
  | _ => .no
def fmtLK (n : Nat) : D → Dr D
  | .str s => must (s.length ≤ 10000000) (.ok (.str (padR n s)))
  | _ => .no
def fFmt (f : FE) : FE := fun ρ => (f ρ).bind fmtK
def fFmtR (n : Nat) (f : FE) : FE := fun ρ => (f ρ).bind (fmtRK n)
def fFmtL (n : Nat) (f : FE) : FE := fun ρ => (f ρ).bind (fmtLK n)
abbrev FJ := Str → Rho → Dr Str
def fjNil : FJ := fun acc _ => .ok acc
def fjK (acc : Str) (k : Str → Dr Str) : D → Dr Str
  | .str y => must (acc.length + y.length ≤ 10000000) (k (acc ++ y))
  | _ => .no
def fjCons (f : FE) (r : FJ) : FJ := fun acc ρ => (f ρ).bind (fjK acc fun t => r t ρ)
def fJs (r : FJ) : FE := fun ρ => (r Str.empty ρ).bind fun t => .ok (.str t)
def strsD : List D → Option (List Str)
  | [] => some []
  | .str s :: l => (strsD l).map (s :: ·)
  | _ :: _ => none
theorem strsD_map : ∀ (l : List Str), strsD (l.map .str) = some l
  | [] => rfl
  | s :: l => by
    show (strsD (l.map .str)).map (s :: ·) = _
    rw [strsD_map l]
    rfl
def joinK2 (a : Str) : D → Dr D
  | .lst ds => opt (strsD ds) fun ys => must (joinFits a ys) (.ok (.str (Str.join a ys)))
  | .tup ds => opt (strsD ds) fun ys => must (joinFits a ys) (.ok (.str (Str.join a ys)))
  | _ => .no
def joinK (k : Dr D) : D → Dr D
  | .str a => k.bind (joinK2 a)
  | _ => .no
def fJoin (fo fa : FE) : FE := fun ρ => (fo ρ).bind (joinK (fa ρ))
def ftConsG (fg : FG) (gs : List D → Rho → Dr Rho) : List D → Rho → Dr Rho := fun ds ρ => match ds with
  | d :: ds => (fg d ρ).bind fun ρ1 => gs ds ρ1
  | [] => .no
end
end DX
namespace DX
open PySem L2
noncomputable section
variable {f fo fa : FE} {ρ : Rho} {acc : Str} {k : Str → Dr Str} {r : FJ} {d : D} {s : Str} {i : Int} {n : Nat}
theorem r_fmt : fFmt f ρ = (f ρ).bind fmtK := rfl
theorem r_fmtS : fmtK (.str s) = must (s.length ≤ 10000000) (.ok (.str s)) := rfl
theorem r_fmtI : fmtK (.int i) = must (i.natAbs < 2 ^ 60) (.ok (.str (toString i))) := rfl
theorem r_fmtR : fFmtR n f ρ = (f ρ).bind (fmtRK n) := rfl
theorem r_fmtRK : fmtRK n (.int i) = must (i.natAbs < 2 ^ 60) (.ok (.str (PyProof.Rows.intSpecText (fmR n) i))) := rfl
theorem r_fmtL : fFmtL n f ρ = (f ρ).bind (fmtLK n) := rfl
theorem r_fmtLK : fmtLK n (.str s) = must (s.length ≤ 10000000) (.ok (.str (padR n s))) := rfl
theorem r_jnil : fjNil acc ρ = .ok acc := rfl
theorem r_jcons : fjCons f r acc ρ = (f ρ).bind (fjK acc fun t => r t ρ) := rfl
theorem r_jK : fjK acc k (.str s) = must (acc.length + s.length ≤ 10000000) (k (acc ++ s)) := rfl
theorem r_js : fJs r ρ = (r Str.empty ρ).bind fun t => .ok (.str t) := rfl
theorem r_join : fJoin fo fa ρ = (fo ρ).bind (joinK (fa ρ)) := rfl
theorem r_joinK {z : Dr D} : joinK z (.str s) = z.bind (joinK2 s) := rfl
theorem r_join2L {ds : List D} : joinK2 s (.lst ds) = opt (strsD ds) fun ys => must (joinFits s ys) (.ok (.str (Str.join s ys))) := rfl
theorem r_join2T {ds : List D} : joinK2 s (.tup ds) = opt (strsD ds) fun ys => must (joinFits s ys) (.ok (.str (Str.join s ys))) := rfl
theorem r_leafB {b : Bool} : leafK (.bl b) = .ok (.bl b) := must_ok rfl
theorem r_leafS : leafK (.str s) = .ok (.str s) := must_ok rfl
theorem r_leafI : leafK (.int i) = .ok (.int i) := must_ok rfl
theorem r_leafN : leafK .non = .ok .non := must_ok rfl
theorem r_hide0 : hideR [] = [] := rfl
theorem r_hideN {l : Rho} : hideR (none :: l) = none :: hideR l := rfl
theorem r_hideS {l : Rho} (h : okT d = true) : hideR (some d :: l) = some d :: hideR l := by
  show (if okT d = true then some d else none) :: _ = _
  rw [if_pos h]
  rfl
theorem r_hideI {l : Rho} : hideR (some (.int i) :: l) = some (.int i) :: hideR l := r_hideS rfl
theorem r_hideStr {l : Rho} : hideR (some (.str s) :: l) = some (.str s) :: hideR l := r_hideS rfl
theorem r_hideB {l : Rho} {b : Bool} : hideR (some (.bl b) :: l) = some (.bl b) :: hideR l := r_hideS rfl
theorem r_hideNo {l : Rho} : hideR (some .non :: l) = some .non :: hideR l := r_hideS rfl
theorem r_hideL {l : Rho} {ds : List D} : hideR (some (.lst ds) :: l) = some (.lst ds) :: hideR l := r_hideS rfl
theorem r_hideT {l : Rho} {ds : List D} : hideR (some (.tup ds) :: l) = some (.tup ds) :: hideR l := r_hideS rfl
theorem r_hideTy {l : Rho} {t : String} : hideR (some (.ty t) :: l) = none :: hideR l := rfl
theorem r_hideX {l : Rho} {C : String} {gs : List (String × D)} : hideR (some (.ins C gs) :: l) = (if gs.all okFl = true then some (.ins C gs) else none) :: hideR l := rfl
theorem r_tconsG {fg : FG} {gs : List D → Rho → Dr Rho} {ds : List D} : ftConsG fg gs (d :: ds) ρ = (fg d ρ).bind fun ρ1 => gs ds ρ1 := rfl
end
end DX

set_option Elab.async false
set_option linter.all false
set_option maxRecDepth 100000
namespace DX
open PySem L2
noncomputable section
section
variable {c : Cf} {B : Bs} {ρ ρ' : Rho} {δ δ' : Slots} {S S' : Store} {os : List (Option Nat)} {ws : List W} {ds : List D} {m ma mb mo mi : EM} {f fa fb fo fi : FE} {mr mk : AM} {fr fk : FAs} {o : Bool} {w : W} {d : D}
def dropK (ρ : Rho) (fa : FE) : D → Dr Fl
  | .lst ds => (fa ρ).bind fun _ => must (ds.length < 10000000) (.ok (.nx ρ))
  | _ => .no
def fDropApp (fo fa : FE) : FS := fun ρ => (fo ρ).bind (dropK ρ fa)
theorem EmX.cell {ds : List D} (k : EmX c B ρ δ S w (.lst ds)) : ∃ a, w = .ref a ∧ S a = some (.lst (ds.map .d)) := by
  obtain ⟨A, Lr, k, hw, hr, hc⟩ := k
  obtain ⟨a, rfl⟩ := hc rfl
  cases hw with
  | lst h => exact ⟨a, rfl, h⟩
theorem EmX.put {a : Addr} {cl : Cell} {ds : List D} (k : EmX c B ρ δ S (.ref a) (.lst ds)) : Em c B ρ δ (upS S a cl) := by
  obtain ⟨A, Lr, k, hw, hr, hc⟩ := k
  cases hw with
  | lst h =>
    obtain ⟨n1, n2⟩ := hr a (by simp)
    refine ⟨A, k.onto2 (fun b x h1 h2 => ?_) (fun b hb => ?_) fun i d w e1 e2 e3 hw => hw.fr fun b hb => upS_ne fun z => n1 (by rw [← z]; exact k.inA i b hb)⟩
    · rw [upS_ne fun z => by rw [z, n2] at h2; cases h2]
      exact k.fr b x h1 h2
    · rw [upS_ne fun z => n1 (by rw [← z]; exact hb)]
      exact k.al b hb
def mvK (i j : Nat) (ρ : Rho) (ds es : List D) : D → Dr Fl
  | .int n => opt (seqIndex? n es.length) fun k => opt es[k]? fun d => must (ds.length < 10000000 ∧ -(2 ^ 63) ≤ n ∧ n < 2 ^ 63) (.ok (.nx ((ρ.set j (some (.lst (es.eraseIdx k)))).set i (some (.lst (ds ++ [d]))))))
  | _ => .no
def mvL2 (i j : Nat) (f : FE) (ρ : Rho) (ds : List D) : D → Dr Fl
  | .lst es => (f ρ).bind (mvK i j ρ ds es)
  | _ => .no
def mvL1 (i j : Nat) (f : FE) (ρ : Rho) : D → Dr Fl
  | .lst ds => opt (getR ρ j) (mvL2 i j f ρ ds)
  | _ => .no
def fMv (i j : Nat) (f : FE) : FS := fun ρ => opt (getR ρ i) (mvL1 i j f ρ)
theorem getR_set_ne {d : Option D} : ∀ {ρ : Rho} {i j : Nat}, i ≠ j → getR (ρ.set j d) i = getR ρ i
  | [], _, _, _ => rfl
  | x :: l, 0, 0, h => absurd rfl h
  | x :: l, 0, j + 1, _ => rfl
  | x :: l, i + 1, 0, _ => rfl
  | x :: l, i + 1, j + 1, h => getR_set_ne (ρ := l) fun z => h (congrArg (· + 1) z)
def reprK (cl : String) (F : DF) : List D → Dr D
  | [.ins C gs] => must (C = cl) ((F [.ins C gs]).bind fun r => match r with
    | .str s => .ok (.str s)
    | _ => .no)
  | _ => .no
def boolK (cl : String) (F : DF) : List D → Dr D
  | [.ins C gs] => must (C = cl) ((F [.ins C gs]).bind fun r => match r with
    | .bl s => .ok (.bl s)
    | _ => .no)
  | _ => .no
def fReprO (cl : String) (F : DF) (fr : FAs) : FE := fun ρ => (fr ρ).bind (reprK cl F)
def fBoolO (cl : String) (F : DF) (fr : FAs) : FE := fun ρ => (fr ρ).bind (boolK cl F)
def ownK (g : Bool → Bool) : D → Dr D
  | .bl b => .ok (.bl (g b))
  | _ => .no
def eqOK (cs : List String) (cl : String) (g : Bool → Bool) (F : DF) (a b : D) : Dr D := match a with
  | .ins C gs => opt b.tg fun t => must (C = cl ∧ t.inC cs ∧ ∀ e, t = .own e → e = cl) (((F [.ins C gs, b]).calm).bind (ownK g))
  | _ => .no
def inOK (cl : String) (g : Bool → Bool) (F : DF) (a b : D) : Dr D := match b with
  | .ins C gs => must (C = cl) (((F [.ins C gs, a]).calm).bind (ownK g))
  | _ => .no
def fEqO (cs : List String) (cl : String) (g : Bool → Bool) (F : DF) (fa fb : FE) : FE := fun ρ => (fa ρ).bind fun a => (fb ρ).bind (eqOK cs cl g F a)
def fInO (cl : String) (g : Bool → Bool) (F : DF) (fa fb : FE) : FE := fun ρ => (fa ρ).bind fun a => (fb ρ).bind (inOK cl g F a)
def rowD : D → Option (List Int)
  | .tup l => allID l
  | _ => none
def rowsDD : List D → Option (List (List Int))
  | [] => some []
  | d :: l => (rowD d).bind fun r => (rowsDD l).map (r :: ·)
theorem allID_eq : ∀ {l : List D} {r : List Int}, allID l = some r → l = r.map D.int
  | [], r, h => by cases h; rfl
  | .int b :: l, r, h => by
    unfold allID at h
    cases q : allID l with
    | none => rw [q] at h; cases h
    | some r2 =>
      rw [q] at h
      cases h
      rw [allID_eq q]
      rfl
  | .non :: _, _, h => by cases h
  | .bl _ :: _, _, h => by cases h
  | .str _ :: _, _, h => by cases h
  | .lst _ :: _, _, h => by cases h
  | .tup _ :: _, _, h => by cases h
  | .ins _ _ :: _, _, h => by cases h
  | .dct _ :: _, _, h => by cases h
  | .cls _ :: _, _, h => by cases h
  | .ty _ :: _, _, h => by cases h
def sortK (f : List (List Int) → List (List Int)) (ds : List D) : Dr D := opt (rowsDD ds) fun rows => must (∃ d B, rowsOk d B rows) (.ok (.lst ((f rows).map tupI)))
def sortRK : D → Dr D
  | .lst ds => sortK srt ds
  | _ => .no
def sortSK : D → Dr D
  | .lst ds => sortK sset ds
  | .tup ds => sortK sset ds
  | _ => .no
def fSortR (f : FE) : FE := fun ρ => (f ρ).bind sortRK
def fSortS (f : FE) : FE := fun ρ => (f ρ).bind sortSK
end
end
end DX
namespace DX
open PySem L2
noncomputable section
variable {f fo fa fb : FE} {fr : FAs} {ρ : Rho} {d a b : D} {s : Str} {i j : Nat} {n : Int} {ds es : List D} {cl C : String} {cs : List String} {g : Bool → Bool} {F : DF} {gs : List (String × D)} {q : Bool}
theorem r_dropApp : fDropApp fo fa ρ = (fo ρ).bind (dropK ρ fa) := rfl
theorem r_dropK : dropK ρ fa (.lst ds) = (fa ρ).bind fun _ => must (ds.length < 10000000) (.ok (.nx ρ)) := rfl
theorem r_mv : fMv i j f ρ = opt (getR ρ i) (mvL1 i j f ρ) := rfl
theorem r_mv1 : mvL1 i j f ρ (.lst ds) = opt (getR ρ j) (mvL2 i j f ρ ds) := rfl
theorem r_mv2 : mvL2 i j f ρ ds (.lst es) = (f ρ).bind (mvK i j ρ ds es) := rfl
theorem r_reprO : fReprO cl F fr ρ = (fr ρ).bind (reprK cl F) := rfl
theorem r_reprK : reprK cl F [.ins C gs] = must (C = cl) ((F [.ins C gs]).bind fun r => match r with
    | .str s => .ok (.str s)
    | _ => .no) := rfl
theorem r_boolO : fBoolO cl F fr ρ = (fr ρ).bind (boolK cl F) := rfl
theorem r_boolK : boolK cl F [.ins C gs] = must (C = cl) ((F [.ins C gs]).bind fun r => match r with
    | .bl s => .ok (.bl s)
    | _ => .no) := rfl
theorem r_eqO : fEqO cs cl g F fa fb ρ = (fa ρ).bind fun a => (fb ρ).bind (eqOK cs cl g F a) := rfl
theorem r_eqOK : eqOK cs cl g F (.ins C gs) b = opt b.tg fun t => must (C = cl ∧ t.inC cs ∧ ∀ e, t = .own e → e = cl) (((F [.ins C gs, b]).calm).bind (ownK g)) := rfl
theorem r_inO : fInO cl g F fa fb ρ = (fa ρ).bind fun a => (fb ρ).bind (inOK cl g F a) := rfl
theorem r_inOK : inOK cl g F a (.ins C gs) = must (C = cl) (((F [.ins C gs, a]).calm).bind (ownK g)) := rfl
theorem r_ownK : ownK g (.bl q) = .ok (.bl (g q)) := rfl
theorem r_sortR : fSortR f ρ = (f ρ).bind sortRK := rfl
theorem r_sortS : fSortS f ρ = (f ρ).bind sortSK := rfl
theorem r_sortRK : sortRK (.lst ds) = sortK srt ds := rfl
theorem r_sortSL : sortSK (.lst ds) = sortK sset ds := rfl
theorem r_sortST : sortSK (.tup ds) = sortK sset ds := rfl
end
end DX

set_option Elab.async false
set_option linter.all false
set_option maxRecDepth 100000
namespace DX
open PySem L2
noncomputable section
section
variable {c : Cf} {B : Bs} {ρ ρ' : Rho} {δ δ' : Slots} {S S' : Store} {m ma mb : EM} {f fa fb : FE} {t t1 : TM} {ft ft1 : FT}
def lcF2 (g : FG) (t : FT) (it1 : FI) (vs1 : List Nat) (g1 : FG) (t1 : FT) (m : FE) (ρ : Rho) : List D → Dr (List D)
  | [] => .ok []
  | x :: xs => (g x ρ).calm.bind fun ρ1 => (t ρ1).calm.bind fun b => if b = true then (it1 ρ1).calm.bind fun us => must (us.length ≤ 1000) ((lcF g1 t1 m (wipeR ρ1 vs1) us).bind fun ys => must (ys.length ≤ 1000) ((lcF2 g t it1 vs1 g1 t1 m ρ xs).bind fun zs => .ok (ys ++ zs))) else lcF2 g t it1 vs1 g1 t1 m ρ xs
def fLc2 (vs : List Nat) (it : FI) (g : FG) (t : FT) (it1 : FI) (vs1 : List Nat) (g1 : FG) (t1 : FT) (m : FE) : FE := fun ρ => (it ρ).bind fun xs => must (xs.length ≤ 1000) ((lcF2 g t it1 vs1 g1 t1 m (wipeR ρ vs) xs).bind fun ys => .ok (.lst ys))
def binOK (cl : String) (F : DF) (a b : D) : Dr D := match a, b with
  | .ins C gs, .ins E hs => must (C = cl ∧ E = cl) (F [.ins C gs, .ins E hs]).calm
  | _, _ => .no
def fBinO (cl : String) (F : DF) (fa fb : FE) : FE := fun ρ => (fa ρ).bind fun a => (fb ρ).bind (binOK cl F a)
def fPar3 (i j l : Nat) (fa fb fd : FE) : FS := fun ρ => (fa ρ).bind fun a => (fb ρ).bind fun b => (fd ρ).bind fun d => .ok (.nx (((ρ.set i (some a)).set j (some b)).set l (some d)))
def sortDK : D → Dr D
  | .lst ds => must (SortOk ds) (.ok (.lst (sortD ds)))
  | _ => .no
def fSortD (f : FE) : FE := fun ρ => (f ρ).bind sortDK
theorem qe_sortD (h : QE c m f) : QE c (mSortD m) (fSortD f) := fun B ρ δ S P X k q => by
  unfold fSortD at q
  rw [Dr.wp_bind] at q
  refine h B ρ δ S _ X k (q.imp (fun d q S2 k2 => ?_) fun e z => z)
  cases d with
  | lst ds =>
    obtain ⟨hr, q3⟩ := must_wp (show (must (SortOk ds) _).wp _ _ from q)
    exact ⟨ds, rfl, hr, q3 S2 k2⟩
  | _ => exact q.elim
end
section
variable {ρ : Rho} {fa fb f m : FE} {cl : String} {F : DF} {C E : String} {gs hs : List (String × D)} {ds : List D} {vs vs1 : List Nat} {it it1 : FI} {g g1 : FG} {t t1 : FT}
theorem r_lc2 : fLc2 vs it g t it1 vs1 g1 t1 m ρ = (it ρ).bind fun xs => must (xs.length ≤ 1000) ((lcF2 g t it1 vs1 g1 t1 m (wipeR ρ vs) xs).bind fun ys => .ok (.lst ys)) := rfl
theorem r_par3 {fd : FE} {i j l : Nat} : fPar3 i j l fa fb fd ρ = (fa ρ).bind fun a => (fb ρ).bind fun b => (fd ρ).bind fun d => .ok (.nx (((ρ.set i (some a)).set j (some b)).set l (some d))) := rfl
theorem r_binO : fBinO cl F fa fb ρ = (fa ρ).bind fun a => (fb ρ).bind (binOK cl F a) := rfl
theorem r_binOK : binOK cl F (.ins C gs) (.ins E hs) = must (C = cl ∧ E = cl) (F [.ins C gs, .ins E hs]).calm := rfl
theorem r_sortD : fSortD f ρ = (f ρ).bind sortDK := rfl
theorem r_sortDK : sortDK (.lst ds) = must (SortOk ds) (.ok (.lst (sortD ds))) := rfl
end
end
end DX

set_option Elab.async false
set_option linter.all false
set_option maxRecDepth 100000
namespace DX
open PySem L2
noncomputable section
section
variable {c : Cf} {B : Bs} {ρ ρ' : Rho} {δ δ' : Slots} {S S' : Store} {m ma mb mz mi mv mk : EM} {f fa fb fz fi fv fk : FE} {t : TM} {ft : FT} {o : Bool}
theorem valK_map (gs : List (Key × D)) (k : Key) : valK (gs.map fun p => (p.1, W.d p.2)) k = (valK gs k).map W.d := by
  induction gs with
  | nil => rfl
  | cons p gs ih =>
    rw [List.map_cons]
    by_cases e : p.1 = k
    · rw [valK_pos (p := (p.1, W.d p.2)) e, valK_pos e]; rfl
    · rw [valK_neg (p := (p.1, W.d p.2)) e, valK_neg e, ih]
theorem putKk_map (gs : List (Key × D)) (k : Key) (d : D) : putKk (gs.map fun p => (p.1, W.d p.2)) k (.d d) = (putKk gs k d).map fun p => (p.1, W.d p.2) := by
  unfold putKk
  rw [List.any_map]
  show (if (gs.any fun p => decide (p.1 = k)) = true then _ else _) = _
  split
  · rw [List.map_map, List.map_map]
    refine List.map_congr_left fun p _ => ?_
    show (if p.1 = k then (p.1, W.d d) else (p.1, W.d p.2)) = (fun p => (p.1, W.d p.2)) (if p.1 = k then (p.1, d) else p)
    split <;> rfl
  · rw [List.map_append]
    rfl
def dGetK (y : D) : D → Dr D
  | .dct gs => opt (kOf y) fun k => opt (valK gs k) .ok
  | _ => .no
def fDGet (fa fb : FE) : FE := fun ρ => (fa ρ).bind fun a => (fb ρ).bind fun y => dGetK y a
theorem qe_dget (ha : QE c ma fa) (hb : QE c mb fb) : QE c (mDGet ma mb) (fDGet fa fb) := fun B ρ δ S P X k q => by
  unfold fDGet at q
  rw [Dr.wp_bind] at q
  refine ha B ρ δ S _ X k (q.imp (fun a q S1 k1 => ?_) fun e z => z)
  rw [Dr.wp_bind] at q
  refine hb B ρ δ S1 _ X k1 (q.imp (fun y q S2 k2 => ?_) fun e z => z)
  cases a with
  | dct gs =>
    obtain ⟨kk, ek, q⟩ := opt_wp (show (opt (kOf y) _).wp _ _ from q)
    obtain ⟨d, ed, q⟩ := opt_wp q
    show (match (some (gs.map fun p => (p.1, W.d p.2)) : Option (List (Key × W))), kOf y with | some ws, some k => _ | _, _ => False)
    rw [ek]
    show (match valK (gs.map fun p => (p.1, W.d p.2)) kk with | some w => _ | none => False)
    rw [valK_map, ed]
    exact q S2 k2
  | _ => exact q.elim
def dInK (g : Bool → Bool) (y : D) : D → Dr D
  | .dct gs => opt (kOf y) fun k => .ok (.bl (g (valK gs k).isSome))
  | _ => .no
def fDIn (g : Bool → Bool) (fy fa : FE) : FE := fun ρ => (fy ρ).bind fun y => (fa ρ).bind (dInK g y)
theorem qe_din {g : Bool → Bool} (hb : QE c mb fb) (ha : QE c ma fa) : QE c (mDIn g mb ma) (fDIn g fb fa) := fun B ρ δ S P X k q => by
  unfold fDIn at q
  rw [Dr.wp_bind] at q
  refine hb B ρ δ S _ X k (q.imp (fun y q S1 k1 => ?_) fun e z => z)
  rw [Dr.wp_bind] at q
  refine ha B ρ δ S1 _ X k1 (q.imp (fun a q S2 k2 => ?_) fun e z => z)
  cases a with
  | dct gs =>
    obtain ⟨kk, ek, q⟩ := opt_wp (show (opt (kOf y) _).wp _ _ from q)
    show (match (some (gs.map fun p => (p.1, W.d p.2)) : Option (List (Key × W))), kOf y with | some ws, some k => _ | _, _ => False)
    rw [ek]
    show P (.d (.bl (g (valK (gs.map fun p => (p.1, W.d p.2)) kk).isSome))) S2
    rw [valK_map, Option.isSome_map]
    exact q S2 k2
  | _ => exact q.elim
def isDct : D → Bool
  | .dct _ => true
  | _ => false
def dGet2K (y z : D) : D → Dr D
  | .dct gs => opt (kOf y) fun k => .ok ((valK gs k).getD z)
  | _ => .no
def fDGet2 (fa fy fz : FE) : FE := fun ρ => (fa ρ).bind fun a => must (isDct a = true) ((fy ρ).bind fun y => (fz ρ).bind fun z => dGet2K y z a)
theorem qe_dget2 (ha : QE c ma fa) (hb : QE c mb fb) (hz : QE c mz fz) : QE c (mDGet2 ma mb mz) (fDGet2 fa fb fz) := fun B ρ δ S P X k q => by
  unfold fDGet2 at q
  rw [Dr.wp_bind] at q
  refine ha B ρ δ S _ X k (q.imp (fun a q S1 k1 => ?_) fun e z => z)
  obtain ⟨hd, q⟩ := must_wp q
  rw [Dr.wp_bind] at q
  cases a with
  | dct gs =>
    refine ⟨rfl, hb B ρ δ S1 _ X k1 (q.imp (fun y q S2 k2 => ?_) fun e z => z)⟩
    rw [Dr.wp_bind] at q
    refine hz B ρ δ S2 _ X k2 (q.imp (fun z q S3 k3 => ?_) fun e z => z)
    obtain ⟨kk, ek, q⟩ := opt_wp (show (opt (kOf y) _).wp _ _ from q)
    show (match (some (gs.map fun p => (p.1, W.d p.2)) : Option (List (Key × W))), kOf y with | some ws, some k => _ | _, _ => False)
    rw [ek]
    show P ((valK (gs.map fun p => (p.1, W.d p.2)) kk).getD (.d z)) S3
    rw [valK_map, Option.getD_map]
    exact q S3 k3
  | _ => cases hd
def listDK : D → Dr D
  | .dct gs => .ok (.lst (keysD gs))
  | _ => .no
def fListD (fa : FE) : FE := fun ρ => (fa ρ).bind listDK
theorem keysD_map (gs : List (Key × D)) : keysD (gs.map fun p => (p.1, W.d p.2)) = keysD gs := by
  unfold keysD
  rw [List.map_map]
  rfl
theorem qe_listD (ha : QE c ma fa) : QE c (mListD false ma) (fListD fa) := fun B ρ δ S P X k q => by
  unfold fListD at q
  rw [Dr.wp_bind] at q
  refine ha B ρ δ S _ X k (q.imp (fun a q S1 k1 => ?_) fun e z => z)
  cases a with
  | dct gs =>
    show newLC false ((keysD (gs.map fun p => (p.1, W.d p.2))).map .d) S1 P
    rw [keysD_map]
    exact newLC_f (q S1 k1)
  | _ => exact q.elim
def fiKeysK : D → Dr (List D)
  | .dct gs => .ok (keysD gs)
  | _ => .no
def fiKeys (fa : FE) : FI := fun ρ => (fa ρ).bind fiKeysK
theorem qi_keys (ha : QE c ma fa) : QI0 c (itKeys ma) (fiKeys fa) := fun B ρ δ S P X k q => by
  unfold fiKeys at q
  rw [Dr.wp_bind] at q
  refine ha B ρ δ S _ X k (q.imp (fun a q S1 k1 => ?_) fun e z => z)
  cases a with
  | dct gs => exact q S1 _ k1 fun _ _ _ T _ => trivial
  | _ => exact q.elim
def fDct0 : FE := fun _ => .ok (.dct [])
theorem qo_dct0 : QO c mDct0 fDct0 := fun B ρ δ S P X k q l hl => q _ _ (k.newX hl (.dct (fs := []) upS_same))
theorem Em.ownD {i : Nat} {gs : List (Key × D)} (k : Em c B ρ δ S) (er : getR ρ i = some (.dct gs)) (h1 : i ∈ c.own) (h2 : i ∉ c.pr) : ∃ a, δ[i]? = some (some (.ref a)) ∧ S a = some (.dct (gs.map fun p => (p.1, .d p.2))) ∧ B.L i = [a] := by
  obtain ⟨A, k⟩ := k
  obtain ⟨w, e, hw⟩ := k.ow i _ (getR_at er) h1
  obtain ⟨a, rfl⟩ := k.ce i _ w (getR_at er) h1 e rfl
  generalize hL : B.L i = Li at hw
  cases hw with
  | dct ha => exact ⟨a, e, ha, rfl⟩
theorem Em.putDc {i : Nat} {gs gs' : List (Key × D)} {a : Addr} (k : Em c B ρ δ S) (ew : δ[i]? = some (some (.ref a))) (hL : B.L i = [a]) (h1 : i ∈ c.own) (h2 : i ∉ c.pr) : ∃ L', Em c (B.at L') (ρ.set i (some (.dct gs'))) δ (upS S a (.dct (gs'.map fun p => (p.1, .d p.2)))) := by
  obtain ⟨A, k⟩ := k
  refine ⟨_, A, EmC.at_ (B := B) (k.put (Li := [a]) ew h2 (.dct upS_same) (fun b hb => by rw [hL]; exact hb) (fun b hb => upS_ne fun z => hb (by rw [hL, z]; simp)) (fun b hb => ?_) h1 (fun _ => ⟨a, rfl⟩))⟩
  rw [hL] at hb
  rw [List.mem_singleton.mp hb, upS_same]
  simp
def dPutK (i : Nat) (ρ : Rho) (v y : D) : D → Dr Fl
  | .dct gs => opt (kOf y) fun k => must (gs.length < 1000000) (.ok (.nx (ρ.set i (some (.dct (putKk gs k v))))))
  | _ => .no
def fDPut (i : Nat) (fi fv : FE) : FS := fun ρ => (fv ρ).bind fun v => opt (getR ρ i) fun d => (fi ρ).bind fun y => dPutK i ρ v y d
theorem qs_dput {i : Nat} (hi : QE c mi fi) (hv : QE c mv fv) (h1 : i ∈ c.own := by decide) (h2 : i ∉ c.pr := by decide) : QS c o (mDPut (mVar i) mi mv) (fDPut i fi fv) := fun B ρ δ S C k q => by
  unfold fDPut at q
  rw [Dr.wp_bind] at q
  refine hv B ρ δ S _ (XF C δ) k (q.imp (fun v q S1 k1 => ?_) fun e z => xf_of z)
  obtain ⟨d, er, q⟩ := opt_wp q
  rw [Dr.wp_bind] at q
  obtain ⟨w, L, ew, _⟩ := k1.own er h1
  show (match δ[i]? with | some (some w) => _ | _ => False)
  rw [ew]
  refine hi B ρ δ S1 _ (XF C δ) k1 (q.imp (fun y q S2 k2 => ?_) fun e z => xf_of z)
  cases d with
  | dct gs =>
    obtain ⟨kk, ek, q⟩ := opt_wp (show (opt (kOf y) _).wp _ _ from q)
    obtain ⟨hl, q⟩ := must_wp q
    obtain ⟨a, ea, e2, eL⟩ := k2.ownD er h1 h2
    rw [ew] at ea
    cases ea
    obtain ⟨L', k3⟩ := k2.putDc (gs := gs) (gs' := putKk gs kk v) ew eL h1 h2
    have e3 : kOfW (.d y) = some kk := ek
    unfold dPutP
    rw [e3]
    dsimp only
    rw [e2]
    refine ⟨by rw [List.length_map]; exact hl, ?_⟩
    rw [putKk_map]
    exact q L' δ _ k3
  | _ => exact q.elim
theorem EmC.drop {A : Addr → Prop} {L : Nat → List Addr} {i : Nat} {a : Addr} (k : EmC c B ρ δ S A L) (hL : L i = [a]) (h1 : i ∈ c.own) (h2 : i ∉ c.pr) (h3 : i ∉ c.mu) : EmC c B (ρ.set i none) δ (erS S a) (fun b => A b ∧ b ≠ a) (fun j => if j = i then [] else L j) := by
  have ai : a ∈ L i := by rw [hL]; simp
  have s0 : B.S0 a = none := k.fresh i a h2 h3 ai
  have a0 : ¬ B.A0 a := fun z => k.a1 a z s0
  have ne : ∀ j b, b ∈ (if j = i then [] else L j) → j ≠ i ∧ b ∈ L j ∧ b ≠ a := fun j b hb => by
    by_cases z : j = i
    · rw [if_pos z] at hb; cases hb
    · rw [if_neg z] at hb
      exact ⟨z, hb, fun e => k.dis j i b z hb (by rw [e]; exact ai)⟩
  have er : ∀ b, b ≠ a → erS S a b = S b := fun b hb => by unfold erS; rw [if_neg hb]
  have rho : ∀ j e, (ρ.set i none)[j]? = some (some e) → j ≠ i ∧ ρ[j]? = some (some e) := fun j e hj => by
    by_cases z : i = j
    · subst z
      have hl := (List.getElem?_eq_some_iff.mp hj).1
      rw [List.length_set] at hl
      rw [List.getElem?_set_self hl] at hj
      cases hj
    · rw [List.getElem?_set_ne z] at hj
      exact ⟨fun e => z e.symm, hj⟩
  refine ⟨by simpa using k.len, fun j e hj ho => k.tr j e (rho j e hj).2 ho, fun j e hj ho => ?_, fun j e w hj ho hw => k.ce j e w (rho j e hj).2 ho hw, fun j b hb => ⟨k.inA j b (ne j b hb).2.1, (ne j b hb).2.2⟩, fun j l b n hb hc => k.dis j l b n (ne j b hb).2.1 (ne l b hc).2.1, fun b hb => ⟨k.a0 b hb, fun e => a0 (e ▸ hb)⟩, k.a1, fun b hb => ?_, fun b hb => k.new b hb.1, fun b x hb hx => ?_, k.prd, fun j hj => ?_, fun j hj => ?_, fun j b hj hb => k.mul j b hj (ne j b hb).2.1, fun j b p m hb => k.fresh j b p m (ne j b hb).2.1⟩
  · obtain ⟨n, hj⟩ := rho j e hj
    obtain ⟨w, h, hw⟩ := k.ow j e hj ho
    refine ⟨w, h, ?_⟩
    rw [if_neg n]
    exact hw.fr fun b hb => er b fun z => k.dis j i b n hb (by rw [z]; exact ai)
  · rw [er b hb.2]
    exact k.al b hb.1
  · rw [er b fun z => by rw [z, s0] at hx; cases hx]
    exact k.fr b x hb hx
  · rw [List.getElem?_set_ne fun z => h2 (by rw [z]; exact hj)]
    exact k.prr j hj
  · rw [if_neg fun z => h2 (by rw [← z]; exact hj)]
    exact k.prl j hj
def appFK (i j : Nat) (ρ : Rho) (ds : List D) : D → Dr Fl
  | .dct gs => must (ds.length < 10000000) (.ok (.nx ((ρ.set j none).set i (some (.lst (ds ++ [.dct gs]))))))
  | _ => .no
def appFL (i j : Nat) (ρ : Rho) : D → Dr Fl
  | .lst ds => opt (getR ρ j) (appFK i j ρ ds)
  | _ => .no
def fAppFrz (i j : Nat) : FS := fun ρ => opt (getR ρ i) (appFL i j ρ)
theorem qs_appFrz {i j : Nat} (ne : i ≠ j := by decide) (h1 : i ∈ c.own := by decide) (h2 : i ∉ c.pr := by decide) (g1 : j ∈ c.own := by decide) (g2 : j ∉ c.pr := by decide) (g3 : j ∉ c.mu := by decide) : QS c o (mDrp (mBM "list" omAppend (mVar i) (aCons (mFrzD (mVar j)) aNil))) (fAppFrz i j) := fun B ρ δ S C k q => by
  obtain ⟨l, er, q⟩ := opt_wp q
  cases l with
  | lst ds =>
    obtain ⟨d, ed, q⟩ := opt_wp (show (opt (getR ρ j) (appFK i j ρ ds)).wp _ _ from q)
    cases d with
    | dct gs =>
      obtain ⟨hl, q⟩ := must_wp (show (must (ds.length < 10000000) _).wp _ _ from q)
      obtain ⟨b, eb, e2, eL⟩ := k.ownD ed g1 g2
      obtain ⟨a, ea⟩ := k.ownL er h1 h2
      obtain ⟨ha, _⟩ := k.putL (ds' := ds) ea er h1 h2
      show (match δ[i]? with | some (some w) => _ | _ => False)
      rw [ea]
      refine ⟨by unfold tyW; dsimp only; rw [ha]; rfl, ?_⟩
      show (match δ[j]? with | some (some w) => _ | _ => False)
      rw [eb]
      show (match S b with | some (.dct fs) => _ | _ => False)
      rw [e2]
      show (match dTrees (gs.map fun p => (p.1, W.d p.2)) with | some ds => _ | none => False)
      rw [dTrees_map]
      have nab : a ≠ b := fun z => by rw [z, e2] at ha; cases ha
      have hea : erS S b a = some (.lst (ds.map .d)) := by unfold erS; rw [if_neg nab]; exact ha
      obtain ⟨A, kc⟩ := k
      have k2 : Em c (B.at fun l => if l = j then [] else B.L l) (ρ.set j none) δ (erS S b) := ⟨_, EmC.at_ (kc.drop eL g1 g2 g3)⟩
      have er2 : getR (ρ.set j none) i = some (.lst ds) := by rw [getR_set_ne ne]; exact er
      obtain ⟨_, L', k3⟩ := k2.putL (ds' := ds ++ [.dct gs]) ea er2 h1 h2
      show (match erS S b a with | some (.lst l) => _ | _ => False)
      rw [hea]
      refine ⟨by simpa using hl, ?_⟩
      have e : ds.map W.d ++ [W.d (D.dct gs)] = (ds ++ [D.dct gs]).map W.d := by simp
      rw [e]
      exact q L' δ _ k3
    | _ => exact q.elim
  | _ => exact q.elim
def dcF (g : FG) (t : FT) (mk mv : FE) (ρ : Rho) : List D → List (Key × D) → Dr (List (Key × D))
  | [], acc => .ok acc
  | x :: xs, acc => (g x ρ).calm.bind fun ρ1 => (t ρ1).calm.bind fun b => if b = true then (mk ρ1).calm.bind fun y => (mv ρ1).calm.bind fun z => opt (kOf y) fun k => dcF g t mk mv ρ xs (putKk acc k z) else dcF g t mk mv ρ xs acc
def fDc (vs : List Nat) (it : FI) (g : FG) (t : FT) (mk mv : FE) : FE := fun ρ => (it ρ).bind fun xs => must (xs.length < 1000000) ((dcF g t mk mv (wipeR ρ vs) xs []).bind fun gs => .ok (.dct gs))
theorem dc_ok {vs : List Nat} {gd : Store → Prop} {g : GM} {fg : FG} {P : List (Key × W) → Store → Prop} {X : ExD → Prop} (hg : QG c vs g fg) (n : Free c vs) (ht : QT c t ft) (hk : QE c mk fk) (hm : QE c mv fv) (hgd : ∀ T, Em c B ρ δ T → gd T) : ∀ (xs : List D) (acc : List (Key × D)) (S : Store), Em c B ρ δ S →
    (dcF fg ft fk fv ρ xs acc).wp (fun gs => ∀ S', Em c B ρ δ S' → P (gs.map fun p => (p.1, .d p.2)) S') X → dcW gd g t mk mv δ P (xs.map .d) (acc.map fun p => (p.1, .d p.2)) S
  | [], acc, S, k, q => ⟨hgd S k, q S k⟩
  | x :: xs, acc, S, k, q => by
    refine ⟨hgd S k, ?_⟩
    unfold dcF at q
    rw [Dr.wp_bind] at q
    refine hg B ρ δ S x _ _ k (Dr.wp_calm (q.imp (fun ρ1 q δ1 S1 k1 o => ?_) fun e z => z))
    rw [Dr.wp_bind] at q
    have hold := o.hold n
    refine ht B ρ1 δ1 S1 _ _ k1 (Dr.wp_calm (q.imp (fun b q S2 k2 => ?_) fun e z => z))
    cases b with
    | false => exact dc_ok hg n ht hk hm hgd xs acc S2 (k2.swap k hold) q
    | true =>
      have q : ((fk ρ1).calm.bind fun y => (fv ρ1).calm.bind fun z => opt (kOf y) fun k => dcF fg ft fk fv ρ xs (putKk acc k z)).wp _ _ := q
      rw [Dr.wp_bind] at q
      refine hk B ρ1 δ1 S2 _ _ k2 (Dr.wp_calm (q.imp (fun y q S3 k3 => ?_) fun e z => z))
      rw [Dr.wp_bind] at q
      refine hm B ρ1 δ1 S3 _ _ k3 (Dr.wp_calm (q.imp (fun z q S4 k4 => ?_) fun e z => z))
      obtain ⟨kk, ek, q⟩ := opt_wp q
      refine ⟨kk, ek, ?_⟩
      rw [putKk_map]
      exact dc_ok hg n ht hk hm hgd xs (putKk acc kk z) S4 (k4.swap k hold) q
theorem erS_upS0 {a : Addr} {x : Cell} (h : S a = none) : erS (upS S a x) a = S := by
  funext b
  by_cases e : b = a
  · rw [e, erS_same, h]
  · unfold erS
    rw [if_neg e, upS_ne e]
theorem qe_dc {vs vs' : List Nat} {im : IM} {it : FI} {g : GM} {fg : FG} (hi : QI c im it) (hg : QG c vs' g fg) (ht : QT c t ft) (hk : QE c mk fk) (hm : QE c mv fv) (n : Free c vs := by decide) (n' : Free c vs' := by decide) : QE c (mFrzD (mDc vs im g t mk mv)) (fDc vs it fg ft fk fv) := fun B ρ δ S P X k q => by
  unfold fDc at q
  rw [Dr.wp_bind] at q
  refine hi B ρ δ S _ X k (q.imp (fun xs q S1 gd k1 hgd => ?_) fun e z => z)
  obtain ⟨h1, q⟩ := must_wp q
  rw [Dr.wp_bind] at q
  refine ⟨by simpa using h1, ?_⟩
  have hold : ∀ j, j ∈ c.own ∨ j ∈ c.pr ∨ j ∈ c.mu → (wipeR ρ vs)[j]? = ρ[j]? ∧ (wipeD δ vs)[j]? = δ[j]? := fun j hj => wipe_ne fun z => by
    obtain ⟨a1, a2, a3⟩ := n j z
    exact hj.elim a1 fun q => q.elim a2 a3
  refine dc_ok hg n' ht hk hm (fun T kT => hgd T (kT.swap k hold)) xs [] S1 (k1.wipe n) (q.imp (fun gs q S' k' => ?_) fun e z => z)
  intro l hl
  show (match upS S' l (.dct (gs.map fun p => (p.1, W.d p.2))) l with | some (.dct fs) => _ | _ => False)
  rw [upS_same]
  show (match dTrees (gs.map fun p => (p.1, W.d p.2)) with | some ds => _ | none => False)
  rw [dTrees_map]
  show P (.d (.dct gs)) (erS (upS S' l _) l)
  rw [erS_upS0 hl]
  exact q S' (k'.swap k hold)
def sortSIK : D → Dr D
  | .lst ds => opt (allID ds) fun ns => must (ns.length < 64) (.ok (.lst ((ssetI ns).map .int)))
  | _ => .no
def fSortSI (f : FE) : FE := fun ρ => (f ρ).bind sortSIK
theorem qe_sortSI (h : QE c m f) : QE c (mSortSI m) (fSortSI f) := fun B ρ δ S P X k q => by
  unfold fSortSI at q
  rw [Dr.wp_bind] at q
  refine h B ρ δ S _ X k (q.imp (fun d q S2 k2 => ?_) fun e z => z)
  cases d with
  | lst ds =>
    obtain ⟨ns, en, q2⟩ := opt_wp (show (opt (allID ds) _).wp _ _ from q)
    obtain ⟨hl, q3⟩ := must_wp q2
    have e := allID_eq en
    subst e
    exact ⟨ns, by show some ((ns.map D.int).map W.d) = _; rw [List.map_map]; rfl, hl, q3 S2 k2⟩
  | _ => exact q.elim
end
section
variable {ρ : Rho} {fa fb fy fz f fi fv mk mv : FE} {y z v : D} {gs : List (Key × D)} {g : Bool → Bool} {i j : Nat} {ds : List D} {vs : List Nat} {it : FI} {gg : FG} {t : FT}
theorem r_dget : fDGet fa fb ρ = (fa ρ).bind fun a => (fb ρ).bind fun y => dGetK y a := rfl
theorem r_dgetK : dGetK y (.dct gs) = opt (kOf y) fun k => opt (valK gs k) .ok := rfl
theorem r_din : fDIn g fy fa ρ = (fy ρ).bind fun y => (fa ρ).bind (dInK g y) := rfl
theorem r_dinK : dInK g y (.dct gs) = opt (kOf y) fun k => .ok (.bl (g (valK gs k).isSome)) := rfl
theorem r_dget2 : fDGet2 fa fy fz ρ = (fa ρ).bind fun a => must (isDct a = true) ((fy ρ).bind fun y => (fz ρ).bind fun z => dGet2K y z a) := rfl
theorem r_dget2K : dGet2K y z (.dct gs) = opt (kOf y) fun k => .ok ((valK gs k).getD z) := rfl
theorem r_isDct : isDct (.dct gs) = true := rfl
theorem r_listD : fListD fa ρ = (fa ρ).bind listDK := rfl
theorem r_listDK : listDK (.dct gs) = .ok (.lst (keysD gs)) := rfl
theorem r_ikeys : fiKeys fa ρ = (fa ρ).bind fiKeysK := rfl
theorem r_ikeysK : fiKeysK (.dct gs) = .ok (keysD gs) := rfl
theorem r_dct0 : fDct0 ρ = .ok (.dct []) := rfl
theorem r_dput : fDPut i fi fv ρ = (fv ρ).bind fun v => opt (getR ρ i) fun d => (fi ρ).bind fun y => dPutK i ρ v y d := rfl
theorem r_dputK : dPutK i ρ v y (.dct gs) = opt (kOf y) fun k => must (gs.length < 1000000) (.ok (.nx (ρ.set i (some (.dct (putKk gs k v)))))) := rfl
theorem r_appF : fAppFrz i j ρ = opt (getR ρ i) (appFL i j ρ) := rfl
theorem r_appFL : appFL i j ρ (.lst ds) = opt (getR ρ j) (appFK i j ρ ds) := rfl
theorem r_appFK : appFK i j ρ ds (.dct gs) = must (ds.length < 10000000) (.ok (.nx ((ρ.set j none).set i (some (.lst (ds ++ [.dct gs])))))) := rfl
theorem r_dc : fDc vs it gg t mk mv ρ = (it ρ).bind fun xs => must (xs.length < 1000000) ((dcF gg t mk mv (wipeR ρ vs) xs []).bind fun gs => .ok (.dct gs)) := rfl
theorem r_sortSI : fSortSI f ρ = (f ρ).bind sortSIK := rfl
theorem r_sortSIK {ns : List Int} (h : ns.length < 64) : sortSIK (.lst (ns.map .int)) = .ok (.lst ((ssetI ns).map .int)) := by
  show opt (allID (ns.map .int)) _ = _
  rw [allID_map, opt_some, must_ok h]
theorem r_kOfS {s : Str} : kOf (.str s) = some (.inr s) := rfl
theorem r_kOfI {i : Int} : kOf (.int i) = some (.inl i) := rfl
end
end
end DX

set_option Elab.async false
set_option linter.all false
set_option maxRecDepth 100000
namespace DX
open PySem L2
def below (a b : List Int) : Bool := (a.zip b).all fun p => decide (p.1 ≤ p.2)
end DX

set_option Elab.async false
set_option linter.all false
namespace DX
def holds (X : List (List Int)) (x : List Int) : Bool := X.any fun r => below r x
section
variable {w : Nat} {B : Int} {X Y Z : List (List Int)}
end
end DX

set_option Elab.async false
set_option linter.all false
set_option maxRecDepth 100000
namespace DX
open PySem L2
noncomputable section
abbrev nD (n : Nat) : D := .int (n : Int)
abbrev tupN (l : List Nat) : D := .tup (l.map nD)
abbrev lstB (l : List Bool) : D := .lst (l.map D.bl)
inductive Deed where
  | skip | add (c n : Nat) | take (c n : Nat) | clear (c : Nat) | pour (c d : Nat) | test (c : Nat)
def Deed.D : Deed → D
  | .skip => .tup [.str "skip"]
  | .add c n => .tup [.str "add", nD c, nD n]
  | .take c n => .tup [.str "take", nD c, nD n]
  | .clear c => .tup [.str "clear", nD c]
  | .pour c d => .tup [.str "pour", nD c, nD d]
  | .test c => .tup [.str "test", nD c]
def Deed.Ok (lk : List Bool) : Deed → Prop
  | .skip => True
  | .add c n => c < lk.length ∧ 1 ≤ n ∧ n ≤ 9
  | .take c n => c < lk.length ∧ 1 ≤ n ∧ n ≤ 9
  | .clear c => c < lk.length
  | .pour c d => c < lk.length ∧ d < lk.length ∧ c ≠ d
  | .test c => lk[c]? = some true
structure Edge where
  src : Nat
  deed : Deed
  tgt : Nat
  label : Str
def Edge.D (e : Edge) : D := .tup [nD e.src, e.deed.D, nD e.tgt, .str e.label]
structure Mach where
  leaks : List Bool
  edges : List Edge
  start : Nat
  nodes : Nat
def Mach.L (m : Mach) : D := .lst [lstB m.leaks, .lst (m.edges.map Edge.D), nD m.start, nD m.nodes]
def Mach.M (m : Mach) : D := .ins "Machine" [("own_leaks", lstB m.leaks), ("own_edges", .lst (m.edges.map Edge.D)), ("own_start", nD m.start), ("own_nodes", nD m.nodes)]
abbrev Amt := List Nat
abbrev Conf := Nat × Amt
def Conf.D (c : Conf) : D := .tup [nD c.1, tupN c.2]
inductive Move where
  | edge (k : Nat) | lose (c n : Nat)
def Move.D : Move → D
  | .edge k => .tup [.str "edge", nD k]
  | .lose c n => .tup [.str "lose", nD c, nD n]
def Deed.fool : Deed → Amt → Option Amt
  | .skip, as => some as
  | .add c n, as => some (as.set c (as.getD c 0 + n))
  | .take c n, as => if n ≤ as.getD c 0 then some (as.set c (as.getD c 0 - n)) else none
  | .clear c, as => some (as.set c 0)
  | .pour c d, as => some ((as.set d (as.getD d 0 + as.getD c 0)).set c 0)
  | .test c, as => some (as.set c 0)
def Deed.honest : Deed → Amt → Option Amt
  | .test c, as => if as.getD c 0 = 0 then some (as.set c 0) else none
  | d, as => d.fool as
def Deed.done : Deed → Amt → Amt
  | .skip, as => as
  | .add c n, as => as.set c (as.getD c 0 + n)
  | .take c n, as => as.set c (as.getD c 0 - n)
  | .clear c, as => as.set c 0
  | .pour c d, as => (as.set d (as.getD d 0 + as.getD c 0)).set c 0
  | .test c, as => as.set c 0
def Mach.step (m : Mach) (c : Conf) : Move → Option Conf
  | .edge k => match m.edges[k]? with
    | some e => if e.src = c.1 then (e.deed.honest c.2).map fun as => (e.tgt, as) else none
    | none => none
  | .lose i n => if m.leaks[i]? = some true ∧ 1 ≤ n ∧ n ≤ c.2.getD i 0 then some (c.1, c.2.set i (c.2.getD i 0 - n)) else none
def Mach.run (m : Mach) (c : Conf) : List Move → Option Conf
  | [] => some c
  | mv :: mvs => match m.step c mv with
    | some c' => m.run c' mvs
    | none => none
structure Mach.Ok (m : Mach) : Prop where
  lk1 : 1 ≤ m.leaks.length
  lk4 : m.leaks.length ≤ 4
  n1 : 1 ≤ m.nodes
  n100 : m.nodes ≤ 100
  st : m.start < m.nodes
  e200 : m.edges.length ≤ 200
  ed : ∀ e ∈ m.edges, e.src < m.nodes ∧ e.tgt < m.nodes ∧ e.deed.Ok m.leaks
theorem Deed.Ok.lt {d : Deed} {lk : List Bool} (h : d.Ok lk) : match d with
    | .skip => True
    | .add c _ => c < lk.length
    | .take c _ => c < lk.length
    | .clear c => c < lk.length
    | .pour c e => c < lk.length ∧ e < lk.length
    | .test c => c < lk.length := by
  cases d with
  | skip => trivial
  | add c n => exact h.1
  | take c n => exact h.1
  | clear c => exact h
  | pour c e => exact ⟨h.1, h.2.1⟩
  | test c => exact (List.getElem?_eq_some_iff.mp h).1
end
end DX

set_option Elab.async false
set_option linter.all false
set_option maxRecDepth 100000
namespace DX
open PySem L2
noncomputable section
def leA (as bs : Amt) : Prop := as.length = bs.length ∧ ∀ i : Nat, as.getD i 0 ≤ bs.getD i 0
theorem leA.refl (as : Amt) : leA as as := ⟨rfl, fun _ => Nat.le_refl _⟩
theorem getD_set (as : Amt) (c n i : Nat) : (as.set c n).getD i 0 = if c = i ∧ i < as.length then n else as.getD i 0 := by
  simp only [List.getD, List.getElem?_set]
  by_cases h : c = i
  · subst h
    by_cases h2 : c < as.length
    · simp [h2]
    · simp [h2]
  · simp [h]
theorem leA.set {as bs : Amt} (h : leA as bs) (c : Nat) {m n : Nat} (hm : m ≤ n) : leA (as.set c m) (bs.set c n) := by
  refine ⟨by simpa using h.1, fun i => ?_⟩
  rw [getD_set, getD_set]
  have := h.1
  have := h.2 i
  split <;> split <;> omega
theorem leA.trans {as bs cs : Amt} (h : leA as bs) (k : leA bs cs) : leA as cs := ⟨h.1.trans k.1, fun i => Nat.le_trans (h.2 i) (k.2 i)⟩
theorem eD (e : Edge) : e.D = .tup [nD e.src, e.deed.D, nD e.tgt, .str e.label] := rfl
end
end DX

set_option Elab.async false
set_option linter.all false
set_option maxRecDepth 100000
namespace DXH
open PySem PySem.Spec PyProof.Rows L2
section
variable (K : PySem.W.Frag) (a : Addr)
def fdO : Option FuncData := match K.lookup a with
  | some ⟨_, _, .func g, _⟩ => some g
  | _ => none
def ocl : Value := match K.lookup a with
  | some z => z.cls
  | none => .none
def odi : Option Addr := match K.lookup a with
  | some z => z.dict
  | none => none
def osl : Array (Option Value) := match K.lookup a with
  | some z => z.slots
  | none => #[]
def fdv : Value := match fdO K a with
  | some g => g.defaults
  | none => .none
def fkv : Value := match fdO K a with
  | some g => g.kwdefaults
  | none => .none
def fdoc : Value := match fdO K a with
  | some g => g.doc
  | none => .none
def fpm : Value := match fdO K a with
  | some g => g.pyModule
  | none => .none
def fan : Option Addr := match fdO K a with
  | some g => g.annotations
  | none => none
def fcd : Value := match fdO K a with
  | some g => g.code
  | none => .none
def fct : Value := match fdO K a with
  | some g => g.closureTuple
  | none => .none
def sqi : Array Value := match K.lookup a with
  | some ⟨_, _, .seq xs _, _⟩ => xs
  | _ => #[]
def sqn : Nat := match K.lookup a with
  | some ⟨_, _, .seq _ k, _⟩ => k
  | _ => 0
def isSq : Bool := match K.lookup a with
  | some ⟨_, _, .seq _ _, _⟩ => true
  | _ => false
end
def adr : Value → Addr
  | .ref a => a
  | _ => 0
def adr2 : Option (Option Value) → Addr
  | some (some v) => adr v
  | _ => 0
def tkn : Value → Tok
  | .int _ t => t
  | .str _ t => t
  | _ => default
def tkn2 : Option (Option Value) → Tok
  | some (some v) => tkn v
  | _ => default
theorem isSq_ok {K : PySem.W.Frag} {a : Addr} (h : isSq K a = true) : K.lookup a = some ⟨ocl K a, odi K a, .seq (sqi K a) (sqn K a), osl K a⟩ := by
  unfold isSq at h
  unfold ocl odi sqi sqn osl
  split at h
  · rename_i c d xs k sl e
    rw [e]
  · cases h
abbrev Fw : Type := Option (Str × Str × Arguments × FuncBody × Scope × Addr × List (Str × Addr) × Addr)
def seen (o : Option FuncData) : Fw := o.map fun g => (g.name, g.qualname, g.params, g.body, g.scope, g.globals, g.closure, g.builtins)
structure Df where
  ad : PySem.W.Frag → Addr
  nm : Str
  ql : Str
  ps : Arguments
  bd : List Stmt
  sc : Scope
def Df.due (d : Df) : Fw := some (d.nm, d.ql, d.ps, .stmts d.bd, d.sc, mainGlobals, [], builtinsNs)
theorem look {K : PySem.W.Frag} {a : Addr} {nm ql : Str} {ps : Arguments} {bd : List Stmt} {sc : Scope} {dV kV : Value} (h : seen (fdO K a) = some (nm, ql, ps, .stmts bd, sc, mainGlobals, [], builtinsNs)) (e1 : fdv K a = dV) (e2 : fkv K a = kV) :
    K.lookup a = some ⟨ocl K a, odi K a, .func (PySem.W.fnOf nm ql ps bd sc dV kV (fdoc K a) (fpm K a) (fan K a) (fcd K a) (fct K a)), osl K a⟩ := by
  have e0 : ∃ c d g sl, K.lookup a = some ⟨c, d, .func g, sl⟩ := by
    unfold fdO at h
    split at h
    · rename_i c d g sl e
      exact ⟨c, d, g, sl, e⟩
    · cases h
  obtain ⟨c, d, g, sl, e⟩ := e0
  have eo : fdO K a = some g := by unfold fdO; rw [e]
  rw [eo] at h
  unfold fdv at e1
  unfold fkv at e2
  rw [eo] at e1 e2
  unfold ocl odi osl fdoc fpm fan fcd fct
  rw [eo, e]
  obtain ⟨g1, g2, g3, g4, g5, g6, g7, g8, g9, g10, g11, g12, g13, g14, g15⟩ := g
  have h' : (some (g1, g2, g3, g4, g5, g6, g7, g15) : Fw) = some (nm, ql, ps, .stmts bd, sc, mainGlobals, [], builtinsNs) := h
  simp only [Option.some.injEq, Prod.mk.injEq] at h'
  obtain ⟨q1, q2, q3, q4, q5, q6, q7, q8⟩ := h'
  subst q1 q2 q3 q4 q5 q6 q7 q8
  have e1' : g8 = dV := e1
  have e2' : g9 = kV := e2
  subst e1' e2'
  rfl
abbrev Tb : Type := (PySem.W.Frag → Addr) × List Str
abbrev Al : Type := Bool × List Fw × List (Option (List (Option (Str × Int))))
def look1 (ex : PySem.W.Frag → List Bool) (ds : List Df) (ts : List Tb) (K : PySem.W.Frag) : Al := ((ex K).all id, ds.map (fun d => seen (fdO K (d.ad K))), ts.map fun t => He.dicW K (t.1 K))
def due1 (ds : List Df) (ts : List Tb) (w : World) : Al := (true, ds.map Df.due, ts.map fun t => some (He.keysIn w.params t.2))
def adrs : Value → List Addr
  | .ref a => [a]
  | _ => []
def next1 (z : Obj) : List Addr := match z.data with
  | .dict xs _ => xs.toList.flatMap fun e => adrs e.val
  | .func g => adrs g.code ++ (adrs g.defaults ++ adrs g.kwdefaults) ++ g.closure.map (·.2)
  | .cls cd => [cd.ns]
  | .seq xs _ => xs.toList.flatMap adrs
  | .fields vs => (match z.cls with
    | .type n => if n == "property" || n == "staticmethod" then vs.toList.flatMap adrs else []
    | _ => [])
  | _ => []
def nexts (g : Addr → Option Obj) (l : List Addr) : List Addr := l.flatMap fun a => match g a with
  | some z => next1 z
  | none => []
def reach (g : Addr → Option Obj) : Nat → List Addr → List Addr → List Addr
  | 0, all, _ => all
  | n + 1, all, l => let r := ((nexts g l).eraseDups).filter fun a => !all.contains a
    reach g n (all ++ r) r
def part (n : Nat) (g : Addr → Option Obj) : PySem.W.Frag := He.frG g (reach g n [mainGlobals, cStatics] [mainGlobals])
def hookZ (n : Nat) (ex : PySem.W.Frag → List Bool) (ds : List Df) (ts : List Tb) : PySem.W.Hook where
  α := Al
  obs := fun s => look1 ex ds ts (part n s.heap.get?)
  val := due1 ds ts
  says := fun w h => ∃ K : PySem.W.Frag, K.In h ∧ look1 ex ds ts K = due1 ds ts w
  of := fun _ _ e => ⟨_, He.frG_in, e⟩
  keeps := fun _ _ _ ⟨K, i, c⟩ k => ⟨K, i.keeps k, c⟩
theorem hookZ_eq {n : Nat} {ex : PySem.W.Frag → List Bool} {ds : List Df} {ts : List Tb} {g : Addr → Option Obj} {s : Shared} (h : ∀ a, g a = s.heap.get? a) : look1 ex ds ts (part n g) = (hookZ n ex ds ts).obs s := by
  rw [show g = s.heap.get? from funext h]
  rfl
section
variable {ex : PySem.W.Frag → List Bool} {ds : List Df} {ts : List Tb} {w : World} {K : PySem.W.Frag}
theorem tells (c : look1 ex ds ts K = due1 ds ts w) (i : Nat) {b : Bool} (h : (ex K)[i]? = some b) : b = true := by
  have c1 : (ex K).all id = true := congrArg (fun z : Al => z.1) c
  exact List.all_eq_true.mp c1 b (List.mem_of_getElem? h)
theorem says (c : look1 ex ds ts K = due1 ds ts w) (i : Nat) {P : Prop} [Decidable P] (h : (ex K)[i]? = some (decide P)) : P := of_decide_eq_true (tells c i h)
theorem defs (c : look1 ex ds ts K = due1 ds ts w) (i : Nat) {d : Df} (h : ds[i]? = some d) : seen (fdO K (d.ad K)) = d.due := by
  have c1 : ds.map (fun d => seen (fdO K (d.ad K))) = ds.map Df.due := congrArg (fun z : Al => z.2.1) c
  have c2 := congrArg (fun l => l[i]?) c1
  simp only [List.getElem?_map, h, Option.map_some] at c2
  exact Option.some.inj c2
theorem tabs (c : look1 ex ds ts K = due1 ds ts w) (i : Nat) {t : Tb} (h : ts[i]? = some t) : ∃ es n, KDict K w (t.1 K) es n := by
  have c1 : ts.map (fun t => He.dicW K (t.1 K)) = ts.map (fun t => some (He.keysIn w.params t.2)) := congrArg (fun z : Al => z.2.2) c
  have c2 := congrArg (fun l => l[i]?) c1
  simp only [List.getElem?_map, h, Option.map_some] at c2
  exact He.dicW_ok (Option.some.inj c2)
end
theorem walk_end {l : PySem.W.OpenLaw} {n k : Nat} {q : Program} {loose : List Str} {XP : (Str → Option Value) → Heap → Prop} {YP : World → Heap → Prop} {d : DefRec} {CX : World → CXT} {x : Str}
    (hn : l.most = some n) (hn2 : n ≤ sizeLine) (hdf : d.params.defaults = []) (hr : Room k callerA)
    (F : ∀ (w : World) (mg : Str → Option Value) (fa : Addr) (h : Heap), YP w h → h.Ns mainGlobals mg → mg d.name = some (.ref fa) →
      ∃ (K : PySem.W.Frag) (g : FuncData) (sp : Sp), K.In h ∧ (∀ (s : Shared) (u : Value), BindsTo s g ⟨[u], []⟩ [(x, u)]) ∧
        (∀ (H : Hp) (a : Addr) (ns : List Int), ns.length ≤ n → Only H → SqL K H a (ns.map V.int) → sp [.ref a] H (fun v _ => v = .bl true) fun _ _ _ => False) ∧
        ∀ base : Heap, K.In base → base.Ns mainGlobals mg → FnOk l.prog w K mg base (CX w) k fa g [x] sp)
    (hCX : ∀ (w : World) (H : Hp) (s : Shared) (e : Value) (s' : Shared), CX w [] H s (fun _ _ _ => False) e s' → False) :
    PySem.W.WalkO q loose XP YP l.row.toRowW d [] (fun f vs => PySem.call f vs) := by
  refine Att.attach_call hn hdf fun w t0 t1 mg mb fa o pm cd doc a us ns T Y ho hd hcd hmg hobj hints hlen hg => ?_
  obtain ⟨K, g, sp, iK, hb, hsp, hF⟩ := F w mg fa _ Y T.T.g hmg
  exact law_call iK T.T.g T.T.b T.T.builtins T.T.nolimit hg hobj hints (Nat.le_trans hlen hn2) hr hF hb (fun H hO hS => hsp H a ns hlen hO hS) fun H e s' => hCX w H t1 e s'
end DXH

set_option Elab.async false
set_option linter.all false
set_option maxRecDepth 100000
set_option maxHeartbeats 4000000
namespace L43
open PySem PySem.Spec PyProof.Rows L2 DX
def topS (i : Nat) : Stmt := PySem.Challenge.pw_fooledtest_k43_watchers_that_break.main.body.getD i (.Pass ⟨0, 0, 0, 0⟩)
abbrev st_law_bag : Stmt := topS 20
abbrev N_law_bag : List Str := ["_law_script", "_law_seed", "_law_cell"]
theorem sc_law_bag : FnScope N_law_bag ["_law_script"] (defScope st_law_bag) := ⟨rfl, rfl, rfl, by decide +kernel, rfl, by decide +kernel, by decide +kernel⟩
abbrev st_law_pull : Stmt := topS 21
abbrev N_law_pull : List Str := ["_law_bag_here", "_law_many", "_law_cell", "_law_digit", "_law_square"]
theorem sc_law_pull : FnScope N_law_pull ["_law_bag_here", "_law_many"] (defScope st_law_pull) := ⟨rfl, rfl, rfl, by decide +kernel, rfl, by decide +kernel, by decide +kernel⟩
abbrev st_law_watcher : Stmt := topS 24
abbrev N_law_watcher : List Str := ["_law_bag_here", "_law_most", "_law_many", "_law_rows", "_law_k", "_law_row", "_law_label"]
theorem sc_law_watcher : FnScope N_law_watcher ["_law_bag_here", "_law_most"] (defScope st_law_watcher) := ⟨rfl, rfl, rfl, by decide +kernel, rfl, by decide +kernel, by decide +kernel⟩
abbrev st_is_number : Stmt := topS 8
abbrev N_is_number : List Str := ["value", "least", "most"]
theorem sc_is_number : FnScope N_is_number ["value", "least", "most"] (defScope st_is_number) := ⟨rfl, rfl, rfl, by decide +kernel, rfl, by decide +kernel, by decide +kernel⟩
abbrev st_is_name : Stmt := topS 12
abbrev N_is_name : List Str := ["value", "sign"]
theorem sc_is_name : FnScope N_is_name ["value"] (defScope st_is_name) := ⟨rfl, rfl, rfl, by decide +kernel, rfl, by decide +kernel, by decide +kernel⟩
abbrev st_is_state_row : Stmt := topS 15
abbrev N_is_state_row : List Str := ["states", "value", "label"]
theorem sc_is_state_row : FnScope N_is_state_row ["states", "value"] (defScope st_is_state_row) := ⟨rfl, rfl, rfl, by decide +kernel, rfl, by decide +kernel, by decide +kernel⟩
abbrev st_Watcher_init : Stmt := inClass (topS 18) 0
abbrev N_Watcher_init : List Str := ["self", "rows", "start", "bad", "at", "row", "state", "label"]
theorem sc_Watcher_init : FnScope N_Watcher_init ["self", "rows", "start", "bad"] (defScope st_Watcher_init) := ⟨rfl, rfl, rfl, by decide +kernel, rfl, by decide +kernel, by decide +kernel⟩
abbrev st_law_rule : Stmt := topS 25
abbrev N_law_rule : List Str := ["_law_plan"]
theorem sc_law_rule : FnScope N_law_rule ["_law_plan"] (defScope st_law_rule) := ⟨rfl, rfl, rfl, by decide +kernel, rfl, by decide +kernel, by decide +kernel⟩
abbrev st_law_pick : Stmt := topS 22
abbrev N_law_pick : List Str := ["_law_bag_here", "_law_row"]
theorem sc_law_pick : FnScope N_law_pick ["_law_bag_here", "_law_row"] (defScope st_law_pick) := ⟨rfl, rfl, rfl, by decide +kernel, rfl, by decide +kernel, by decide +kernel⟩
abbrev st_law_next : Stmt := topS 26
abbrev N_law_next : List Str := ["_law_plan", "_law_state", "_law_label"]
theorem sc_law_next : FnScope N_law_next ["_law_plan", "_law_state", "_law_label"] (defScope st_law_next) := ⟨rfl, rfl, rfl, by decide +kernel, rfl, by decide +kernel, by decide +kernel⟩
abbrev st_law_broken : Stmt := topS 27
abbrev N_law_broken : List Str := ["_law_plan", "_law_labels_z", "_law_state", "_law_found", "_law_label"]
theorem sc_law_broken : FnScope N_law_broken ["_law_plan", "_law_labels_z"] (defScope st_law_broken) := ⟨rfl, rfl, rfl, by decide +kernel, rfl, by decide +kernel, by decide +kernel⟩
abbrev st_Watcher_step : Stmt := inClass (topS 18) 6
abbrev N_Watcher_step : List Str := ["self", "state", "label", "row"]
theorem sc_Watcher_step : FnScope N_Watcher_step ["self", "state", "label"] (defScope st_Watcher_step) := ⟨rfl, rfl, rfl, by decide +kernel, rfl, by decide +kernel, by decide +kernel⟩
abbrev st_Watcher_breaks : Stmt := inClass (topS 18) 8
abbrev N_Watcher_breaks : List Str := ["self", "labels", "state", "label"]
theorem sc_Watcher_breaks : FnScope N_Watcher_breaks ["self", "labels"] (defScope st_Watcher_breaks) := ⟨rfl, rfl, rfl, by decide +kernel, rfl, by decide +kernel, by decide +kernel⟩
abbrev st_law_same : Stmt := topS 23
abbrev N_law_same : List Str := ["_law_found", "_law_due", "_law_one", "_law_other"]
theorem sc_law_same : FnScope N_law_same ["_law_found", "_law_due"] (defScope st_law_same) := ⟨rfl, rfl, rfl, by decide +kernel, rfl, by decide +kernel, by decide +kernel⟩
abbrev st_law : Stmt := topS 28
abbrev N_law : List Str := ["_law_script", "_law_bag_here", "_law_turn", "_law_plan", "_law_made", "_law_again", "_law_labels_z", "_law_k", "_law_handed", "_law_due", "_law_found"]
theorem sc_law : FnScope N_law ["_law_script"] (defScope st_law) := ⟨rfl, rfl, rfl, by decide +kernel, rfl, by decide +kernel, by decide +kernel⟩
abbrev isi_cs : List String := []
def isi_sub (a b : String) : Bool := false
def gV_Watcher_breaks_1_labels (us ws : List V) : List V := atL us 0 ++ (atL ws 0)
def gd_Watcher_breaks_1_labels (ws : List W) : List W := atL ws 0 ++ (atL ws 1)
theorem gw_Watcher_breaks_1_labels {K : PySem.W.Frag} {G : Hp} {vs zs : List V} {ws us : List W} (h : Wvs K G vs ws) (k : Wvs K G zs us) (hl : ws.length = 1) : Wvs K G (gV_Watcher_breaks_1_labels vs zs) (gd_Watcher_breaks_1_labels (ws ++ us)) := (Wvs.append (by rw [atL_l hl (by decide)]; exact wvs_atL h 0) (by rw [atL_r hl (show 1 = 1 + 0 from rfl)]; exact wvs_atL k 0))
def gV_Watcher_init_2_start_bad (us ws : List V) : List V := atL us 0 ++ (atL us 1 ++ (atL ws 0 ++ (atL ws 1)))
def gd_Watcher_init_2_start_bad (ws : List W) : List W := atL ws 0 ++ (atL ws 1 ++ (atL ws 2 ++ (atL ws 3)))
theorem gw_Watcher_init_2_start_bad {K : PySem.W.Frag} {G : Hp} {vs zs : List V} {ws us : List W} (h : Wvs K G vs ws) (k : Wvs K G zs us) (hl : ws.length = 2) : Wvs K G (gV_Watcher_init_2_start_bad vs zs) (gd_Watcher_init_2_start_bad (ws ++ us)) := (Wvs.append (by rw [atL_l hl (by decide)]; exact wvs_atL h 0) (Wvs.append (by rw [atL_l hl (by decide)]; exact wvs_atL h 1) (Wvs.append (by rw [atL_r hl (show 2 = 2 + 0 from rfl)]; exact wvs_atL k 0) (by rw [atL_r hl (show 3 = 2 + 1 from rfl)]; exact wvs_atL k 1))))
def gi_Watcher_init_2_start_bad (ws : List W) : List W := atL ws 0 ++ (atL ws 1 ++ (atL ws 2))
theorem giw_Watcher_init_2_start_bad {K : PySem.W.Frag} {G : Hp} {o : V} {vs zs : List V} {ws us : List W} (h : Wvs K G vs ws) (k : Wvs K G zs us) (hl : ws.length = 1) : Wvs K G (gV_Watcher_init_2_start_bad (o :: vs) zs).tail (gi_Watcher_init_2_start_bad (ws ++ us)) := (show Wvs K G (atL vs 0 ++ (atL zs 0 ++ (atL zs 1))) (gi_Watcher_init_2_start_bad (ws ++ us)) from (Wvs.append (by rw [atL_l hl (by decide)]; exact wvs_atL h 0) (Wvs.append (by rw [atL_r hl (show 1 = 1 + 0 from rfl)]; exact wvs_atL k 0) (by rw [atL_r hl (show 2 = 1 + 1 from rfl)]; exact wvs_atL k 1))))
theorem gv_Watcher_init_2_start_bad (o : V) (us uz : List V) : gV_Watcher_init_2_start_bad (o :: us) uz = o :: (gV_Watcher_init_2_start_bad (o :: us) uz).tail := rfl
def m_law_pull : SM :=
  (mCons (mAsg (mOp (oAdd false) (mOp oIx (mVar 0) (mC (.int 4))) (mC (.int 1))) (tgSub (mVar 0) (mC (.int 4))))
  (mCons (mIfS (mAnd (mBl (mOp oEq (mOp oIx (mVar 0) (mC (.int 2))) (mC (.int 0)))) (mBl (mOp oLt (mOp oIx (mVar 0) (mC (.int 1))) (mCB bLen (aCons (mOp oIx (mVar 0) (mC (.int 0))) aNil)))))
  (mCons (mSet 2 (mOp oIx (mOp oIx (mVar 0) (mC (.int 0))) (mOp oIx (mVar 0) (mC (.int 1)))))
  (mCons (mAsg (mOp (oAdd false) (mOp oIx (mVar 0) (mC (.int 1))) (mC (.int 1))) (tgSub (mVar 0) (mC (.int 1))))
  (mIfS (mBl (mOp oGe (mVar 2) (mOp oPow (mC (.int 10)) (mC (.int 18)))))
  (mAsg (mVar 2) (tgSub (mVar 0) (mC (.int 2))))
  (mAsg (mOp oMod (mCB bInt (aCons (mOp (oAdd false) (mOp (oAdd false) (mOp (oMul false) (mOp oIx (mVar 0) (mC (.int 3))) (mC (.int 40013))) (mOp (oMul false) (mOp oMod (mCB bInt (aCons (mVar 2) aNil)) (mC (.int 2147483579))) (mC (.int 977)))) (mC (.int 31))) aNil)) (mC (.int 2147483629))) (tgSub (mVar 0) (mC (.int 3)))))))
  mNil)
  (mCons (mIfS (mBl (mOp oGt (mOp oIx (mVar 0) (mC (.int 2))) (mC (.int 0))))
  (mCons (mSet 3 (mOp oMod (mCB bInt (aCons (mOp oIx (mVar 0) (mC (.int 2))) aNil)) (mVar 1)))
  (mCons (mAsg (mOp oDiv (mCB bInt (aCons (mOp oIx (mVar 0) (mC (.int 2))) aNil)) (mVar 1)) (tgSub (mVar 0) (mC (.int 2))))
  (mRet (mVar 3))))
  mNil)
  (mCons (mSet 4 (mOp oMod (mCB bInt (aCons (mOp (oAdd false) (mOp (oMul false) (mOp oIx (mVar 0) (mC (.int 3))) (mOp oIx (mVar 0) (mC (.int 3)))) (mOp (oMul false) (mOp oIx (mVar 0) (mC (.int 4))) (mC (.int 7001)))) aNil)) (mC (.int 2147483587))))
  (mCons (mAsg (mOp oMod (mCB bInt (aCons (mOp (oAdd false) (mOp (oAdd false) (mOp (oMul false) (mVar 4) (mC (.int 30011))) (mOp (oMul false) (mOp oIx (mVar 0) (mC (.int 3))) (mC (.int 613)))) (mC (.int 5))) aNil)) (mC (.int 2147483629))) (tgSub (mVar 0) (mC (.int 3))))
  (mRet (mOp oMod (mCB bInt (aCons (mOp oDiv (mOp oIx (mVar 0) (mC (.int 3))) (mC (.int 97))) aNil)) (mVar 1))))))))
def sp_law_pull : DSp := bodyD 2 5 m_law_pull
theorem len_law_pull (ws S P X) (h : sp_law_pull ws S P X) : ws.length = 2 := h.1
def m_law_watcher : SM :=
  (mCons (mSet 2 (mOp (oAdd false) (mC (.int 1)) (mCall sp_law_pull (aCons (mVar 0) (aCons (mVar 1) aNil)))))
  (mCons (mSet 3 (mLst true aNil))
  (mCons (mFor (itRng1 (aCons (mVar 2) aNil)) (tgN 4)
  (mCons (mSet 5 mDct0)
  (mCons (mFor (itSeq (mLst false (aCons (mC (.str "a")) (aCons (mC (.str "ab")) (aCons (mC (.str "b")) aNil))))) (tgN 6)
  (mIfS (mBl (mOp oEq (mCall sp_law_pull (aCons (mVar 0) (aCons (mC (.int 2)) aNil))) (mC (.int 0))))
  (mDPut (mVar 5) (mVar 6) (mCall sp_law_pull (aCons (mVar 0) (aCons (mVar 2) aNil))))
  mNil))
  (mDrp (mBM "list" omAppend (mVar 3) (aCons (mFrzD (mVar 5)) aNil))))))
  (mRet (mLst false (aCons (mFrz (mVar 3)) (aCons (mCall sp_law_pull (aCons (mVar 0) (aCons (mVar 2) aNil))) (aCons (mLc false [4] (itRng1 (aCons (mVar 2) aNil)) (tgN 4) (mBl (mOp oEq (mCall sp_law_pull (aCons (mVar 0) (aCons (mC (.int 3)) aNil))) (mC (.int 0)))) (mVar 4)) aNil))))))))
def sp_law_watcher : DSp := bodyD 2 7 m_law_watcher
theorem len_law_watcher (ws S P X) (h : sp_law_watcher ws S P X) : ws.length = 2 := h.1
def m_is_number : SM :=
  (mCons (mIfS (mOr (mNot (mTru (mCB (bIsi isi_cs isi_sub) (aCons (mVar 0) (aCons (mC (.ty "int")) aNil))))) (mTru (mCB (bIsi isi_cs isi_sub) (aCons (mVar 0) (aCons (mC (.ty "bool")) aNil)))))
  (mRet (mC (.bl false)))
  mNil)
  (mRet (mAndV (mOp oLe (mVar 1) (mVar 0)) (mOrV (mOp oIsN (mVar 2) (mC .non)) (mOp oLe (mVar 0) (mVar 2))))))
def sp_is_number : DSp := bodyD 3 3 m_is_number
theorem len_is_number (ws S P X) (h : sp_is_number ws S P X) : ws.length = 3 := h.1
def m_is_name : SM :=
  (mRet (mAndV (mCB (bIsi isi_cs isi_sub) (aCons (mVar 0) (aCons (mC (.ty "str")) aNil))) (mAndV (mChain oLe oLe (mC (.int 1)) (mCB bLen (aCons (mVar 0) aNil)) (mC (.int 6))) (mCB bAll (aCons (mLc false [1] (itStr (mVar 0)) (tgN 1) mYes (mOp oIn (mVar 1) (mC (.str "abcdefghijklmnopqrstuvwxyz")))) aNil)))))
def sp_is_name : DSp := bodyD 1 2 m_is_name
theorem len_is_name (ws S P X) (h : sp_is_name ws S P X) : ws.length = 1 := h.1
def m_is_state_row : SM :=
  (mCons (mIfS (mNot (mTru (mCB (bIsi isi_cs isi_sub) (aCons (mVar 1) (aCons (mC (.ty "dict")) aNil)))))
  (mRet (mC (.bl false)))
  mNil)
  (mRet (mCB bAll (aCons (mLc false [2] (itKeys (mVar 1)) (tgN 2) mYes (mAndV (mCall sp_is_name (aCons (mVar 2) aNil)) (mCall sp_is_number (aCons (mDGet (mVar 1) (mVar 2)) (aCons (mC (.int 0)) (aCons (mOp oSub (mVar 0) (mC (.int 1))) aNil)))))) aNil))))
def sp_is_state_row : DSp := bodyD 2 3 m_is_state_row
theorem len_is_state_row (ws S P X) (h : sp_is_state_row ws S P X) : ws.length = 2 := h.1
def m_Watcher_init : SM :=
  (mCons (mIfS (mNot (mBl (mChain oLe oLe (mC (.int 1)) (mCB bLen (aCons (mVar 1) aNil)) (mC (.int 12)))))
  mNoS
  mNil)
  (mCons (mFor (itEnum (aCons (mVar 1) aNil)) (tgT 2 (tgsCons (tgN 4) (tgsCons (tgN 5) tgsNil)))
  (mIfS (mNot (mTru (mCall sp_is_state_row (aCons (mCB bLen (aCons (mVar 1) aNil)) (aCons (mVar 5) aNil)))))
  mNoS
  mNil))
  (mCons (mFor (itSeq (mLst false (aCons (mVar 2) (aStar (mVar 3) aNil)))) (tgN 6)
  (mIfS (mNot (mTru (mCall sp_is_number (aCons (mVar 6) (aCons (mC (.int 0)) (aCons (mOp oSub (mCB bLen (aCons (mVar 1) aNil)) (mC (.int 1))) aNil))))))
  mNoS
  mNil))
  (mCons (mFldS "own_rows" ["Watcher"] (mVar 0) (mLc false [5] (itSeq (mVar 1)) (tgN 5) mYes (mFrzD (mDc [7] (itSeq (mSortD (mListD false (mVar 5)))) (tgN 7) mYes (mVar 7) (mDGet (mVar 5) (mVar 7))))))
  (mCons (mFldS "own_start" ["Watcher"] (mVar 0) (mVar 2))
  (mFldS "own_bad" ["Watcher"] (mVar 0) (mSortSI (mVar 3))))))))
def sp_Watcher_init : DSp := bodyD 4 8 m_Watcher_init
theorem len_Watcher_init (ws S P X) (h : sp_Watcher_init ws S P X) : ws.length = 4 := h.1
def m_law_rule : SM :=
  (mRet (mFrz (mCallK 1 2 (fun ws => mkD "Watcher" sp_Watcher_init (gi_Watcher_init_2_start_bad ws)) (aCons (mOp oIx (mVar 0) (mC (.int 0))) aNil) (aCons (mOp oIx (mVar 0) (mC (.int 1))) (aCons (mOp oIx (mVar 0) (mC (.int 2))) aNil)))))
def sp_law_rule : DSp := bodyD 1 1 m_law_rule
theorem len_law_rule (ws S P X) (h : sp_law_rule ws S P X) : ws.length = 1 := h.1
def m_law_pick : SM :=
  (mRet (mOp oIx (mVar 1) (mCall sp_law_pull (aCons (mVar 0) (aCons (mCB bLen (aCons (mVar 1) aNil)) aNil)))))
def sp_law_pick : DSp := bodyD 2 2 m_law_pick
theorem len_law_pick (ws S P X) (h : sp_law_pick ws S P X) : ws.length = 2 := h.1
def m_law_next : SM :=
  (mRet (mDGet2 (mOp oIx (mOp oIx (mVar 0) (mC (.int 0))) (mVar 1)) (mVar 2) (mVar 1)))
def sp_law_next : DSp := bodyD 3 3 m_law_next
theorem len_law_next (ws S P X) (h : sp_law_next ws S P X) : ws.length = 3 := h.1
def m_law_broken : SM :=
  (mCons (mSet 2 (mOp oIx (mVar 0) (mC (.int 1))))
  (mCons (mSet 3 (mOp oIn (mVar 2) (mOp oIx (mVar 0) (mC (.int 2)))))
  (mCons (mFor (itSeq (mVar 1)) (tgN 4)
  (mCons (mSet 2 (mCall sp_law_next (aCons (mVar 0) (aCons (mVar 2) (aCons (mVar 4) aNil)))))
  (mSet 3 (mOrV (mVar 3) (mOp oIn (mVar 2) (mOp oIx (mVar 0) (mC (.int 2))))))))
  (mRet (mVar 3)))))
def sp_law_broken : DSp := bodyD 2 5 m_law_broken
theorem len_law_broken (ws S P X) (h : sp_law_broken ws S P X) : ws.length = 2 := h.1
def m_Watcher_step : SM :=
  (mCons (mSet 3 (mOp oIx (mAttr "own_rows" (("Watcher", .fld) :: []) (mVar 0)) (mVar 1)))
  (mRet (mIf (mBl (mDIn id (mVar 2) (mVar 3))) (mDGet (mVar 3) (mVar 2)) (mVar 1))))
def sp_Watcher_step : DSp := bodyD 3 4 m_Watcher_step
theorem len_Watcher_step (ws S P X) (h : sp_Watcher_step ws S P X) : ws.length = 3 := h.1
def m_Watcher_breaks : SM :=
  (mCons (mSet 2 (mAttr "own_start" (("Watcher", .fld) :: []) (mVar 0)))
  (mCons (mFor (itSeq (mVar 1)) (tgN 3)
  (mCons (mIfS (mBl (mOp oIn (mVar 2) (mAttr "own_bad" (("Watcher", .fld) :: []) (mVar 0))))
  (mRet (mC (.bl true)))
  mNil)
  (mSet 2 (mMeth "step" (("Watcher", sp_Watcher_step) :: []) (mVar 0) (aCons (mVar 2) (aCons (mVar 3) aNil))))))
  (mRet (mOp oIn (mVar 2) (mAttr "own_bad" (("Watcher", .fld) :: []) (mVar 0))))))
def sp_Watcher_breaks : DSp := bodyD 2 4 m_Watcher_breaks
theorem len_Watcher_breaks (ws S P X) (h : sp_Watcher_breaks ws S P X) : ws.length = 2 := h.1
def m_law_same (r : DSp) : SM :=
  (mCons (mIfS (mTru (mIsiT isi_cs isi_sub (mVar 1) (aCons (mC (.ty "list")) (aCons (mC (.ty "tuple")) aNil))))
  (mCons (mIfS (mOr (mBl (mOp oNe (mCB (bIsi isi_cs isi_sub) (aCons (mVar 0) (aCons (mC (.ty "list")) aNil))) (mCB (bIsi isi_cs isi_sub) (aCons (mVar 1) (aCons (mC (.ty "list")) aNil))))) (mBl (mOp oNe (mCB (bIsi isi_cs isi_sub) (aCons (mVar 0) (aCons (mC (.ty "tuple")) aNil))) (mCB (bIsi isi_cs isi_sub) (aCons (mVar 1) (aCons (mC (.ty "tuple")) aNil))))))
  (mRet (mC (.bl false)))
  mNil)
  (mRet (mAndV (mOp oEq (mCB bLen (aCons (mVar 0) aNil)) (mCB bLen (aCons (mVar 1) aNil))) (mCB bAll (aCons (mLc false [2, 3] (itZip (aCons (mVar 0) (aCons (mVar 1) aNil))) (tgT 2 (tgsCons (tgN 2) (tgsCons (tgN 3) tgsNil))) mYes (mCall r (aCons (mVar 2) (aCons (mVar 3) aNil)))) aNil)))))
  mNil)
  (mCons (mIfS (mOr (mBl (mOp oIsN (mVar 1) (mC .non))) (mBl (mOp oIsN (mVar 0) (mC .non))))
  (mRet (mAndV (mOp oIsN (mVar 1) (mC .non)) (mOp oIsN (mVar 0) (mC .non))))
  mNil)
  (mCons (mIfS (mOr (mBl (mOp oNe (mCB (bIsi isi_cs isi_sub) (aCons (mVar 1) (aCons (mC (.ty "bool")) aNil))) (mCB (bIsi isi_cs isi_sub) (aCons (mVar 0) (aCons (mC (.ty "bool")) aNil))))) (mBl (mOp oNe (mCB (bIsi isi_cs isi_sub) (aCons (mVar 1) (aCons (mC (.ty "int")) aNil))) (mCB (bIsi isi_cs isi_sub) (aCons (mVar 0) (aCons (mC (.ty "int")) aNil))))))
  (mRet (mC (.bl false)))
  mNil)
  (mRet (mAndV (mOp oEq (mCB (bIsi isi_cs isi_sub) (aCons (mVar 1) (aCons (mC (.ty "str")) aNil))) (mCB (bIsi isi_cs isi_sub) (aCons (mVar 0) (aCons (mC (.ty "str")) aNil)))) (mOp oEq (mVar 0) (mVar 1)))))))
def spn_law_same : Nat → DSp
  | 0 => fun _ _ _ _ => False
  | n + 1 => bodyD 2 4 (m_law_same (spn_law_same n))
def sp_law_same : DSp := spn_law_same 4
def m_law : SM :=
  (mCons (mFor (itRng1 (aCons (mC (.int 5)) aNil)) (tgN 2)
  (mCons (mSet 3 (mCall sp_law_watcher (aCons (mVar 1) (aCons (mC (.int 6)) aNil))))
  (mCons (mSet 4 (mCall sp_law_rule (aCons (mVar 3) aNil)))
  (mCons (mFor (itRng1 (aCons (mC (.int 4)) aNil)) (tgN 5)
  (mCons (mSet 6 (mLc false [7] (itRng1 (aCons (mCall sp_law_pull (aCons (mVar 1) (aCons (mC (.int 9)) aNil))) aNil)) (tgN 7) mYes (mCall sp_law_pick (aCons (mVar 1) (aCons (mLst false (aCons (mC (.str "a")) (aCons (mC (.str "b")) (aCons (mC (.str "ab")) (aCons (mC (.str "a")) (aCons (mC (.str "b")) (aCons (mC (.str "zz")) aNil))))))) aNil)))))
  (mCons (mPar 8 9 (aCons (mCB (bList false) (aCons (mVar 6) aNil)) (aCons (mCall sp_law_broken (aCons (mVar 3) (aCons (mVar 6) aNil))) aNil)))
  (mCons (mSet 10 (mLst false (aCons (mMeth "breaks" (("Watcher", sp_Watcher_breaks) :: []) (mVar 4) (aCons (mVar 8) aNil)) (aCons (mMethK "breaks" 1 1 (("Watcher", (fun ws => sp_Watcher_breaks (gd_Watcher_breaks_1_labels ws))) :: []) (mVar 4) aNil (aCons (mCB bTup (aCons (mVar 6) aNil)) aNil)) (aCons (mMeth "breaks" (("Watcher", sp_Watcher_breaks) :: []) (mVar 4) (aCons (mVar 8) aNil)) aNil)))))
  (mCons (mIfS (mOr (mNot (mTru (mCall sp_law_same (aCons (mVar 10) (aCons (mOp (oMul false) (mLst false (aCons (mVar 9) aNil)) (mC (.int 3))) aNil))))) (mBl (mOp oNe (mVar 8) (mVar 6))))
  (mRet (mC (.bl false)))
  mNil)
  (mFor (itRng1 (aCons (mOp (oAdd false) (mCB bLen (aCons (mVar 6) aNil)) (mC (.int 1))) aNil)) (tgN 7)
  (mIfS (mAnd (mTru (mMeth "breaks" (("Watcher", sp_Watcher_breaks) :: []) (mVar 4) (aCons (mSl (oSl false) (mVar 6) pNo (pAt (mVar 7))) aNil))) (mNot (mTru (mVar 9))))
  (mRet (mC (.bl false)))
  mNil)))))))
  (mIfS (mNot (mTru (mCall sp_law_same (aCons (mLst false (aCons (mMeth "breaks" (("Watcher", sp_Watcher_breaks) :: []) (mVar 4) (aCons (mLst false aNil) aNil)) (aCons (mMeth "breaks" (("Watcher", sp_Watcher_breaks) :: []) (mVar 4) (aCons (mLst false (aCons (mC (.str "zz")) (aCons (mC (.str "zz")) aNil))) aNil)) aNil))) (aCons (mOp (oMul false) (mLst false (aCons (mOp oIn (mOp oIx (mVar 3) (mC (.int 1))) (mOp oIx (mVar 3) (mC (.int 2)))) aNil)) (mC (.int 2))) aNil)))))
  (mRet (mC (.bl false)))
  mNil)))))
  (mRet (mC (.bl true))))
structure Txt (P : Program) (w : World) (K : PySem.W.Frag) (mg : Str → Option Value) where
  a_law_bag : Addr
  d_law_bag : FuncData
  F_law_bag : L2.Fun K "_law_bag" "_law_bag" st_law_bag a_law_bag d_law_bag
  g_law_bag : mg "_law_bag" = some (.ref a_law_bag)
  b_law_bag : L2.Binds K d_law_bag ["_law_script"] []
  a_law_pull : Addr
  d_law_pull : FuncData
  F_law_pull : L2.Fun K "_law_pull" "_law_pull" st_law_pull a_law_pull d_law_pull
  g_law_pull : mg "_law_pull" = some (.ref a_law_pull)
  b_law_pull : L2.Binds K d_law_pull ["_law_bag_here", "_law_many"] []
  a_law_watcher : Addr
  d_law_watcher : FuncData
  F_law_watcher : L2.Fun K "_law_watcher" "_law_watcher" st_law_watcher a_law_watcher d_law_watcher
  g_law_watcher : mg "_law_watcher" = some (.ref a_law_watcher)
  b_law_watcher : L2.Binds K d_law_watcher ["_law_bag_here", "_law_most"] []
  a_is_number : Addr
  d_is_number : FuncData
  F_is_number : FunD K "is_number" "is_number" (defArgs st_is_number) (defBody st_is_number) (defScope st_is_number) [.non] [] a_is_number d_is_number
  g_is_number : mg "is_number" = some (.ref a_is_number)
  b_is_number : L2.Binds K d_is_number ["value", "least", "most"] []
  a_is_name : Addr
  d_is_name : FuncData
  F_is_name : L2.Fun K "is_name" "is_name" st_is_name a_is_name d_is_name
  g_is_name : mg "is_name" = some (.ref a_is_name)
  b_is_name : L2.Binds K d_is_name ["value"] []
  a_is_state_row : Addr
  d_is_state_row : FuncData
  F_is_state_row : L2.Fun K "is_state_row" "is_state_row" st_is_state_row a_is_state_row d_is_state_row
  g_is_state_row : mg "is_state_row" = some (.ref a_is_state_row)
  b_is_state_row : L2.Binds K d_is_state_row ["states", "value"] []
  a_Watcher_init : Addr
  d_Watcher_init : FuncData
  dz_Watcher_init : Addr
  dzq_Watcher_init : ∀ G, SqT K G dz_Watcher_init []
  F_Watcher_init : FunD K "__init__" "Watcher.__init__" (defArgs st_Watcher_init) (defBody st_Watcher_init) (defScope st_Watcher_init) [] [("start", .int 0), ("bad", .ref dz_Watcher_init)] a_Watcher_init d_Watcher_init
  a_law_rule : Addr
  d_law_rule : FuncData
  F_law_rule : L2.Fun K "_law_rule" "_law_rule" st_law_rule a_law_rule d_law_rule
  g_law_rule : mg "_law_rule" = some (.ref a_law_rule)
  b_law_rule : L2.Binds K d_law_rule ["_law_plan"] []
  a_law_pick : Addr
  d_law_pick : FuncData
  F_law_pick : L2.Fun K "_law_pick" "_law_pick" st_law_pick a_law_pick d_law_pick
  g_law_pick : mg "_law_pick" = some (.ref a_law_pick)
  b_law_pick : L2.Binds K d_law_pick ["_law_bag_here", "_law_row"] []
  a_law_next : Addr
  d_law_next : FuncData
  F_law_next : L2.Fun K "_law_next" "_law_next" st_law_next a_law_next d_law_next
  g_law_next : mg "_law_next" = some (.ref a_law_next)
  b_law_next : L2.Binds K d_law_next ["_law_plan", "_law_state", "_law_label"] []
  a_law_broken : Addr
  d_law_broken : FuncData
  F_law_broken : L2.Fun K "_law_broken" "_law_broken" st_law_broken a_law_broken d_law_broken
  g_law_broken : mg "_law_broken" = some (.ref a_law_broken)
  b_law_broken : L2.Binds K d_law_broken ["_law_plan", "_law_labels_z"] []
  a_Watcher_step : Addr
  d_Watcher_step : FuncData
  F_Watcher_step : L2.Fun K "step" "Watcher.step" st_Watcher_step a_Watcher_step d_Watcher_step
  b_Watcher_step : L2.Binds K d_Watcher_step ["self", "state", "label"] []
  a_Watcher_breaks : Addr
  d_Watcher_breaks : FuncData
  F_Watcher_breaks : L2.Fun K "breaks" "Watcher.breaks" st_Watcher_breaks a_Watcher_breaks d_Watcher_breaks
  b_Watcher_breaks : L2.Binds K d_Watcher_breaks ["self", "labels"] []
  a_law_same : Addr
  d_law_same : FuncData
  F_law_same : L2.Fun K "_law_same" "_law_same" st_law_same a_law_same d_law_same
  g_law_same : mg "_law_same" = some (.ref a_law_same)
  b_law_same : L2.Binds K d_law_same ["_law_found", "_law_due"] []
  a_law : Addr
  d_law : FuncData
  F_law : L2.Fun K "law" "law" st_law a_law d_law
  g_law : mg "law" = some (.ref a_law)
  b_law : L2.Binds K d_law ["_law_script"] []
  kg_Watcher_breaks_1_labels : List Value → List Value → List Value
  kb_Watcher_breaks_1_labels : KBn K d_Watcher_breaks ["self", "labels"] 1 ["labels"] kg_Watcher_breaks_1_labels gV_Watcher_breaks_1_labels
  kg_Watcher_init_2_start_bad : List Value → List Value → List Value
  kb_Watcher_init_2_start_bad : KBn K d_Watcher_init ["self", "rows", "start", "bad"] 2 ["start", "bad"] kg_Watcher_init_2_start_bad gV_Watcher_init_2_start_bad
  kh_Watcher_init_2_start_bad : ∀ o us uz, kg_Watcher_init_2_start_bad (o :: us) uz = o :: (kg_Watcher_init_2_start_bad (o :: us) uz).tail
  kt_Watcher_init_2_start_bad : ∀ o o' us uz, (kg_Watcher_init_2_start_bad (o :: us) uz).tail = (kg_Watcher_init_2_start_bad (o' :: us) uz).tail
  c_Watcher : mg "Watcher" = some (.ref (clsAt K "Watcher"))
  cl_Watcher : Cls K (clsAt K "Watcher")
  na_Watcher_own_bad : NoAttr K (clsAt K "Watcher") "own_bad"
  na_Watcher_own_rows : NoAttr K (clsAt K "Watcher") "own_rows"
  na_Watcher_own_start : NoAttr K (clsAt K "Watcher") "own_start"
  mk_Watcher : Mk K (clsAt K "Watcher") a_Watcher_init
  kc_Watcher : PySem.W.keepIn K (.ref (clsAt K "Watcher")) = true
  m_Watcher_step : Meth K (clsAt K "Watcher") "step" a_Watcher_step
  m_Watcher_breaks : Meth K (clsAt K "Watcher") "breaks" a_Watcher_breaks
  t_MOST_NAME : Tok
  c_MOST_NAME : mg "MOST_NAME" = some (.int 6 t_MOST_NAME)
  t_MOST_STATES : Tok
  c_MOST_STATES : mg "MOST_STATES" = some (.int 12 t_MOST_STATES)
  t_SMALL : Tok
  c_SMALL : mg "SMALL" = some (.str "abcdefghijklmnopqrstuvwxyz" t_SMALL)
  n_all : mg "all" = none
  n_bool : mg "bool" = none
  n_dict : mg "dict" = none
  n_enumerate : mg "enumerate" = none
  n_int : mg "int" = none
  n_isinstance : mg "isinstance" = none
  n_len : mg "len" = none
  n_list : mg "list" = none
  n_range : mg "range" = none
  n_set : mg "set" = none
  n_sorted : mg "sorted" = none
  n_str : mg "str" = none
  n_tuple : mg "tuple" = none
  n_zip : mg "zip" = none
  isi : IsiT K isi_cs isi_sub
end L43

set_option Elab.async false
set_option linter.all false
set_option maxRecDepth 100000
set_option maxHeartbeats 4000000
namespace L43
open PySem PySem.Spec PyProof.Rows L2 DX
set_option pp.maxSteps 1000
section
variable {P : Program} {w : World} {K : PySem.W.Frag} {mg : Str → Option Value} {base : Heap} {TT : List (Addr × Str)}
theorem ok_law_pull (T : Txt P w K mg)  : FnOk P w K mg base (L2N.CX P w) 1 T.a_law_pull T.d_law_pull ["_law_bag_here", "_law_many"] (spD K TT sp_law_pull) :=
  fnD T.F_law_pull sc_law_pull rfl fun cdv A outer s H E F eT hr tk => by
    subst eT
    have hu64 := hr.units
    have hu65 : (A.deeper (envOfC "_law_pull" (defScope st_law_pull) s.heap.objs.size T.a_law_pull cdv)).units + 65 < cLine := by have := hr.un; omega
    exact (jss_cons (js_asg (fun h1 h2 => ps_asg h1 h2) (je_op (ob_add rfl) (je_ix rfl (je_var 0 (pe_var (i := 0) rfl (by first | exact Or.inl rfl | exact Or.inr (Or.inl rfl) | exact Or.inr (Or.inr rfl)))) je_int (fun _ _ => rfl)) je_int) (jg_sub (je_var 0 (pe_var (i := 0) rfl (by first | exact Or.inl rfl | exact Or.inr (Or.inl rfl) | exact Or.inr (Or.inr rfl)))) je_int (fun h1 h2 => pg_sub h1 h2 set_list)))
  (jss_cons (js_if (JW.jt (jw_and (jt_cmp (ob_eq rfl hu64) (nomark _) (je_ix rfl (je_var 0 (pe_var (i := 0) rfl (by first | exact Or.inl rfl | exact Or.inr (Or.inl rfl) | exact Or.inr (Or.inr rfl)))) je_int (fun _ _ => rfl)) je_int) (jw_and1 (jt_cmp ob_lt (nomark _) (je_ix rfl (je_var 0 (pe_var (i := 0) rfl (by first | exact Or.inl rfl | exact Or.inr (Or.inl rfl) | exact Or.inr (Or.inr rfl)))) je_int (fun _ _ => rfl)) (je_cb (oc_len rfl) (ja_cons (je_ix rfl (je_var 0 (pe_var (i := 0) rfl (by first | exact Or.inl rfl | exact Or.inr (Or.inl rfl) | exact Or.inr (Or.inr rfl)))) je_int (fun _ _ => rfl)) ja_nil) (fun h => pe_callB h (by rfl) T.n_len (by decide +kernel) pa))))))
  (jss_cons (js_set (i := 2) (fun h => ps_set (i := 2) sc_law_pull.nd rfl (by first | exact Or.inl rfl | exact Or.inr rfl) h) (je_ix rfl (je_ix rfl (je_var 0 (pe_var (i := 0) rfl (by first | exact Or.inl rfl | exact Or.inr (Or.inl rfl) | exact Or.inr (Or.inr rfl)))) je_int (fun _ _ => rfl)) (je_ix rfl (je_var 0 (pe_var (i := 0) rfl (by first | exact Or.inl rfl | exact Or.inr (Or.inl rfl) | exact Or.inr (Or.inr rfl)))) je_int (fun _ _ => rfl)) (fun _ _ => rfl)))
  (jss_cons (js_asg (fun h1 h2 => ps_asg h1 h2) (je_op (ob_add rfl) (je_ix rfl (je_var 0 (pe_var (i := 0) rfl (by first | exact Or.inl rfl | exact Or.inr (Or.inl rfl) | exact Or.inr (Or.inr rfl)))) je_int (fun _ _ => rfl)) je_int) (jg_sub (je_var 0 (pe_var (i := 0) rfl (by first | exact Or.inl rfl | exact Or.inr (Or.inl rfl) | exact Or.inr (Or.inr rfl)))) je_int (fun h1 h2 => pg_sub h1 h2 set_list)))
  (jss_one (js_if (jt_cmp ob_ge (nomark _) (je_var 2 (pe_var (i := 2) rfl (by first | exact Or.inl rfl | exact Or.inr (Or.inl rfl) | exact Or.inr (Or.inr rfl)))) (je_op ob_pow je_int je_int))
  (jss_one (js_asg (fun h1 h2 => ps_asg h1 h2) (je_var 2 (pe_var (i := 2) rfl (by first | exact Or.inl rfl | exact Or.inr (Or.inl rfl) | exact Or.inr (Or.inr rfl)))) (jg_sub (je_var 0 (pe_var (i := 0) rfl (by first | exact Or.inl rfl | exact Or.inr (Or.inl rfl) | exact Or.inr (Or.inr rfl)))) je_int (fun h1 h2 => pg_sub h1 h2 set_list))))
  (jss_one (js_asg (fun h1 h2 => ps_asg h1 h2) (je_op ob_mod (je_cb oc_int (ja_cons (je_op (ob_add rfl) (je_op (ob_add rfl) (je_op (ob_mul rfl) (je_ix rfl (je_var 0 (pe_var (i := 0) rfl (by first | exact Or.inl rfl | exact Or.inr (Or.inl rfl) | exact Or.inr (Or.inr rfl)))) je_int (fun _ _ => rfl)) je_int) (je_op (ob_mul rfl) (je_op ob_mod (je_cb oc_int (ja_cons (je_var 2 (pe_var (i := 2) rfl (by first | exact Or.inl rfl | exact Or.inr (Or.inl rfl) | exact Or.inr (Or.inr rfl)))) ja_nil) (fun h => pe_callTy h (by rfl) T.n_int (by decide +kernel) pa)) je_int) je_int)) je_int) ja_nil) (fun h => pe_callTy h (by rfl) T.n_int (by decide +kernel) pa)) je_int) (jg_sub (je_var 0 (pe_var (i := 0) rfl (by first | exact Or.inl rfl | exact Or.inr (Or.inl rfl) | exact Or.inr (Or.inr rfl)))) je_int (fun h1 h2 => pg_sub h1 h2 set_list))))))))
  jss_nil)
  (jss_cons (js_if (jt_cmp ob_gt (nomark _) (je_ix rfl (je_var 0 (pe_var (i := 0) rfl (by first | exact Or.inl rfl | exact Or.inr (Or.inl rfl) | exact Or.inr (Or.inr rfl)))) je_int (fun _ _ => rfl)) je_int)
  (jss_cons (js_set (i := 3) (fun h => ps_set (i := 3) sc_law_pull.nd rfl (by first | exact Or.inl rfl | exact Or.inr rfl) h) (je_op ob_mod (je_cb oc_int (ja_cons (je_ix rfl (je_var 0 (pe_var (i := 0) rfl (by first | exact Or.inl rfl | exact Or.inr (Or.inl rfl) | exact Or.inr (Or.inr rfl)))) je_int (fun _ _ => rfl)) ja_nil) (fun h => pe_callTy h (by rfl) T.n_int (by decide +kernel) pa)) (je_var 1 (pe_var (i := 1) rfl (by first | exact Or.inl rfl | exact Or.inr (Or.inl rfl) | exact Or.inr (Or.inr rfl))))))
  (jss_cons (js_asg (fun h1 h2 => ps_asg h1 h2) (je_op ob_div (je_cb oc_int (ja_cons (je_ix rfl (je_var 0 (pe_var (i := 0) rfl (by first | exact Or.inl rfl | exact Or.inr (Or.inl rfl) | exact Or.inr (Or.inr rfl)))) je_int (fun _ _ => rfl)) ja_nil) (fun h => pe_callTy h (by rfl) T.n_int (by decide +kernel) pa)) (je_var 1 (pe_var (i := 1) rfl (by first | exact Or.inl rfl | exact Or.inr (Or.inl rfl) | exact Or.inr (Or.inr rfl))))) (jg_sub (je_var 0 (pe_var (i := 0) rfl (by first | exact Or.inl rfl | exact Or.inr (Or.inl rfl) | exact Or.inr (Or.inr rfl)))) je_int (fun h1 h2 => pg_sub h1 h2 set_list)))
  (jss_one (js_ret (je_var 3 (pe_var (i := 3) rfl (by first | exact Or.inl rfl | exact Or.inr (Or.inl rfl) | exact Or.inr (Or.inr rfl))))))))
  jss_nil)
  (jss_cons (js_set (i := 4) (fun h => ps_set (i := 4) sc_law_pull.nd rfl (by first | exact Or.inl rfl | exact Or.inr rfl) h) (je_op ob_mod (je_cb oc_int (ja_cons (je_op (ob_add rfl) (je_op (ob_mul rfl) (je_ix rfl (je_var 0 (pe_var (i := 0) rfl (by first | exact Or.inl rfl | exact Or.inr (Or.inl rfl) | exact Or.inr (Or.inr rfl)))) je_int (fun _ _ => rfl)) (je_ix rfl (je_var 0 (pe_var (i := 0) rfl (by first | exact Or.inl rfl | exact Or.inr (Or.inl rfl) | exact Or.inr (Or.inr rfl)))) je_int (fun _ _ => rfl))) (je_op (ob_mul rfl) (je_ix rfl (je_var 0 (pe_var (i := 0) rfl (by first | exact Or.inl rfl | exact Or.inr (Or.inl rfl) | exact Or.inr (Or.inr rfl)))) je_int (fun _ _ => rfl)) je_int)) ja_nil) (fun h => pe_callTy h (by rfl) T.n_int (by decide +kernel) pa)) je_int))
  (jss_cons (js_asg (fun h1 h2 => ps_asg h1 h2) (je_op ob_mod (je_cb oc_int (ja_cons (je_op (ob_add rfl) (je_op (ob_add rfl) (je_op (ob_mul rfl) (je_var 4 (pe_var (i := 4) rfl (by first | exact Or.inl rfl | exact Or.inr (Or.inl rfl) | exact Or.inr (Or.inr rfl)))) je_int) (je_op (ob_mul rfl) (je_ix rfl (je_var 0 (pe_var (i := 0) rfl (by first | exact Or.inl rfl | exact Or.inr (Or.inl rfl) | exact Or.inr (Or.inr rfl)))) je_int (fun _ _ => rfl)) je_int)) je_int) ja_nil) (fun h => pe_callTy h (by rfl) T.n_int (by decide +kernel) pa)) je_int) (jg_sub (je_var 0 (pe_var (i := 0) rfl (by first | exact Or.inl rfl | exact Or.inr (Or.inl rfl) | exact Or.inr (Or.inr rfl)))) je_int (fun h1 h2 => pg_sub h1 h2 set_list)))
  (jss_one (js_ret (je_op ob_mod (je_cb oc_int (ja_cons (je_op ob_div (je_ix rfl (je_var 0 (pe_var (i := 0) rfl (by first | exact Or.inl rfl | exact Or.inr (Or.inl rfl) | exact Or.inr (Or.inr rfl)))) je_int (fun _ _ => rfl)) je_int) ja_nil) (fun h => pe_callTy h (by rfl) T.n_int (by decide +kernel) pa)) (je_var 1 (pe_var (i := 1) rfl (by first | exact Or.inl rfl | exact Or.inr (Or.inl rfl) | exact Or.inr (Or.inr rfl))))))))))))

end
end L43

set_option Elab.async false
set_option linter.all false
set_option maxRecDepth 100000
set_option maxHeartbeats 4000000
namespace L43
open PySem PySem.Spec PyProof.Rows L2 DX
set_option pp.maxSteps 1000
section
variable {P : Program} {w : World} {K : PySem.W.Frag} {mg : Str → Option Value} {base : Heap} {TT : List (Addr × Str)}
theorem ok_law_watcher (T : Txt P w K mg) (G_law_pull : FnOk P w K mg base (L2N.CX P w) 1 T.a_law_pull T.d_law_pull ["_law_bag_here", "_law_many"] (spD K TT sp_law_pull)) : FnOk P w K mg base (L2N.CX P w) 2 T.a_law_watcher T.d_law_watcher ["_law_bag_here", "_law_most"] (spD K TT sp_law_watcher) :=
  fnD T.F_law_watcher sc_law_watcher rfl fun cdv A outer s H E F eT hr tk => by
    subst eT
    have hu64 := hr.units
    have hu65 : (A.deeper (envOfC "_law_watcher" (defScope st_law_watcher) s.heap.objs.size T.a_law_watcher cdv)).units + 65 < cLine := by have := hr.un; omega
    exact (jss_cons (js_set (i := 2) (fun h => ps_set (i := 2) sc_law_watcher.nd rfl (by first | exact Or.inl rfl | exact Or.inr rfl) h) (je_op (ob_add rfl) je_int (je_call rfl (rn_fn0 rfl G_law_pull (hr.mono (by omega)) T.b_law_pull tk) (by rfl) T.g_law_pull T.F_law_pull.kp (ja_cons (je_var 0 (pe_var (i := 0) rfl (by first | exact Or.inl rfl | exact Or.inr (Or.inl rfl) | exact Or.inr (Or.inr rfl)))) (ja_cons (je_var 1 (pe_var (i := 1) rfl (by first | exact Or.inl rfl | exact Or.inr (Or.inl rfl) | exact Or.inr (Or.inr rfl)))) ja_nil)))))
  (jss_cons (js_set (i := 3) (fun h => ps_set (i := 3) sc_law_watcher.nd rfl (by first | exact Or.inl rfl | exact Or.inr rfl) h) (je_lst ja_nil))
  (jss_cons (js_for (fun h1 h2 h3 => ps_for (passes_of rfl) rfl h1 h2 h3) (ji_rng1 (ja_cons (je_var 2 (pe_var (i := 2) rfl (by first | exact Or.inl rfl | exact Or.inr (Or.inl rfl) | exact Or.inr (Or.inr rfl)))) ja_nil) (pi_range1 (by rfl) T.n_range pa)) (jg_name (pg_name (i := 4) sc_law_watcher.nd rfl (by first | exact Or.inl rfl | exact Or.inr rfl)))
  (jss_cons (js_set (i := 5) (fun h => ps_set (i := 5) sc_law_watcher.nd rfl (by first | exact Or.inl rfl | exact Or.inr rfl) h) je_dct0)
  (jss_cons (js_for (fun h1 h2 h3 => ps_for (passes_of rfl) rfl h1 h2 h3) (ji_seq rfl (je_lst (ja_cons je_str (ja_cons je_str (ja_cons je_str ja_nil))))) (jg_name (pg_name (i := 6) sc_law_watcher.nd rfl (by first | exact Or.inl rfl | exact Or.inr rfl)))
  (jss_one (js_if (jt_cmp (ob_eq rfl hu64) (nomark _) (je_call rfl (rn_fn0 rfl G_law_pull (hr.mono (by omega)) T.b_law_pull tk) (by rfl) T.g_law_pull T.F_law_pull.kp (ja_cons (je_var 0 (pe_var (i := 0) rfl (by first | exact Or.inl rfl | exact Or.inr (Or.inl rfl) | exact Or.inr (Or.inr rfl)))) (ja_cons je_int ja_nil))) je_int)
  (jss_one (js_dput hu64 rfl (je_var 5 (pe_var (i := 5) rfl (by first | exact Or.inl rfl | exact Or.inr (Or.inl rfl) | exact Or.inr (Or.inr rfl)))) (je_var 6 (pe_var (i := 6) rfl (by first | exact Or.inl rfl | exact Or.inr (Or.inl rfl) | exact Or.inr (Or.inr rfl)))) (je_call rfl (rn_fn0 rfl G_law_pull (hr.mono (by omega)) T.b_law_pull tk) (by rfl) T.g_law_pull T.F_law_pull.kp (ja_cons (je_var 0 (pe_var (i := 0) rfl (by first | exact Or.inl rfl | exact Or.inr (Or.inl rfl) | exact Or.inr (Or.inr rfl)))) (ja_cons (je_var 2 (pe_var (i := 2) rfl (by first | exact Or.inl rfl | exact Or.inr (Or.inl rfl) | exact Or.inr (Or.inr rfl)))) ja_nil)))))
  jss_nil)))
  (jss_one (js_drp (je_bm rm_append (je_var 3 (pe_var (i := 3) rfl (by first | exact Or.inl rfl | exact Or.inr (Or.inl rfl) | exact Or.inr (Or.inr rfl)))) (ja_cons (je_frzD (je_var 5 (pe_var (i := 5) rfl (by first | exact Or.inl rfl | exact Or.inr (Or.inl rfl) | exact Or.inr (Or.inr rfl))))) ja_nil) (fun h1 h2 => pe_bm PySem.F.plainAttrs_list PySem.F.slot_list_append PySem.F.type_list_append mt_append h1 h2)))))))
  (jss_one (js_ret (je_lst (ja_cons (je_frz (je_var 3 (pe_var (i := 3) rfl (by first | exact Or.inl rfl | exact Or.inr (Or.inl rfl) | exact Or.inr (Or.inr rfl))))) (ja_cons (je_call rfl (rn_fn0 rfl G_law_pull (hr.mono (by omega)) T.b_law_pull tk) (by rfl) T.g_law_pull T.F_law_pull.kp (ja_cons (je_var 0 (pe_var (i := 0) rfl (by first | exact Or.inl rfl | exact Or.inr (Or.inl rfl) | exact Or.inr (Or.inr rfl)))) (ja_cons (je_var 2 (pe_var (i := 2) rfl (by first | exact Or.inl rfl | exact Or.inr (Or.inl rfl) | exact Or.inr (Or.inr rfl)))) ja_nil))) (ja_cons (je_lcG (own := [("_law_k", 4)]) rfl (by decide) sc_law_watcher.nd (blkOk_by (N := N_law_watcher) (sc := defScope st_law_watcher) (by decide +kernel)) (ji_rng1 (ja_cons (je_var 2 (pe_var (i := 2) rfl (by first | exact Or.inl rfl | exact Or.inr (Or.inl rfl) | exact Or.inr (Or.inr rfl)))) ja_nil) (pi_range1 (by rfl) T.n_range pa)) (fun _ _ _ _ _ => (jg_name (pg_name (i := 4) sc_law_watcher.nd rfl (by first | exact Or.inl rfl | exact Or.inr rfl)))) (fun _ _ _ _ _ => (jts_one (jt_cmp (ob_eq rfl hu64) (nomark _) (je_call rfl (rn_fn0 rfl G_law_pull (hr.mono (by omega)) T.b_law_pull takes_none5) (by rfl) T.g_law_pull T.F_law_pull.kp (ja_cons (je_var 0 (pe_var (i := 0) rfl (by first | exact Or.inl rfl | exact Or.inr (Or.inl rfl) | exact Or.inr (Or.inr rfl)))) (ja_cons je_int ja_nil))) je_int))) (fun _ _ _ _ _ => (je_var 4 (pe_var (i := 4) rfl (by first | exact Or.inl rfl | exact Or.inr (Or.inl rfl) | exact Or.inr (Or.inr rfl)))))) ja_nil)))))))))

end
end L43

set_option Elab.async false
set_option linter.all false
set_option maxRecDepth 100000
set_option maxHeartbeats 4000000
namespace L43
open PySem PySem.Spec PyProof.Rows L2 DX
set_option pp.maxSteps 1000
section
variable {P : Program} {w : World} {K : PySem.W.Frag} {mg : Str → Option Value} {base : Heap} {TT : List (Addr × Str)}
theorem ok_is_number (T : Txt P w K mg)  : FnOk P w K mg base (L2N.CX P w) 1 T.a_is_number T.d_is_number ["value", "least", "most"] (spD K TT sp_is_number) :=
  fnDD T.F_is_number sc_is_number rfl fun cdv A outer s H E F eT hr tk => by
    subst eT
    have hu64 := hr.units
    have hu65 : (A.deeper (envOfC "is_number" (defScope st_is_number) s.heap.objs.size T.a_is_number cdv)).units + 65 < cLine := by have := hr.un; omega
    exact (jss_cons (js_if (JW.jt (jw_or (jt_not (jt_tru (je_cb (oc_isi rfl T.isi) (ja_cons (je_var 0 (pe_var (i := 0) rfl (by first | exact Or.inl rfl | exact Or.inr (Or.inl rfl) | exact Or.inr (Or.inr rfl)))) (ja_cons (je_con (pe_bltn (v := .ty "int") (by rfl) T.n_int (by decide +kernel) rfl) (fun _ => .ty _)) ja_nil)) (fun h => pe_callB h (by rfl) T.n_isinstance (by decide +kernel) pa)) rfl (fun _ => rfl))) (jw_or1 (jt_tru (je_cb (oc_isi rfl T.isi) (ja_cons (je_var 0 (pe_var (i := 0) rfl (by first | exact Or.inl rfl | exact Or.inr (Or.inl rfl) | exact Or.inr (Or.inr rfl)))) (ja_cons (je_con (pe_bltn (v := .ty "bool") (by rfl) T.n_bool (by decide +kernel) rfl) (fun _ => .ty _)) ja_nil)) (fun h => pe_callB h (by rfl) T.n_isinstance (by decide +kernel) pa)) rfl (fun _ => rfl)))))
  (jss_one (js_ret je_bl))
  jss_nil)
  (jss_one (js_ret (je_and rfl (je_cmp ob_le (nomark _) (je_var 1 (pe_var (i := 1) rfl (by first | exact Or.inl rfl | exact Or.inr (Or.inl rfl) | exact Or.inr (Or.inr rfl)))) (je_var 0 (pe_var (i := 0) rfl (by first | exact Or.inl rfl | exact Or.inr (Or.inl rfl) | exact Or.inr (Or.inr rfl))))) (je_one (je_or rfl (je_cmp ob_isN (nomark _) (je_var 2 (pe_var (i := 2) rfl (by first | exact Or.inl rfl | exact Or.inr (Or.inl rfl) | exact Or.inr (Or.inr rfl)))) je_non) (je_one (je_cmp ob_le (nomark _) (je_var 0 (pe_var (i := 0) rfl (by first | exact Or.inl rfl | exact Or.inr (Or.inl rfl) | exact Or.inr (Or.inr rfl)))) (je_var 2 (pe_var (i := 2) rfl (by first | exact Or.inl rfl | exact Or.inr (Or.inl rfl) | exact Or.inr (Or.inr rfl))))))))))))

end
end L43

set_option Elab.async false
set_option linter.all false
set_option maxRecDepth 100000
set_option maxHeartbeats 4000000
namespace L43
open PySem PySem.Spec PyProof.Rows L2 DX
set_option pp.maxSteps 1000
section
variable {P : Program} {w : World} {K : PySem.W.Frag} {mg : Str → Option Value} {base : Heap} {TT : List (Addr × Str)}
theorem ok_is_name (T : Txt P w K mg)  : FnOk P w K mg base (L2N.CX P w) 1 T.a_is_name T.d_is_name ["value"] (spD K TT sp_is_name) :=
  fnD T.F_is_name sc_is_name rfl fun cdv A outer s H E F eT hr tk => by
    subst eT
    have hu64 := hr.units
    have hu65 : (A.deeper (envOfC "is_name" (defScope st_is_name) s.heap.objs.size T.a_is_name cdv)).units + 65 < cLine := by have := hr.un; omega
    exact (jss_one (js_ret (je_and rfl (je_cb (oc_isi rfl T.isi) (ja_cons (je_var 0 (pe_var (i := 0) rfl (by first | exact Or.inl rfl | exact Or.inr (Or.inl rfl) | exact Or.inr (Or.inr rfl)))) (ja_cons (je_con (pe_bltn (v := .ty "str") (by rfl) T.n_str (by decide +kernel) rfl) (fun _ => .ty _)) ja_nil)) (fun h => pe_callB h (by rfl) T.n_isinstance (by decide +kernel) pa)) (je_and rfl (je_chain ob_le ob_le je_int (je_cb (oc_len rfl) (ja_cons (je_var 0 (pe_var (i := 0) rfl (by first | exact Or.inl rfl | exact Or.inr (Or.inl rfl) | exact Or.inr (Or.inr rfl)))) ja_nil) (fun h => pe_callB h (by rfl) T.n_len (by decide +kernel) pa)) (je_con (pe_glob (v := .int 6) (by rfl) T.c_MOST_NAME ⟨_, rfl⟩) (fun _ => .int _)) (fun h1 h2 => pe_chain h1 h2 pe pe pe)) (je_one (je_cb (oc_all rfl rfl) (ja_cons (je_lcG (own := [("sign", 1)]) rfl (by decide) sc_is_name.nd (blkOk_by (N := N_is_name) (sc := defScope st_is_name) (by decide +kernel)) (ji_str (je_var 0 (pe_var (i := 0) rfl (by first | exact Or.inl rfl | exact Or.inr (Or.inl rfl) | exact Or.inr (Or.inr rfl))))) (fun _ _ _ _ _ => (jg_name (pg_name (i := 1) sc_is_name.nd rfl (by first | exact Or.inl rfl | exact Or.inr rfl)))) (fun _ _ _ _ _ => jts_nil) (fun _ _ _ _ _ => (je_cmp (ob_in rfl hu65) (by rfl) (je_var 1 (pe_var (i := 1) rfl (by first | exact Or.inl rfl | exact Or.inr (Or.inl rfl) | exact Or.inr (Or.inr rfl)))) (je_con (pe_glob (v := .str "abcdefghijklmnopqrstuvwxyz") (by rfl) T.c_SMALL ⟨_, rfl⟩) (fun _ => .str _))))) ja_nil) (fun h => pe_callB h (by rfl) T.n_all (by decide +kernel) pa)))))))

end
end L43

set_option Elab.async false
set_option linter.all false
set_option maxRecDepth 100000
set_option maxHeartbeats 4000000
namespace L43
open PySem PySem.Spec PyProof.Rows L2 DX
set_option pp.maxSteps 1000
section
variable {P : Program} {w : World} {K : PySem.W.Frag} {mg : Str → Option Value} {base : Heap} {TT : List (Addr × Str)}
theorem ok_is_state_row (T : Txt P w K mg) (G_is_number : FnOk P w K mg base (L2N.CX P w) 1 T.a_is_number T.d_is_number ["value", "least", "most"] (spD K TT sp_is_number)) (G_is_name : FnOk P w K mg base (L2N.CX P w) 1 T.a_is_name T.d_is_name ["value"] (spD K TT sp_is_name)) : FnOk P w K mg base (L2N.CX P w) 2 T.a_is_state_row T.d_is_state_row ["states", "value"] (spD K TT sp_is_state_row) :=
  fnD T.F_is_state_row sc_is_state_row rfl fun cdv A outer s H E F eT hr tk => by
    subst eT
    have hu64 := hr.units
    have hu65 : (A.deeper (envOfC "is_state_row" (defScope st_is_state_row) s.heap.objs.size T.a_is_state_row cdv)).units + 65 < cLine := by have := hr.un; omega
    exact (jss_cons (js_if (jt_not (jt_tru (je_cb (oc_isi rfl T.isi) (ja_cons (je_var 1 (pe_var (i := 1) rfl (by first | exact Or.inl rfl | exact Or.inr (Or.inl rfl) | exact Or.inr (Or.inr rfl)))) (ja_cons (je_con (pe_bltn (v := .ty "dict") (by rfl) T.n_dict (by decide +kernel) rfl) (fun _ => .ty _)) ja_nil)) (fun h => pe_callB h (by rfl) T.n_isinstance (by decide +kernel) pa)) rfl (fun _ => rfl)))
  (jss_one (js_ret je_bl))
  jss_nil)
  (jss_one (js_ret (je_cb (oc_all rfl rfl) (ja_cons (je_lcG (own := [("label", 2)]) rfl (by decide) sc_is_state_row.nd (blkOk_by (N := N_is_state_row) (sc := defScope st_is_state_row) (by decide +kernel)) (ji_keys (je_var 1 (pe_var (i := 1) rfl (by first | exact Or.inl rfl | exact Or.inr (Or.inl rfl) | exact Or.inr (Or.inr rfl))))) (fun _ _ _ _ _ => (jg_name (pg_name (i := 2) sc_is_state_row.nd rfl (by first | exact Or.inl rfl | exact Or.inr rfl)))) (fun _ _ _ _ _ => jts_nil) (fun _ _ _ _ _ => (je_and rfl (je_call rfl (rn_fn0 rfl G_is_name (hr.mono (by omega)) T.b_is_name takes_none5) (by rfl) T.g_is_name T.F_is_name.kp (ja_cons (je_var 2 (pe_var (i := 2) rfl (by first | exact Or.inl rfl | exact Or.inr (Or.inl rfl) | exact Or.inr (Or.inr rfl)))) ja_nil)) (je_one (je_call rfl (rn_fn0 rfl G_is_number (hr.mono (by omega)) T.b_is_number takes_none5) (by rfl) T.g_is_number T.F_is_number.kp (ja_cons (je_dget hu64 (fun _ _ => rfl) (je_var 1 (pe_var (i := 1) rfl (by first | exact Or.inl rfl | exact Or.inr (Or.inl rfl) | exact Or.inr (Or.inr rfl)))) (je_var 2 (pe_var (i := 2) rfl (by first | exact Or.inl rfl | exact Or.inr (Or.inl rfl) | exact Or.inr (Or.inr rfl))))) (ja_cons je_int (ja_cons (je_op ob_sub (je_var 0 (pe_var (i := 0) rfl (by first | exact Or.inl rfl | exact Or.inr (Or.inl rfl) | exact Or.inr (Or.inr rfl)))) je_int) ja_nil)))))))) ja_nil) (fun h => pe_callB h (by rfl) T.n_all (by decide +kernel) pa)))))

end
end L43

set_option Elab.async false
set_option linter.all false
set_option maxRecDepth 100000
set_option maxHeartbeats 4000000
namespace L43
open PySem PySem.Spec PyProof.Rows L2 DX
set_option pp.maxSteps 1000
section
variable {P : Program} {w : World} {K : PySem.W.Frag} {mg : Str → Option Value} {base : Heap} {TT : List (Addr × Str)}
theorem ok_Watcher_init (T : Txt P w K mg) (G_is_state_row : FnOk P w K mg base (L2N.CX P w) 2 T.a_is_state_row T.d_is_state_row ["states", "value"] (spD K TT sp_is_state_row)) (G_is_number : FnOk P w K mg base (L2N.CX P w) 1 T.a_is_number T.d_is_number ["value", "least", "most"] (spD K TT sp_is_number)) : FnOk P w K mg base (L2N.CX P w) 3 T.a_Watcher_init T.d_Watcher_init ["self", "rows", "start", "bad"] (spD K TT sp_Watcher_init) :=
  fnDD T.F_Watcher_init sc_Watcher_init rfl fun cdv A outer s H E F eT hr tk => by
    subst eT
    have hu64 := hr.units
    have hu65 : (A.deeper (envOfC "Watcher.__init__" (defScope st_Watcher_init) s.heap.objs.size T.a_Watcher_init cdv)).units + 65 < cLine := by have := hr.un; omega
    exact (jss_cons (js_if (jt_not (jt_chain ob_le ob_le je_int (je_cb (oc_len rfl) (ja_cons (je_var 1 (pe_var (i := 1) rfl (by first | exact Or.inl rfl | exact Or.inr (Or.inl rfl) | exact Or.inr (Or.inr rfl)))) ja_nil) (fun h => pe_callB h (by rfl) T.n_len (by decide +kernel) pa)) (je_con (pe_glob (v := .int 12) (by rfl) T.c_MOST_STATES ⟨_, rfl⟩) (fun _ => .int _)) (fun h1 h2 => pt_chain h1 h2 pe pe pe)))
  (jss_one js_no)
  jss_nil)
  (jss_cons (js_for (fun h1 h2 h3 => ps_for (passes_of rfl) rfl h1 h2 h3) (ji_enum (pi_enum (by rfl) T.n_enumerate pa) (ja_cons (je_var 1 (pe_var (i := 1) rfl (by first | exact Or.inl rfl | exact Or.inr (Or.inl rfl) | exact Or.inr (Or.inr rfl)))) ja_nil)) (jg_tup rfl (by rfl) (jgs_cons (quiet_consN quiet_nil) (jg_name (pg_name (i := 4) sc_Watcher_init.nd rfl (by first | exact Or.inl rfl | exact Or.inr rfl))) (jgs_cons quiet_nil (jg_name (pg_name (i := 5) sc_Watcher_init.nd rfl (by first | exact Or.inl rfl | exact Or.inr rfl))) jgs_nil)))
  (jss_one (js_if (jt_not (jt_tru (je_call rfl (rn_fn0 rfl G_is_state_row (hr.mono (by omega)) T.b_is_state_row tk) (by rfl) T.g_is_state_row T.F_is_state_row.kp (ja_cons (je_cb (oc_len rfl) (ja_cons (je_var 1 (pe_var (i := 1) rfl (by first | exact Or.inl rfl | exact Or.inr (Or.inl rfl) | exact Or.inr (Or.inr rfl)))) ja_nil) (fun h => pe_callB h (by rfl) T.n_len (by decide +kernel) pa)) (ja_cons (je_var 5 (pe_var (i := 5) rfl (by first | exact Or.inl rfl | exact Or.inr (Or.inl rfl) | exact Or.inr (Or.inr rfl)))) ja_nil))) rfl (fun _ => rfl)))
  (jss_one js_no)
  jss_nil)))
  (jss_cons (js_for (fun h1 h2 h3 => ps_for (passes_of rfl) rfl h1 h2 h3) (ji_seq rfl (je_lst (ja_cons (je_var 2 (pe_var (i := 2) rfl (by first | exact Or.inl rfl | exact Or.inr (Or.inl rfl) | exact Or.inr (Or.inr rfl)))) (ja_star rfl (je_var 3 (pe_var (i := 3) rfl (by first | exact Or.inl rfl | exact Or.inr (Or.inl rfl) | exact Or.inr (Or.inr rfl)))) ja_nil)))) (jg_name (pg_name (i := 6) sc_Watcher_init.nd rfl (by first | exact Or.inl rfl | exact Or.inr rfl)))
  (jss_one (js_if (jt_not (jt_tru (je_call rfl (rn_fn0 rfl G_is_number (hr.mono (by omega)) T.b_is_number tk) (by rfl) T.g_is_number T.F_is_number.kp (ja_cons (je_var 6 (pe_var (i := 6) rfl (by first | exact Or.inl rfl | exact Or.inr (Or.inl rfl) | exact Or.inr (Or.inr rfl)))) (ja_cons je_int (ja_cons (je_op ob_sub (je_cb (oc_len rfl) (ja_cons (je_var 1 (pe_var (i := 1) rfl (by first | exact Or.inl rfl | exact Or.inr (Or.inl rfl) | exact Or.inr (Or.inr rfl)))) ja_nil) (fun h => pe_callB h (by rfl) T.n_len (by decide +kernel) pa)) je_int) ja_nil)))) rfl (fun _ => rfl)))
  (jss_one js_no)
  jss_nil)))
  (jss_cons (js_fld (f := "own_rows") rfl (fld_cons T.cl_Watcher T.na_Watcher_own_rows fld_nil) (je_var 0 (pe_var (i := 0) rfl (by first | exact Or.inl rfl | exact Or.inr (Or.inl rfl) | exact Or.inr (Or.inr rfl)))) (je_lcG (own := [("row", 5)]) rfl (by decide) sc_Watcher_init.nd (blkOk_by (N := N_Watcher_init) (sc := defScope st_Watcher_init) (by decide +kernel)) (ji_seq rfl (je_var 1 (pe_var (i := 1) rfl (by first | exact Or.inl rfl | exact Or.inr (Or.inl rfl) | exact Or.inr (Or.inr rfl))))) (fun _ _ _ _ _ => (jg_name (pg_name (i := 5) sc_Watcher_init.nd rfl (by first | exact Or.inl rfl | exact Or.inr rfl)))) (fun _ _ _ _ _ => jts_nil) (fun _ _ _ _ _ => (je_frzD (je_dcG (own := [("label", 7)]) rfl (by decide) sc_Watcher_init.nd (blkOk_nest (N := N_Watcher_init) (defScope st_Watcher_init) rfl (by decide +kernel)) (ji_seq rfl (je_sortD (pe_callB (cr_sortDA hu64) (by rfl) T.n_sorted (by decide +kernel) (pa_cons pe pa_nil)) (je_listD (pe_callTy (cr_listDK rfl) (by rfl) T.n_list (by decide +kernel) (pa_cons pe pa_nil)) (je_var 5 (pe_var (i := 5) rfl (by first | exact Or.inl rfl | exact Or.inr (Or.inl rfl) | exact Or.inr (Or.inr rfl))))))) (fun _ _ _ _ _ => (jg_name (pg_name (i := 7) sc_Watcher_init.nd rfl (by first | exact Or.inl rfl | exact Or.inr rfl)))) (fun _ _ _ _ _ => jts_nil) (fun _ _ _ _ _ => (je_var 7 (pe_var (i := 7) rfl (by first | exact Or.inl rfl | exact Or.inr (Or.inl rfl) | exact Or.inr (Or.inr rfl))))) (fun _ _ _ _ _ => (je_dget hu64 (fun _ _ => rfl) (je_var 5 (pe_var (i := 5) rfl (by first | exact Or.inl rfl | exact Or.inr (Or.inl rfl) | exact Or.inr (Or.inr rfl)))) (je_var 7 (pe_var (i := 7) rfl (by first | exact Or.inl rfl | exact Or.inr (Or.inl rfl) | exact Or.inr (Or.inr rfl)))))))))))
  (jss_cons (js_fld (f := "own_start") rfl (fld_cons T.cl_Watcher T.na_Watcher_own_start fld_nil) (je_var 0 (pe_var (i := 0) rfl (by first | exact Or.inl rfl | exact Or.inr (Or.inl rfl) | exact Or.inr (Or.inr rfl)))) (je_var 2 (pe_var (i := 2) rfl (by first | exact Or.inl rfl | exact Or.inr (Or.inl rfl) | exact Or.inr (Or.inr rfl)))))
  (jss_one (js_fld (f := "own_bad") rfl (fld_cons T.cl_Watcher T.na_Watcher_own_bad fld_nil) (je_var 0 (pe_var (i := 0) rfl (by first | exact Or.inl rfl | exact Or.inr (Or.inl rfl) | exact Or.inr (Or.inr rfl)))) (je_sortSI (pe_callB (cr_sortedSet rfl) (by rfl) T.n_sorted (by decide +kernel) (pa_cons (pe_callTy (cr_setIL rfl) (by rfl) T.n_set (by decide +kernel) (pa_cons pe pa_nil)) pa_nil)) (je_var 3 (pe_var (i := 3) rfl (by first | exact Or.inl rfl | exact Or.inr (Or.inl rfl) | exact Or.inr (Or.inr rfl))))))))))))

end
end L43

set_option Elab.async false
set_option linter.all false
set_option maxRecDepth 100000
set_option maxHeartbeats 4000000
namespace L43
open PySem PySem.Spec PyProof.Rows L2 DX
set_option pp.maxSteps 1000
section
variable {P : Program} {w : World} {K : PySem.W.Frag} {mg : Str → Option Value} {base : Heap} {TT : List (Addr × Str)}
theorem ok_law_rule (T : Txt P w K mg) (G_Watcher_init : FnOk P w K mg base (L2N.CX P w) 3 T.a_Watcher_init T.d_Watcher_init ["self", "rows", "start", "bad"] (spD K TT sp_Watcher_init)) : FnOk P w K mg base (L2N.CX P w) 5 T.a_law_rule T.d_law_rule ["_law_plan"] (spD K TT sp_law_rule) :=
  fnD T.F_law_rule sc_law_rule rfl fun cdv A outer s H E F eT hr tk => by
    subst eT
    have hu64 := hr.units
    have hu65 : (A.deeper (envOfC "_law_rule" (defScope st_law_rule) s.heap.objs.size T.a_law_rule cdv)).units + 65 < cLine := by have := hr.un; omega
    exact (jss_one (js_ret (je_frz (je_callK rfl (rn_mkK (gD := gi_Watcher_init_2_start_bad) rfl T.mk_Watcher G_Watcher_init (hr.mono (by omega)) T.kb_Watcher_init_2_start_bad T.kh_Watcher_init_2_start_bad gv_Watcher_init_2_start_bad (fun _ _ _ _ _ _ => giw_Watcher_init_2_start_bad) T.kt_Watcher_init_2_start_bad tk) (by rfl) T.c_Watcher T.kc_Watcher (ja_cons (je_ix rfl (je_var 0 (pe_var (i := 0) rfl (by first | exact Or.inl rfl | exact Or.inr (Or.inl rfl) | exact Or.inr (Or.inr rfl)))) je_int (fun _ _ => rfl)) ja_nil) (jk_cons (je_ix rfl (je_var 0 (pe_var (i := 0) rfl (by first | exact Or.inl rfl | exact Or.inr (Or.inl rfl) | exact Or.inr (Or.inr rfl)))) je_int (fun _ _ => rfl)) (jk_cons (je_ix rfl (je_var 0 (pe_var (i := 0) rfl (by first | exact Or.inl rfl | exact Or.inr (Or.inl rfl) | exact Or.inr (Or.inr rfl)))) je_int (fun _ _ => rfl)) jk_nil))))))

end
end L43

set_option Elab.async false
set_option linter.all false
set_option maxRecDepth 100000
set_option maxHeartbeats 4000000
namespace L43
open PySem PySem.Spec PyProof.Rows L2 DX
set_option pp.maxSteps 1000
section
variable {P : Program} {w : World} {K : PySem.W.Frag} {mg : Str → Option Value} {base : Heap} {TT : List (Addr × Str)}
theorem ok_law_pick (T : Txt P w K mg) (G_law_pull : FnOk P w K mg base (L2N.CX P w) 1 T.a_law_pull T.d_law_pull ["_law_bag_here", "_law_many"] (spD K TT sp_law_pull)) : FnOk P w K mg base (L2N.CX P w) 2 T.a_law_pick T.d_law_pick ["_law_bag_here", "_law_row"] (spD K TT sp_law_pick) :=
  fnD T.F_law_pick sc_law_pick rfl fun cdv A outer s H E F eT hr tk => by
    subst eT
    have hu64 := hr.units
    have hu65 : (A.deeper (envOfC "_law_pick" (defScope st_law_pick) s.heap.objs.size T.a_law_pick cdv)).units + 65 < cLine := by have := hr.un; omega
    exact (jss_one (js_ret (je_ix rfl (je_var 1 (pe_var (i := 1) rfl (by first | exact Or.inl rfl | exact Or.inr (Or.inl rfl) | exact Or.inr (Or.inr rfl)))) (je_call rfl (rn_fn0 rfl G_law_pull (hr.mono (by omega)) T.b_law_pull tk) (by rfl) T.g_law_pull T.F_law_pull.kp (ja_cons (je_var 0 (pe_var (i := 0) rfl (by first | exact Or.inl rfl | exact Or.inr (Or.inl rfl) | exact Or.inr (Or.inr rfl)))) (ja_cons (je_cb (oc_len rfl) (ja_cons (je_var 1 (pe_var (i := 1) rfl (by first | exact Or.inl rfl | exact Or.inr (Or.inl rfl) | exact Or.inr (Or.inr rfl)))) ja_nil) (fun h => pe_callB h (by rfl) T.n_len (by decide +kernel) pa)) ja_nil))) (fun _ _ => rfl))))

end
end L43

set_option Elab.async false
set_option linter.all false
set_option maxRecDepth 100000
set_option maxHeartbeats 4000000
namespace L43
open PySem PySem.Spec PyProof.Rows L2 DX
set_option pp.maxSteps 1000
section
variable {P : Program} {w : World} {K : PySem.W.Frag} {mg : Str → Option Value} {base : Heap} {TT : List (Addr × Str)}
theorem ok_law_next (T : Txt P w K mg)  : FnOk P w K mg base (L2N.CX P w) 1 T.a_law_next T.d_law_next ["_law_plan", "_law_state", "_law_label"] (spD K TT sp_law_next) :=
  fnD T.F_law_next sc_law_next rfl fun cdv A outer s H E F eT hr tk => by
    subst eT
    have hu64 := hr.units
    have hu65 : (A.deeper (envOfC "_law_next" (defScope st_law_next) s.heap.objs.size T.a_law_next cdv)).units + 65 < cLine := by have := hr.un; omega
    exact (jss_one (js_ret (je_dget2 hu64 ⟨rfl, rfl, rfl, rfl⟩ (je_ix rfl (je_ix rfl (je_var 0 (pe_var (i := 0) rfl (by first | exact Or.inl rfl | exact Or.inr (Or.inl rfl) | exact Or.inr (Or.inr rfl)))) je_int (fun _ _ => rfl)) (je_var 1 (pe_var (i := 1) rfl (by first | exact Or.inl rfl | exact Or.inr (Or.inl rfl) | exact Or.inr (Or.inr rfl)))) (fun _ _ => rfl)) (je_var 2 (pe_var (i := 2) rfl (by first | exact Or.inl rfl | exact Or.inr (Or.inl rfl) | exact Or.inr (Or.inr rfl)))) (je_var 1 (pe_var (i := 1) rfl (by first | exact Or.inl rfl | exact Or.inr (Or.inl rfl) | exact Or.inr (Or.inr rfl)))))))

end
end L43

set_option Elab.async false
set_option linter.all false
set_option maxRecDepth 100000
set_option maxHeartbeats 4000000
namespace L43
open PySem PySem.Spec PyProof.Rows L2 DX
set_option pp.maxSteps 1000
section
variable {P : Program} {w : World} {K : PySem.W.Frag} {mg : Str → Option Value} {base : Heap} {TT : List (Addr × Str)}
theorem ok_law_broken (T : Txt P w K mg) (G_law_next : FnOk P w K mg base (L2N.CX P w) 1 T.a_law_next T.d_law_next ["_law_plan", "_law_state", "_law_label"] (spD K TT sp_law_next)) : FnOk P w K mg base (L2N.CX P w) 2 T.a_law_broken T.d_law_broken ["_law_plan", "_law_labels_z"] (spD K TT sp_law_broken) :=
  fnD T.F_law_broken sc_law_broken rfl fun cdv A outer s H E F eT hr tk => by
    subst eT
    have hu64 := hr.units
    have hu65 : (A.deeper (envOfC "_law_broken" (defScope st_law_broken) s.heap.objs.size T.a_law_broken cdv)).units + 65 < cLine := by have := hr.un; omega
    exact (jss_cons (js_set (i := 2) (fun h => ps_set (i := 2) sc_law_broken.nd rfl (by first | exact Or.inl rfl | exact Or.inr rfl) h) (je_ix rfl (je_var 0 (pe_var (i := 0) rfl (by first | exact Or.inl rfl | exact Or.inr (Or.inl rfl) | exact Or.inr (Or.inr rfl)))) je_int (fun _ _ => rfl)))
  (jss_cons (js_set (i := 3) (fun h => ps_set (i := 3) sc_law_broken.nd rfl (by first | exact Or.inl rfl | exact Or.inr rfl) h) (je_cmp (ob_in rfl hu65) (by rfl) (je_var 2 (pe_var (i := 2) rfl (by first | exact Or.inl rfl | exact Or.inr (Or.inl rfl) | exact Or.inr (Or.inr rfl)))) (je_ix rfl (je_var 0 (pe_var (i := 0) rfl (by first | exact Or.inl rfl | exact Or.inr (Or.inl rfl) | exact Or.inr (Or.inr rfl)))) je_int (fun _ _ => rfl))))
  (jss_cons (js_for (fun h1 h2 h3 => ps_for (passes_of rfl) rfl h1 h2 h3) (ji_seq rfl (je_var 1 (pe_var (i := 1) rfl (by first | exact Or.inl rfl | exact Or.inr (Or.inl rfl) | exact Or.inr (Or.inr rfl))))) (jg_name (pg_name (i := 4) sc_law_broken.nd rfl (by first | exact Or.inl rfl | exact Or.inr rfl)))
  (jss_cons (js_set (i := 2) (fun h => ps_set (i := 2) sc_law_broken.nd rfl (by first | exact Or.inl rfl | exact Or.inr rfl) h) (je_call rfl (rn_fn0 rfl G_law_next (hr.mono (by omega)) T.b_law_next tk) (by rfl) T.g_law_next T.F_law_next.kp (ja_cons (je_var 0 (pe_var (i := 0) rfl (by first | exact Or.inl rfl | exact Or.inr (Or.inl rfl) | exact Or.inr (Or.inr rfl)))) (ja_cons (je_var 2 (pe_var (i := 2) rfl (by first | exact Or.inl rfl | exact Or.inr (Or.inl rfl) | exact Or.inr (Or.inr rfl)))) (ja_cons (je_var 4 (pe_var (i := 4) rfl (by first | exact Or.inl rfl | exact Or.inr (Or.inl rfl) | exact Or.inr (Or.inr rfl)))) ja_nil)))))
  (jss_one (js_set (i := 3) (fun h => ps_set (i := 3) sc_law_broken.nd rfl (by first | exact Or.inl rfl | exact Or.inr rfl) h) (je_or rfl (je_var 3 (pe_var (i := 3) rfl (by first | exact Or.inl rfl | exact Or.inr (Or.inl rfl) | exact Or.inr (Or.inr rfl)))) (je_one (je_cmp (ob_in rfl hu65) (by rfl) (je_var 2 (pe_var (i := 2) rfl (by first | exact Or.inl rfl | exact Or.inr (Or.inl rfl) | exact Or.inr (Or.inr rfl)))) (je_ix rfl (je_var 0 (pe_var (i := 0) rfl (by first | exact Or.inl rfl | exact Or.inr (Or.inl rfl) | exact Or.inr (Or.inr rfl)))) je_int (fun _ _ => rfl)))))))))
  (jss_one (js_ret (je_var 3 (pe_var (i := 3) rfl (by first | exact Or.inl rfl | exact Or.inr (Or.inl rfl) | exact Or.inr (Or.inr rfl)))))))))

end
end L43

set_option Elab.async false
set_option linter.all false
set_option maxRecDepth 100000
set_option maxHeartbeats 4000000
namespace L43
open PySem PySem.Spec PyProof.Rows L2 DX
set_option pp.maxSteps 1000
section
variable {P : Program} {w : World} {K : PySem.W.Frag} {mg : Str → Option Value} {base : Heap} {TT : List (Addr × Str)}
theorem ok_Watcher_step (T : Txt P w K mg)  : FnOk P w K mg base (L2N.CX P w) 1 T.a_Watcher_step T.d_Watcher_step ["self", "state", "label"] (spD K TT sp_Watcher_step) :=
  fnD T.F_Watcher_step sc_Watcher_step rfl fun cdv A outer s H E F eT hr tk => by
    subst eT
    have hu64 := hr.units
    have hu65 : (A.deeper (envOfC "Watcher.step" (defScope st_Watcher_step) s.heap.objs.size T.a_Watcher_step cdv)).units + 65 < cLine := by have := hr.un; omega
    exact (jss_cons (js_set (i := 3) (fun h => ps_set (i := 3) sc_Watcher_step.nd rfl (by first | exact Or.inl rfl | exact Or.inr rfl) h) (je_ix rfl (je_attr (f := "own_rows") rfl (ats_cons (.fld T.cl_Watcher T.na_Watcher_own_rows) ats_nil) (je_var 0 (pe_var (i := 0) rfl (by first | exact Or.inl rfl | exact Or.inr (Or.inl rfl) | exact Or.inr (Or.inr rfl))))) (je_var 1 (pe_var (i := 1) rfl (by first | exact Or.inl rfl | exact Or.inr (Or.inl rfl) | exact Or.inr (Or.inr rfl)))) (fun _ _ => rfl)))
  (jss_one (js_ret (je_if (jt_din hu64 (by rfl) (je_var 2 (pe_var (i := 2) rfl (by first | exact Or.inl rfl | exact Or.inr (Or.inl rfl) | exact Or.inr (Or.inr rfl)))) (je_var 3 (pe_var (i := 3) rfl (by first | exact Or.inl rfl | exact Or.inr (Or.inl rfl) | exact Or.inr (Or.inr rfl))))) (je_dget hu64 (fun _ _ => rfl) (je_var 3 (pe_var (i := 3) rfl (by first | exact Or.inl rfl | exact Or.inr (Or.inl rfl) | exact Or.inr (Or.inr rfl)))) (je_var 2 (pe_var (i := 2) rfl (by first | exact Or.inl rfl | exact Or.inr (Or.inl rfl) | exact Or.inr (Or.inr rfl))))) (je_var 1 (pe_var (i := 1) rfl (by first | exact Or.inl rfl | exact Or.inr (Or.inl rfl) | exact Or.inr (Or.inr rfl))))))))

end
end L43

set_option Elab.async false
set_option linter.all false
set_option maxRecDepth 100000
set_option maxHeartbeats 4000000
namespace L43
open PySem PySem.Spec PyProof.Rows L2 DX
set_option pp.maxSteps 1000
section
variable {P : Program} {w : World} {K : PySem.W.Frag} {mg : Str → Option Value} {base : Heap} {TT : List (Addr × Str)}
theorem ok_Watcher_breaks (T : Txt P w K mg) (G_Watcher_step : FnOk P w K mg base (L2N.CX P w) 1 T.a_Watcher_step T.d_Watcher_step ["self", "state", "label"] (spD K TT sp_Watcher_step)) : FnOk P w K mg base (L2N.CX P w) 2 T.a_Watcher_breaks T.d_Watcher_breaks ["self", "labels"] (spD K TT sp_Watcher_breaks) :=
  fnD T.F_Watcher_breaks sc_Watcher_breaks rfl fun cdv A outer s H E F eT hr tk => by
    subst eT
    have hu64 := hr.units
    have hu65 : (A.deeper (envOfC "Watcher.breaks" (defScope st_Watcher_breaks) s.heap.objs.size T.a_Watcher_breaks cdv)).units + 65 < cLine := by have := hr.un; omega
    exact (jss_cons (js_set (i := 2) (fun h => ps_set (i := 2) sc_Watcher_breaks.nd rfl (by first | exact Or.inl rfl | exact Or.inr rfl) h) (je_attr (f := "own_start") rfl (ats_cons (.fld T.cl_Watcher T.na_Watcher_own_start) ats_nil) (je_var 0 (pe_var (i := 0) rfl (by first | exact Or.inl rfl | exact Or.inr (Or.inl rfl) | exact Or.inr (Or.inr rfl))))))
  (jss_cons (js_for (fun h1 h2 h3 => ps_for (passes_of rfl) rfl h1 h2 h3) (ji_seq rfl (je_var 1 (pe_var (i := 1) rfl (by first | exact Or.inl rfl | exact Or.inr (Or.inl rfl) | exact Or.inr (Or.inr rfl))))) (jg_name (pg_name (i := 3) sc_Watcher_breaks.nd rfl (by first | exact Or.inl rfl | exact Or.inr rfl)))
  (jss_cons (js_if (jt_cmp (ob_in rfl hu65) (by rfl) (je_var 2 (pe_var (i := 2) rfl (by first | exact Or.inl rfl | exact Or.inr (Or.inl rfl) | exact Or.inr (Or.inr rfl)))) (je_attr (f := "own_bad") rfl (ats_cons (.fld T.cl_Watcher T.na_Watcher_own_bad) ats_nil) (je_var 0 (pe_var (i := 0) rfl (by first | exact Or.inl rfl | exact Or.inr (Or.inl rfl) | exact Or.inr (Or.inr rfl))))))
  (jss_one (js_ret je_bl))
  jss_nil)
  (jss_one (js_set (i := 2) (fun h => ps_set (i := 2) sc_Watcher_breaks.nd rfl (by first | exact Or.inl rfl | exact Or.inr rfl) h) (je_meth (m := "step") rfl (meths_cons ⟨T.cl_Watcher, _, T.m_Watcher_step, (rn_fn0 rfl G_Watcher_step (hr.mono (by omega)) T.b_Watcher_step tk)⟩ meths_nil) (je_var 0 (pe_var (i := 0) rfl (by first | exact Or.inl rfl | exact Or.inr (Or.inl rfl) | exact Or.inr (Or.inr rfl)))) (ja_cons (je_var 2 (pe_var (i := 2) rfl (by first | exact Or.inl rfl | exact Or.inr (Or.inl rfl) | exact Or.inr (Or.inr rfl)))) (ja_cons (je_var 3 (pe_var (i := 3) rfl (by first | exact Or.inl rfl | exact Or.inr (Or.inl rfl) | exact Or.inr (Or.inr rfl)))) ja_nil)))))))
  (jss_one (js_ret (je_cmp (ob_in rfl hu65) (by rfl) (je_var 2 (pe_var (i := 2) rfl (by first | exact Or.inl rfl | exact Or.inr (Or.inl rfl) | exact Or.inr (Or.inr rfl)))) (je_attr (f := "own_bad") rfl (ats_cons (.fld T.cl_Watcher T.na_Watcher_own_bad) ats_nil) (je_var 0 (pe_var (i := 0) rfl (by first | exact Or.inl rfl | exact Or.inr (Or.inl rfl) | exact Or.inr (Or.inr rfl))))))))))

end
end L43

set_option Elab.async false
set_option linter.all false
set_option maxRecDepth 100000
set_option maxHeartbeats 4000000
namespace L43
open PySem PySem.Spec PyProof.Rows L2 DX
set_option pp.maxSteps 1000
section
variable {P : Program} {w : World} {K : PySem.W.Frag} {mg : Str → Option Value} {base : Heap} {TT : List (Addr × Str)}
theorem okr_law_same (T : Txt P w K mg) (r : DSp) (j : Nat) (hj : 0 ≤ j)  (G_law_same : FnOk P w K mg base (L2N.CX P w) j T.a_law_same T.d_law_same ["_law_found", "_law_due"] (spD K TT r)) : FnOk P w K mg base (L2N.CX P w) (j + 1) T.a_law_same T.d_law_same ["_law_found", "_law_due"] (spD K TT (bodyD 2 4 (m_law_same r))) :=
  fnD T.F_law_same sc_law_same rfl fun cdv A outer s H E F eT hr tk => by
    subst eT
    have hu64 := hr.units
    have hu65 : (A.deeper (envOfC "_law_same" (defScope st_law_same) s.heap.objs.size T.a_law_same cdv)).units + 65 < cLine := by have := hr.un; omega
    exact (jss_cons (js_if (jt_tru (je_isiT rfl T.isi (je_var 1 (pe_var (i := 1) rfl (by first | exact Or.inl rfl | exact Or.inr (Or.inl rfl) | exact Or.inr (Or.inr rfl)))) (ja_cons (je_con (pe_bltn (v := .ty "list") (by rfl) T.n_list (by decide +kernel) rfl) (fun _ => .ty _)) (ja_cons (je_con (pe_bltn (v := .ty "tuple") (by rfl) T.n_tuple (by decide +kernel) rfl) (fun _ => .ty _)) ja_nil)) (fun h1 h2 => pe_callB h1 (by rfl) T.n_isinstance (by decide +kernel) h2)) rfl (fun _ => rfl))
  (jss_cons (js_if (JW.jt (jw_or (jt_cmp (ob_ne rfl hu64) (nomark _) (je_cb (oc_isi rfl T.isi) (ja_cons (je_var 0 (pe_var (i := 0) rfl (by first | exact Or.inl rfl | exact Or.inr (Or.inl rfl) | exact Or.inr (Or.inr rfl)))) (ja_cons (je_con (pe_bltn (v := .ty "list") (by rfl) T.n_list (by decide +kernel) rfl) (fun _ => .ty _)) ja_nil)) (fun h => pe_callB h (by rfl) T.n_isinstance (by decide +kernel) pa)) (je_cb (oc_isi rfl T.isi) (ja_cons (je_var 1 (pe_var (i := 1) rfl (by first | exact Or.inl rfl | exact Or.inr (Or.inl rfl) | exact Or.inr (Or.inr rfl)))) (ja_cons (je_con (pe_bltn (v := .ty "list") (by rfl) T.n_list (by decide +kernel) rfl) (fun _ => .ty _)) ja_nil)) (fun h => pe_callB h (by rfl) T.n_isinstance (by decide +kernel) pa))) (jw_or1 (jt_cmp (ob_ne rfl hu64) (nomark _) (je_cb (oc_isi rfl T.isi) (ja_cons (je_var 0 (pe_var (i := 0) rfl (by first | exact Or.inl rfl | exact Or.inr (Or.inl rfl) | exact Or.inr (Or.inr rfl)))) (ja_cons (je_con (pe_bltn (v := .ty "tuple") (by rfl) T.n_tuple (by decide +kernel) rfl) (fun _ => .ty _)) ja_nil)) (fun h => pe_callB h (by rfl) T.n_isinstance (by decide +kernel) pa)) (je_cb (oc_isi rfl T.isi) (ja_cons (je_var 1 (pe_var (i := 1) rfl (by first | exact Or.inl rfl | exact Or.inr (Or.inl rfl) | exact Or.inr (Or.inr rfl)))) (ja_cons (je_con (pe_bltn (v := .ty "tuple") (by rfl) T.n_tuple (by decide +kernel) rfl) (fun _ => .ty _)) ja_nil)) (fun h => pe_callB h (by rfl) T.n_isinstance (by decide +kernel) pa))))))
  (jss_one (js_ret je_bl))
  jss_nil)
  (jss_one (js_ret (je_and rfl (je_cmp (ob_eq rfl hu64) (nomark _) (je_cb (oc_len rfl) (ja_cons (je_var 0 (pe_var (i := 0) rfl (by first | exact Or.inl rfl | exact Or.inr (Or.inl rfl) | exact Or.inr (Or.inr rfl)))) ja_nil) (fun h => pe_callB h (by rfl) T.n_len (by decide +kernel) pa)) (je_cb (oc_len rfl) (ja_cons (je_var 1 (pe_var (i := 1) rfl (by first | exact Or.inl rfl | exact Or.inr (Or.inl rfl) | exact Or.inr (Or.inr rfl)))) ja_nil) (fun h => pe_callB h (by rfl) T.n_len (by decide +kernel) pa))) (je_one (je_cb (oc_all rfl rfl) (ja_cons (je_lcG (own := [("_law_one", 2), ("_law_other", 3)]) rfl (by decide) sc_law_same.nd (blkOk_by (N := N_law_same) (sc := defScope st_law_same) (by decide +kernel)) (ji_zip (RZ.pi_zipA (by rfl) T.n_zip pa) (ja_cons (je_var 0 (pe_var (i := 0) rfl (by first | exact Or.inl rfl | exact Or.inr (Or.inl rfl) | exact Or.inr (Or.inr rfl)))) (ja_cons (je_var 1 (pe_var (i := 1) rfl (by first | exact Or.inl rfl | exact Or.inr (Or.inl rfl) | exact Or.inr (Or.inr rfl)))) ja_nil))) (fun _ _ _ _ _ => (jg_tup rfl (by rfl) (jgs_cons (quiet_consN quiet_nil) (jg_name (pg_name (i := 2) sc_law_same.nd rfl (by first | exact Or.inl rfl | exact Or.inr rfl))) (jgs_cons quiet_nil (jg_name (pg_name (i := 3) sc_law_same.nd rfl (by first | exact Or.inl rfl | exact Or.inr rfl))) jgs_nil)))) (fun _ _ _ _ _ => jts_nil) (fun _ _ _ _ _ => (je_call rfl (rn_fn0 rfl G_law_same (hr.mono (by omega)) T.b_law_same takes_none5) (by rfl) T.g_law_same T.F_law_same.kp (ja_cons (je_var 2 (pe_var (i := 2) rfl (by first | exact Or.inl rfl | exact Or.inr (Or.inl rfl) | exact Or.inr (Or.inr rfl)))) (ja_cons (je_var 3 (pe_var (i := 3) rfl (by first | exact Or.inl rfl | exact Or.inr (Or.inl rfl) | exact Or.inr (Or.inr rfl)))) ja_nil))))) ja_nil) (fun h => pe_callB h (by rfl) T.n_all (by decide +kernel) pa)))))))
  jss_nil)
  (jss_cons (js_if (JW.jt (jw_or (jt_cmp ob_isN (nomark _) (je_var 1 (pe_var (i := 1) rfl (by first | exact Or.inl rfl | exact Or.inr (Or.inl rfl) | exact Or.inr (Or.inr rfl)))) je_non) (jw_or1 (jt_cmp ob_isN (nomark _) (je_var 0 (pe_var (i := 0) rfl (by first | exact Or.inl rfl | exact Or.inr (Or.inl rfl) | exact Or.inr (Or.inr rfl)))) je_non))))
  (jss_one (js_ret (je_and rfl (je_cmp ob_isN (nomark _) (je_var 1 (pe_var (i := 1) rfl (by first | exact Or.inl rfl | exact Or.inr (Or.inl rfl) | exact Or.inr (Or.inr rfl)))) je_non) (je_one (je_cmp ob_isN (nomark _) (je_var 0 (pe_var (i := 0) rfl (by first | exact Or.inl rfl | exact Or.inr (Or.inl rfl) | exact Or.inr (Or.inr rfl)))) je_non)))))
  jss_nil)
  (jss_cons (js_if (JW.jt (jw_or (jt_cmp (ob_ne rfl hu64) (nomark _) (je_cb (oc_isi rfl T.isi) (ja_cons (je_var 1 (pe_var (i := 1) rfl (by first | exact Or.inl rfl | exact Or.inr (Or.inl rfl) | exact Or.inr (Or.inr rfl)))) (ja_cons (je_con (pe_bltn (v := .ty "bool") (by rfl) T.n_bool (by decide +kernel) rfl) (fun _ => .ty _)) ja_nil)) (fun h => pe_callB h (by rfl) T.n_isinstance (by decide +kernel) pa)) (je_cb (oc_isi rfl T.isi) (ja_cons (je_var 0 (pe_var (i := 0) rfl (by first | exact Or.inl rfl | exact Or.inr (Or.inl rfl) | exact Or.inr (Or.inr rfl)))) (ja_cons (je_con (pe_bltn (v := .ty "bool") (by rfl) T.n_bool (by decide +kernel) rfl) (fun _ => .ty _)) ja_nil)) (fun h => pe_callB h (by rfl) T.n_isinstance (by decide +kernel) pa))) (jw_or1 (jt_cmp (ob_ne rfl hu64) (nomark _) (je_cb (oc_isi rfl T.isi) (ja_cons (je_var 1 (pe_var (i := 1) rfl (by first | exact Or.inl rfl | exact Or.inr (Or.inl rfl) | exact Or.inr (Or.inr rfl)))) (ja_cons (je_con (pe_bltn (v := .ty "int") (by rfl) T.n_int (by decide +kernel) rfl) (fun _ => .ty _)) ja_nil)) (fun h => pe_callB h (by rfl) T.n_isinstance (by decide +kernel) pa)) (je_cb (oc_isi rfl T.isi) (ja_cons (je_var 0 (pe_var (i := 0) rfl (by first | exact Or.inl rfl | exact Or.inr (Or.inl rfl) | exact Or.inr (Or.inr rfl)))) (ja_cons (je_con (pe_bltn (v := .ty "int") (by rfl) T.n_int (by decide +kernel) rfl) (fun _ => .ty _)) ja_nil)) (fun h => pe_callB h (by rfl) T.n_isinstance (by decide +kernel) pa))))))
  (jss_one (js_ret je_bl))
  jss_nil)
  (jss_one (js_ret (je_and rfl (je_cmp (ob_eq rfl hu64) (nomark _) (je_cb (oc_isi rfl T.isi) (ja_cons (je_var 1 (pe_var (i := 1) rfl (by first | exact Or.inl rfl | exact Or.inr (Or.inl rfl) | exact Or.inr (Or.inr rfl)))) (ja_cons (je_con (pe_bltn (v := .ty "str") (by rfl) T.n_str (by decide +kernel) rfl) (fun _ => .ty _)) ja_nil)) (fun h => pe_callB h (by rfl) T.n_isinstance (by decide +kernel) pa)) (je_cb (oc_isi rfl T.isi) (ja_cons (je_var 0 (pe_var (i := 0) rfl (by first | exact Or.inl rfl | exact Or.inr (Or.inl rfl) | exact Or.inr (Or.inr rfl)))) (ja_cons (je_con (pe_bltn (v := .ty "str") (by rfl) T.n_str (by decide +kernel) rfl) (fun _ => .ty _)) ja_nil)) (fun h => pe_callB h (by rfl) T.n_isinstance (by decide +kernel) pa))) (je_one (je_cmp (ob_eq rfl hu64) (nomark _) (je_var 0 (pe_var (i := 0) rfl (by first | exact Or.inl rfl | exact Or.inr (Or.inl rfl) | exact Or.inr (Or.inr rfl)))) (je_var 1 (pe_var (i := 1) rfl (by first | exact Or.inl rfl | exact Or.inr (Or.inl rfl) | exact Or.inr (Or.inr rfl))))))))))))
theorem okn_law_same (T : Txt P w K mg)  : ∀ i, FnOk P w K mg base (L2N.CX P w) (0 + i) T.a_law_same T.d_law_same ["_law_found", "_law_due"] (spD K TT (spn_law_same i))
  | 0 => fn_false
  | i + 1 => okr_law_same T (spn_law_same i) (0 + i) (by omega) (okn_law_same T i)
theorem ok_law_same (T : Txt P w K mg)  : FnOk P w K mg base (L2N.CX P w) 5 T.a_law_same T.d_law_same ["_law_found", "_law_due"] (spD K TT sp_law_same) := (okn_law_same T 4).mono (by omega)

end
end L43

set_option Elab.async false
set_option linter.all false
set_option maxRecDepth 100000
set_option maxHeartbeats 4000000
namespace L43
open PySem PySem.Spec PyProof.Rows L2 DX
set_option pp.maxSteps 1000
section
variable {P : Program} {w : World} {K : PySem.W.Frag} {mg : Str → Option Value} {base : Heap} {TT : List (Addr × Str)}
theorem ok_law_bag (T : Txt P w K mg) : FnOk P w K mg base (L2N.CX P w) 1 T.a_law_bag T.d_law_bag ["_law_script"] (spBag K) := by
  refine okFN T.F_law_bag sc_law_bag (fun vs H Q E ⟨a, ns, e, _⟩ => by rw [e]; rfl) (fun cdv A outer s H vs Q E hr h => ?_)
  obtain ⟨a, ns, rfl, hS, hlen, q⟩ := h
  refine ⟨_, (pss_cons (ps_set (i := 1) sc_law_bag.nd rfl (by first | exact Or.inl rfl | exact Or.inr rfl) pe_int)
  (pss_cons (ps_for (passes_of rfl) rfl (pi_list (pe_slice sl_list (pe_var (i := 0) rfl (by first | exact Or.inl rfl | exact Or.inr (Or.inl rfl) | exact Or.inr (Or.inr rfl))) po_none (po_some pe_int))) (pg_name (i := 2) sc_law_bag.nd rfl (by first | exact Or.inl rfl | exact Or.inr rfl))
  (pss_one (ps_set (i := 1) sc_law_bag.nd rfl (by first | exact Or.inl rfl | exact Or.inr rfl) (pe_op op_mod (pe_callTy call_int1 (by rfl) T.n_int (by decide +kernel) (pa_cons (pe_op op_add (pe_op op_add (pe_op op_mul (pe_var (i := 1) rfl (by first | exact Or.inl rfl | exact Or.inr (Or.inl rfl) | exact Or.inr (Or.inr rfl))) pe_int) (pe_op op_mod (pe_callTy call_int1 (by rfl) T.n_int (by decide +kernel) (pa_cons (pe_var (i := 2) rfl (by first | exact Or.inl rfl | exact Or.inr (Or.inl rfl) | exact Or.inr (Or.inr rfl))) pa_nil)) pe_int)) pe_int) pa_nil)) pe_int))))
  (pss_one (ps_ret (pe_lst (pa_cons (pe_lc (own := [("_law_cell", 2)]) (g := (gName 2)) (tt := tYes) rfl sc_law_bag.nd (pi_list (pe_slice sl_list (pe_var (i := 0) rfl (by first | exact Or.inl rfl | exact Or.inr (Or.inl rfl) | exact Or.inr (Or.inr rfl))) po_none (po_some pe_int))) (blkOk_by (N := N_law_bag) (sc := defScope st_law_bag) (by decide +kernel)) (fun _ _ _ _ _ => (pg_name (i := 2) sc_law_bag.nd rfl (by first | exact Or.inl rfl | exact Or.inr rfl))) (fun _ _ _ _ _ => pts_nil) (fun _ _ _ _ _ => (pe_callTy call_int1 (by rfl) T.n_int (by decide +kernel) (pa_cons (pe_var (i := 2) rfl (by first | exact Or.inl rfl | exact Or.inr (Or.inl rfl) | exact Or.inr (Or.inr rfl))) pa_nil)))) (pa_cons pe_int (pa_cons pe_int (pa_cons (pe_var (i := 1) rfl (by first | exact Or.inl rfl | exact Or.inr (Or.inl rfl) | exact Or.inr (Or.inr rfl))) (pa_cons pe_int pa_nil)))))))))), ?_⟩
  refine ⟨.ref a, rfl, ⟨63, rfl, a, ns.map V.int, rfl, hS, fun p np => ?_⟩⟩
  generalize hcut : cutV (ns.map V.int) none (some 63) = cs
  obtain ⟨ms, rfl⟩ : ∃ ms : List Int, cs = ms.map V.int := by
    refine ⟨((ns.drop (HT.sIx ns.length 0 none)).take (HT.sIx ns.length ns.length (some 63) - HT.sIx ns.length 0 none)), ?_⟩
    rw [← hcut]
    unfold cutV
    rw [List.length_map, List.map_take, List.map_drop]
  have hml : ms.length ≤ 63 := by
    have h1 := cutV_length (ns.map V.int) none (some 63)
    rw [hcut, List.length_map, List.length_map] at h1
    omega
  have s1 : DX.Same H (upd H p (.lst (ms.map V.int))) := fun b o e => by
    rw [upd_ne (ne_of_none e np)]
    exact e
  refine ⟨p, rfl, ⟨_, sqL upd_same⟩, ?_⟩
  refine for_list (xs := ms.map V.int) (fun i σ H' => H' = upd H p (.lst (ms.map V.int)) ∧ ∃ y2 z, σ = [some (.ref a), some (.int z), y2] ∧ 0 ≤ z ∧ z < 2147483629) ⟨rfl, none, 4913, rfl, by decide, by decide⟩ (fun i σ H' hi hp => ?_) (fun i x σ H' hx hp => ?_) (fun σ H' hp => ?_)
  · rw [hp.1]
    exact sqL upd_same
  · obtain ⟨rfl, y2, z, rfl, h0, h1⟩ := hp
    obtain ⟨c, rfl⟩ : ∃ c, x = .int c := by
      rw [List.getElem?_map] at hx
      cases e : ms[i]? with
      | none => rw [e] at hx; cases hx
      | some c =>
        rw [e] at hx
        exact ⟨c, (Option.some.inj hx).symm⟩
    refine ⟨.int z, rfl, ⟨z, 50021, rfl, rfl, .inr ⟨by decide, by decide⟩, .int c, rfl, .inl ⟨c, rfl, c, 2147483563, rfl, rfl, (show (0 : Int) < 2147483563 by decide), ?_⟩⟩⟩
    refine ⟨_, _, rfl, rfl, _, _, rfl, rfl, .inl ⟨_, rfl, _, _, rfl, rfl, (show (0 : Int) < 2147483629 by decide), ?_⟩⟩
    exact ⟨rfl, _, _, rfl, Int.emod_nonneg _ (by decide), Int.emod_lt_of_pos _ (by decide)⟩
  · obtain ⟨rfl, y2, z, rfl, h0, h1⟩ := hp
    refine ⟨.ref a, rfl, ⟨63, rfl, a, ns.map V.int, rfl, s1.seq hS, fun p2 np2 => ?_⟩⟩
    rw [hcut]
    have s2 : DX.Same H (upd (upd H p (.lst (ms.map V.int))) p2 (.lst (ms.map V.int))) := fun b o e => by
      rw [upd_ne (ne_of_none (s1 _ _ e) np2)]
      exact s1 _ _ e
    refine ⟨p2, rfl, ⟨_, sqL upd_same⟩, fun D nD => ?_⟩
    have nD2 : p2 ≠ D := fun e => by
      rw [← e, upd_same] at nD
      cases nD
    refine lc_list (xs := ms.map V.int) (fun i H' => H' = upd (upd (upd H p (.lst (ms.map V.int))) p2 (.lst (ms.map V.int))) D (.lst ((ms.take i).map V.int))) rfl (fun i H' hi hp => ?_) (fun i x H' hx hp => ?_) (fun H' hp => ?_)
    · rw [hp]
      refine sqL ?_
      rw [upd_ne nD2]
      exact upd_same
    · subst hp
      rw [List.getElem?_map] at hx
      cases e : ms[i]? with
      | none => rw [e] at hx; cases hx
      | some c =>
        rw [e] at hx
        cases hx
        refine ⟨rfl, ?_⟩
        refine ⟨.int c, rfl, .inl ⟨c, rfl, _, upd_same, ?_, ?_⟩⟩
        · rw [List.length_map, List.length_take]
          exact DX.small1000 (by omega)
        · rw [upd_upd, List.take_add_one, e, List.map_append]
          rfl
    · subst hp
      rw [List.length_map, List.take_length]
      refine ⟨.int z, rfl, by show 5 ≤ sizeLine; decide, fun b nb => ?_⟩
      have nbD : D ≠ b := fun e => by
        rw [← e, upd_same] at nb
        cases nb
      have s3 : DX.Same H (upd (upd (upd H p (.lst (ms.map V.int))) p2 (.lst (ms.map V.int))) D (.lst (ms.map V.int))) := fun x o e => by
        rw [upd_ne (ne_of_none (s2 _ _ e) nD)]
        exact s2 _ _ e
      refine q _ b D ms z nbD.symm (fun x o e => by rw [upd_ne (ne_of_none (s3 _ _ e) nb)]; exact s3 _ _ e) upd_same ?_ hml h0 h1
      rw [upd_ne nbD]
      exact upd_same

end
end L43

set_option Elab.async false
set_option linter.all false
set_option maxRecDepth 100000
set_option maxHeartbeats 4000000
namespace L43
open PySem PySem.Spec PyProof.Rows L2 DX
set_option pp.maxSteps 1000
section
variable {P : Program} {w : World} {K : PySem.W.Frag} {mg : Str → Option Value} {base : Heap} {TT : List (Addr × Str)}
theorem ok_law (T : Txt P w K mg) (G_law_bag : FnOk P w K mg base (L2N.CX P w) 1 T.a_law_bag T.d_law_bag ["_law_script"] (spBag K)) (G_law_watcher : FnOk P w K mg base (L2N.CX P w) 2 T.a_law_watcher T.d_law_watcher ["_law_bag_here", "_law_most"] (spD K TT sp_law_watcher)) (G_law_rule : FnOk P w K mg base (L2N.CX P w) 5 T.a_law_rule T.d_law_rule ["_law_plan"] (spD K TT sp_law_rule)) (G_law_pull : FnOk P w K mg base (L2N.CX P w) 1 T.a_law_pull T.d_law_pull ["_law_bag_here", "_law_many"] (spD K TT sp_law_pull)) (G_law_pick : FnOk P w K mg base (L2N.CX P w) 2 T.a_law_pick T.d_law_pick ["_law_bag_here", "_law_row"] (spD K TT sp_law_pick)) (G_law_broken : FnOk P w K mg base (L2N.CX P w) 2 T.a_law_broken T.d_law_broken ["_law_plan", "_law_labels_z"] (spD K TT sp_law_broken)) (G_Watcher_breaks : FnOk P w K mg base (L2N.CX P w) 2 T.a_Watcher_breaks T.d_Watcher_breaks ["self", "labels"] (spD K TT sp_Watcher_breaks)) (G_law_same : FnOk P w K mg base (L2N.CX P w) 5 T.a_law_same T.d_law_same ["_law_found", "_law_due"] (spD K TT sp_law_same))
    (hm : ∀ p c ms z, p ≠ c → ms.length ≤ 63 → 0 ≤ z → z < 2147483629 → m_law lawC (none :: some (.ref p) :: List.replicate 9 none) (bagS p c ms z)) : FnOk P w K mg base (L2N.CX P w) 6 T.a_law T.d_law ["_law_script"] (spLaw K TT) := by
  refine okFN T.F_law sc_law (fun vs H Q E ⟨a, ns, e, _⟩ => by rw [e]; rfl) (fun cdv A outer s H vs Q E hr h => ?_)
  obtain ⟨a, ns, rfl, hS, hlen, qq, hTT⟩ := h
  have hu64 := hr.units
  have hu65 : (A.deeper (envOfC "law" (defScope st_law) s.heap.objs.size T.a_law cdv)).units + 65 < cLine := by have := hr.un; omega
  refine ⟨_, pss_cons (ps_set (i := 1) sc_law.nd rfl (by first | exact Or.inl rfl | exact Or.inr rfl) (pe_call G_law_bag (hr.mono (by omega)) (by rfl) T.g_law_bag T.F_law_bag.kp T.b_law_bag .nil passes_f (pa_cons (pe_var (i := 0) rfl (by first | exact Or.inl rfl | exact Or.inr (Or.inl rfl) | exact Or.inr (Or.inr rfl))) pa_nil))) pss, ?_⟩
  refine enter_law (N := N_law) (n := 9) rfl hS hlen qq (m := m_law) hTT (fun F eW eT => ?_) hm
  subst eT
  have tk : L2N.Takes (cxOf (L2N.CX P w) P w K mg base N_law "law" (defScope st_law) T.a_law cdv A outer s H E) F.Wx := by rw [eW]; exact takes_none5
  exact (jss_cons (js_for (fun h1 h2 h3 => ps_for (passes_of rfl) rfl h1 h2 h3) (ji_rng1 (ja_cons je_int ja_nil) (pi_range1 (by rfl) T.n_range pa)) (jg_name (pg_name (i := 2) sc_law.nd rfl (by first | exact Or.inl rfl | exact Or.inr rfl)))
  (jss_cons (js_set (i := 3) (fun h => ps_set (i := 3) sc_law.nd rfl (by first | exact Or.inl rfl | exact Or.inr rfl) h) (je_call rfl (rn_fn0 rfl G_law_watcher (hr.mono (by omega)) T.b_law_watcher tk) (by rfl) T.g_law_watcher T.F_law_watcher.kp (ja_cons (je_var 1 (pe_var (i := 1) rfl (by first | exact Or.inl rfl | exact Or.inr (Or.inl rfl) | exact Or.inr (Or.inr rfl)))) (ja_cons je_int ja_nil))))
  (jss_cons (js_set (i := 4) (fun h => ps_set (i := 4) sc_law.nd rfl (by first | exact Or.inl rfl | exact Or.inr rfl) h) (je_call rfl (rn_fn0 rfl G_law_rule (hr.mono (by omega)) T.b_law_rule tk) (by rfl) T.g_law_rule T.F_law_rule.kp (ja_cons (je_var 3 (pe_var (i := 3) rfl (by first | exact Or.inl rfl | exact Or.inr (Or.inl rfl) | exact Or.inr (Or.inr rfl)))) ja_nil)))
  (jss_cons (js_for (fun h1 h2 h3 => ps_for (passes_of rfl) rfl h1 h2 h3) (ji_rng1 (ja_cons je_int ja_nil) (pi_range1 (by rfl) T.n_range pa)) (jg_name (pg_name (i := 5) sc_law.nd rfl (by first | exact Or.inl rfl | exact Or.inr rfl)))
  (jss_cons (js_setLcG (i := 6) (own := [("_law_k", 7)]) rfl (by decide) sc_law.nd rfl rfl (sw_true rfl rfl rfl (by decide +kernel)) (blkOk_by (N := N_law) (sc := defScope st_law) (by decide +kernel)) (ji_rng1 (ja_cons (je_call rfl (rn_fn0 rfl G_law_pull (hr.mono (by omega)) T.b_law_pull tk) (by rfl) T.g_law_pull T.F_law_pull.kp (ja_cons (je_var 1 (pe_var (i := 1) rfl (by first | exact Or.inl rfl | exact Or.inr (Or.inl rfl) | exact Or.inr (Or.inr rfl)))) (ja_cons je_int ja_nil))) ja_nil) (pi_range1 (by rfl) T.n_range pa)) (fun _ _ _ _ _ => (jg_name (pg_name (i := 7) sc_law.nd rfl (by first | exact Or.inl rfl | exact Or.inr rfl)))) (fun _ _ _ _ _ => jts_nil) (fun _ _ _ _ _ => (je_call rfl (rn_fn0 rfl G_law_pick (hr.mono (by omega)) T.b_law_pick takes_none5) (by rfl) T.g_law_pick T.F_law_pick.kp (ja_cons (je_var 1 (pe_var (i := 1) rfl (by first | exact Or.inl rfl | exact Or.inr (Or.inl rfl) | exact Or.inr (Or.inr rfl)))) (ja_cons (je_lst (ja_cons je_str (ja_cons je_str (ja_cons je_str (ja_cons je_str (ja_cons je_str (ja_cons je_str ja_nil))))))) ja_nil)))))
  (jss_cons (js_par (fun h => ps_par (i := 8) (j := 9) (by rfl) sc_law.nd rfl rfl (by decide) rfl rfl h (by rfl)) (ja_cons (je_cb (oc_list rfl) (ja_cons (je_var 6 (pe_var (i := 6) rfl (by first | exact Or.inl rfl | exact Or.inr (Or.inl rfl) | exact Or.inr (Or.inr rfl)))) ja_nil) (fun h => pe_callTy h (by rfl) T.n_list (by decide +kernel) pa)) (ja_cons (je_call rfl (rn_fn0 rfl G_law_broken (hr.mono (by omega)) T.b_law_broken tk) (by rfl) T.g_law_broken T.F_law_broken.kp (ja_cons (je_var 3 (pe_var (i := 3) rfl (by first | exact Or.inl rfl | exact Or.inr (Or.inl rfl) | exact Or.inr (Or.inr rfl)))) (ja_cons (je_var 6 (pe_var (i := 6) rfl (by first | exact Or.inl rfl | exact Or.inr (Or.inl rfl) | exact Or.inr (Or.inr rfl)))) ja_nil))) ja_nil)))
  (jss_cons (js_set (i := 10) (fun h => ps_set (i := 10) sc_law.nd rfl (by first | exact Or.inl rfl | exact Or.inr rfl) h) (je_lst (ja_cons (je_meth (m := "breaks") rfl (meths_cons ⟨T.cl_Watcher, _, T.m_Watcher_breaks, (rn_fn0 rfl G_Watcher_breaks (hr.mono (by omega)) T.b_Watcher_breaks tk)⟩ meths_nil) (je_var 4 (pe_var (i := 4) rfl (by first | exact Or.inl rfl | exact Or.inr (Or.inl rfl) | exact Or.inr (Or.inr rfl)))) (ja_cons (je_var 8 (pe_var (i := 8) rfl (by first | exact Or.inl rfl | exact Or.inr (Or.inl rfl) | exact Or.inr (Or.inr rfl)))) ja_nil)) (ja_cons (je_methK0 (m := "breaks") rfl (meths_cons ⟨T.cl_Watcher, _, T.m_Watcher_breaks, (rn_fnK (gD := gd_Watcher_breaks_1_labels) rfl G_Watcher_breaks (hr.mono (by omega)) T.kb_Watcher_breaks_1_labels (fun _ _ _ _ _ => gw_Watcher_breaks_1_labels) tk)⟩ meths_nil) (je_var 4 (pe_var (i := 4) rfl (by first | exact Or.inl rfl | exact Or.inr (Or.inl rfl) | exact Or.inr (Or.inr rfl)))) (jk_cons (je_cb (oc_tup rfl) (ja_cons (je_var 6 (pe_var (i := 6) rfl (by first | exact Or.inl rfl | exact Or.inr (Or.inl rfl) | exact Or.inr (Or.inr rfl)))) ja_nil) (fun h => pe_callTy h (by rfl) T.n_tuple (by decide +kernel) pa)) jk_nil)) (ja_cons (je_meth (m := "breaks") rfl (meths_cons ⟨T.cl_Watcher, _, T.m_Watcher_breaks, (rn_fn0 rfl G_Watcher_breaks (hr.mono (by omega)) T.b_Watcher_breaks tk)⟩ meths_nil) (je_var 4 (pe_var (i := 4) rfl (by first | exact Or.inl rfl | exact Or.inr (Or.inl rfl) | exact Or.inr (Or.inr rfl)))) (ja_cons (je_var 8 (pe_var (i := 8) rfl (by first | exact Or.inl rfl | exact Or.inr (Or.inl rfl) | exact Or.inr (Or.inr rfl)))) ja_nil)) ja_nil)))))
  (jss_cons (js_if (JW.jt (jw_or (jt_not (jt_tru (je_call rfl (rn_fn0 rfl G_law_same (hr.mono (by omega)) T.b_law_same tk) (by rfl) T.g_law_same T.F_law_same.kp (ja_cons (je_var 10 (pe_var (i := 10) rfl (by first | exact Or.inl rfl | exact Or.inr (Or.inl rfl) | exact Or.inr (Or.inr rfl)))) (ja_cons (je_op (ob_mul rfl) (je_lst (ja_cons (je_var 9 (pe_var (i := 9) rfl (by first | exact Or.inl rfl | exact Or.inr (Or.inl rfl) | exact Or.inr (Or.inr rfl)))) ja_nil)) je_int) ja_nil))) rfl (fun _ => rfl))) (jw_or1 (jt_cmp (ob_ne rfl hu64) (nomark _) (je_var 8 (pe_var (i := 8) rfl (by first | exact Or.inl rfl | exact Or.inr (Or.inl rfl) | exact Or.inr (Or.inr rfl)))) (je_var 6 (pe_var (i := 6) rfl (by first | exact Or.inl rfl | exact Or.inr (Or.inl rfl) | exact Or.inr (Or.inr rfl))))))))
  (jss_one (js_ret je_bl))
  jss_nil)
  (jss_one (js_for (fun h1 h2 h3 => ps_for (passes_of rfl) rfl h1 h2 h3) (ji_rng1 (ja_cons (je_op (ob_add rfl) (je_cb (oc_len rfl) (ja_cons (je_var 6 (pe_var (i := 6) rfl (by first | exact Or.inl rfl | exact Or.inr (Or.inl rfl) | exact Or.inr (Or.inr rfl)))) ja_nil) (fun h => pe_callB h (by rfl) T.n_len (by decide +kernel) pa)) je_int) ja_nil) (pi_range1 (by rfl) T.n_range pa)) (jg_name (pg_name (i := 7) sc_law.nd rfl (by first | exact Or.inl rfl | exact Or.inr rfl)))
  (jss_one (js_if (JW.jt (jw_and (jt_tru (je_meth (m := "breaks") rfl (meths_cons ⟨T.cl_Watcher, _, T.m_Watcher_breaks, (rn_fn0 rfl G_Watcher_breaks (hr.mono (by omega)) T.b_Watcher_breaks tk)⟩ meths_nil) (je_var 4 (pe_var (i := 4) rfl (by first | exact Or.inl rfl | exact Or.inr (Or.inl rfl) | exact Or.inr (Or.inr rfl)))) (ja_cons (je_sl rfl (je_var 6 (pe_var (i := 6) rfl (by first | exact Or.inl rfl | exact Or.inr (Or.inl rfl) | exact Or.inr (Or.inr rfl)))) jp_no (jp_at (je_var 7 (pe_var (i := 7) rfl (by first | exact Or.inl rfl | exact Or.inr (Or.inl rfl) | exact Or.inr (Or.inr rfl)))))) ja_nil)) rfl (fun _ => rfl)) (jw_and1 (jt_not (jt_tru (je_var 9 (pe_var (i := 9) rfl (by first | exact Or.inl rfl | exact Or.inr (Or.inl rfl) | exact Or.inr (Or.inr rfl)))) rfl (fun _ => rfl))))))
  (jss_one (js_ret je_bl))
  jss_nil)))))))))
  (jss_one (js_if (jt_not (jt_tru (je_call rfl (rn_fn0 rfl G_law_same (hr.mono (by omega)) T.b_law_same tk) (by rfl) T.g_law_same T.F_law_same.kp (ja_cons (je_lst (ja_cons (je_meth (m := "breaks") rfl (meths_cons ⟨T.cl_Watcher, _, T.m_Watcher_breaks, (rn_fn0 rfl G_Watcher_breaks (hr.mono (by omega)) T.b_Watcher_breaks tk)⟩ meths_nil) (je_var 4 (pe_var (i := 4) rfl (by first | exact Or.inl rfl | exact Or.inr (Or.inl rfl) | exact Or.inr (Or.inr rfl)))) (ja_cons (je_lst ja_nil) ja_nil)) (ja_cons (je_meth (m := "breaks") rfl (meths_cons ⟨T.cl_Watcher, _, T.m_Watcher_breaks, (rn_fn0 rfl G_Watcher_breaks (hr.mono (by omega)) T.b_Watcher_breaks tk)⟩ meths_nil) (je_var 4 (pe_var (i := 4) rfl (by first | exact Or.inl rfl | exact Or.inr (Or.inl rfl) | exact Or.inr (Or.inr rfl)))) (ja_cons (je_lst (ja_cons je_str (ja_cons je_str ja_nil))) ja_nil)) ja_nil))) (ja_cons (je_op (ob_mul rfl) (je_lst (ja_cons (je_cmp (ob_in rfl hu65) (by rfl) (je_ix rfl (je_var 3 (pe_var (i := 3) rfl (by first | exact Or.inl rfl | exact Or.inr (Or.inl rfl) | exact Or.inr (Or.inr rfl)))) je_int (fun _ _ => rfl)) (je_ix rfl (je_var 3 (pe_var (i := 3) rfl (by first | exact Or.inl rfl | exact Or.inr (Or.inl rfl) | exact Or.inr (Or.inr rfl)))) je_int (fun _ _ => rfl))) ja_nil)) je_int) ja_nil))) rfl (fun _ => rfl)))
  (jss_one (js_ret je_bl))
  jss_nil))))))
  (jss_one (js_ret je_bl)))

end
end L43

set_option Elab.async false
set_option linter.all false
set_option maxRecDepth 100000
set_option maxHeartbeats 4000000
namespace L43
open PySem PySem.Spec PyProof.Rows L2 DX
local macro_rules | `(tactic| walk_at "run") => `(tactic| simp only [x_bl, x_tru, x_kbl, x_ktru, x_chain, x_kch, x_andV, x_orV, x_notV, x_kand, x_kor, x_knot, x_star, x_kstar, x_kat, x_kcell, x_kvar, x_c, x_var, x_op, x_un, x_and, x_or, x_not, x_if, x_nil, x_cons, x_tup, x_lst, x_newF, x_newT, x_cb, x_call, x_callK,
  x_add, x_sub, x_mul, x_mod, x_div, x_pow, x_lt, x_le, x_gt, x_ge, x_eqI, x_neI, x_eqS, x_neS, x_isN, x_notN, x_ixC, x_ixL, x_ixT, x_lenC, x_lenL, x_lenT, x_int, x_intB, x_setIx, x_tupL, x_tupT, x_tupC, x_listL, x_listT, x_listC, x_newMap, x_allL, x_anyL, allB_bls, x_inT, x_ninT, inV_nil, inV_str, mapSc, D.sc, x_isi, x_isiC, x_isiT, x_fisi, isAny, isI, W.tg, D.tg, D.ctg, Tg.inC, x_fld, x_con, x_prp, x_attr, x_kattrD, x_kattrC, x_kobj, x_meth, x_kmethD, x_kmethC, x_putA, x_fldS, x_frz, x_kfrzD, putW, List.lookup_cons, List.lookup_nil, List.all_cons, List.all_nil, Option.isSome_some, String.reduceEq, String.reduceBEq, ofString_eq, x_truN, x_truB, x_truI, x_truL, x_truT, x_seqL, x_seqT, x_mcons, x_mnil, x_set, x_asg, x_drp, x_ret, x_retN, x_ifS, x_tgN, x_tgSub, x_par, XF, startD, lawC,
  upS_same, upS_upS, List.map_cons, List.map_nil, List.cons_append, List.nil_append, List.append_nil, List.getElem?_cons_zero, List.getElem?_cons_succ, List.getElem?_nil, List.set_cons_zero, List.set_cons_succ, List.length_cons, List.length_nil, List.length_map, List.replicate_succ, List.replicate_zero, Nat.sub_self, Nat.reduceSub, Nat.reduceAdd, Nat.reduceLT, Nat.reduceLeDiff, Nat.zero_add, Nat.add_zero, Int.cast_ofNat_Int, Int.reduceAdd, Int.reduceSub, Int.reduceMul, Int.reduceLE, Int.reduceLT, Int.reducePow, Int.reduceToNat, Int.reduceEq, Int.reduceNeg, Nat.reducePow,
  L2.atI, ixN, Option.bind_some, Option.bind_none, allD, mkT, W.isN, Option.map_some, Option.map_none, Bool.not_true, Bool.not_false, Bool.and_true, Bool.true_and, Bool.or_true, Bool.true_or, Bool.or_false, Bool.false_or, Bool.and_self, Bool.false_eq_true, reduceCtorEq, if_true, if_false, ite_true, ite_false, true_and, and_true, and_self, true_or, or_true, decide_true, decide_false, decide_eq_true_eq, not_true_eq_false, not_false_eq_true, beq_self_eq_true])
theorem dn_of {P : W → Store → Prop} {w : W} {S : Store} (h : P w S) : dnW P w S := .of h
theorem bag_up {S : Store} {p c : Addr} {ms : List Int} {i r z n : Int} (hc : S c = some (bagI ms)) (ne : p ≠ c) (hm : ms.length ≤ 63) (hi : 0 ≤ i) (hr : 0 ≤ r) (hz : 0 ≤ z) (hz2 : z < 2147483629) : BagOk (upS S p (.lst [.ref c, .d (.int i), .d (.int r), .d (.int z), .d (.int n)])) p c :=
  ⟨ms, i, r, z, n, upS_same, by rw [upS_ne (Ne.symm ne)]; exact hc, ne, hm, hi, hr, hz, hz2⟩
theorem pull_ok {p c : Addr} {many : Int} {S : Store} {P : W → Store → Prop} {X : XP} (hb : BagOk S p c) (h1 : 1 ≤ many) (h2 : many < 2 ^ 64) (h : ∀ d cell, 0 ≤ d → d < many → BagOk (upS S p cell) p c → P (.d (.int d)) (upS S p cell)) : sp_law_pull [.ref p, .d (.int many)] S P X := by
  obtain ⟨ms, i, r, z, n, hp, hc, ne, hm, hi, hr, hz, hz2⟩ := hb
  unfold bagC at hp
  have hc' : ∀ x, (upS S p x) c = some (bagI ms) := fun x => by rw [upS_ne (Ne.symm ne)]; exact hc
  unfold bagI at hc'
  have m1 : 0 < many := by omega
  refine ⟨rfl, ?_⟩
  unfold m_law_pull
  have cm1 : ∀ q : Int, CMul q 7001 := fun q => cmul_r (by decide) (by decide)
  have cm2 : ∀ q : Int, CMul q 30011 := fun q => cmul_r (by decide) (by decide)
  have cm3 : ∀ q : Int, CMul q 613 := fun q => cmul_r (by decide) (by decide)
  have cm4 : ∀ q : Int, CMul q 40013 := fun q => cmul_r (by decide) (by decide)
  have cm5 : ∀ q : Int, CMul q 977 := fun q => cmul_r (by decide) (by decide)
  have nm : ∀ q : Int, 0 ≤ q % many ∧ q % many < many := fun q => ⟨Int.emod_nonneg _ (by omega), Int.emod_lt_of_pos _ m1⟩
  have np : ∀ q : Int, 0 ≤ q % 2147483629 ∧ q % 2147483629 < 2147483629 := fun q => ⟨Int.emod_nonneg _ (by decide), Int.emod_lt_of_pos _ (by decide)⟩
  have cz : ∀ z : Int, 0 ≤ z → z < 2147483629 → CMul z z := fun z a b => cmul_r (by omega) (by omega)
  have na : Int.natAbs 10 < 18446744073709551616 := by decide
  repeat (first | walk_at "run" | simp only [hp] | simp only [hc'])
  have dig : ∀ (i r z n : Int), 0 ≤ i → 0 < r → 0 ≤ z → z < 2147483629 → dnW P (W.d (D.int (r % many))) (upS S p (Cell.lst [W.ref c, W.d (D.int i), W.d (D.int (r / many)), W.d (D.int z), W.d (D.int n)])) := fun i r z n a1 a2 a3 a4 =>
    dn_of (h _ _ (nm r).1 (nm r).2 (bag_up hc ne hm a1 (Int.ediv_nonneg (by omega) (by omega)) a3 a4))
  have fin : ∀ (i r q y n : Int), 0 ≤ i → 0 ≤ r → dnW P (W.d (D.int (y % many))) (upS S p (Cell.lst [W.ref c, W.d (D.int i), W.d (D.int r), W.d (D.int (q % 2147483629)), W.d (D.int n)])) := fun i r q y n a1 a2 =>
    dn_of (h _ _ (nm y).1 (nm y).2 (bag_up hc ne hm a1 a2 (np q).1 (np q).2))
  have rest : ∀ (h0 : Prop) [Decidable h0] (A B : Prop), (h0 → A) → (¬ h0 → B) → if h0 then A else B := fun h0 _ A B a b => by split; exact a ‹_›; exact b ‹_›
  have h2' : many < 18446744073709551616 := h2
  refine rest _ _ _ (fun r0 => ?_) (fun r0 => ?_)
  · refine rest _ _ _ (fun il => ?_) (fun il => ?_)
    · have hl : i.toNat < ms.length := by omega
      have e : ((if 0 ≤ i then if i < (ms.length : Int) then some i.toNat else none else if -(ms.length : Int) ≤ i then some (i + (ms.length : Int)).toNat else none).bind fun j => (List.map (fun m => W.d (D.int m)) ms)[j]?) = some (.d (.int ms[i.toNat])) := by
        rw [if_pos hi, if_pos il]
        simp [hl]
      rw [e]
      generalize ms[i.toNat] = v
      repeat (first | walk_at "run" | simp only [hp] | simp only [hc'])
      refine ⟨na, ?_⟩
      refine rest _ _ _ (fun v0 => ?_) (fun v0 => ?_)
      · rw [if_pos (by omega)]
        exact ⟨m1, ⟨m1, h2'⟩, dig _ _ _ _ (by omega) (by omega) hz hz2⟩
      · refine ⟨cm4 _, cm5 _, ?_⟩
        rw [if_neg (by omega)]
        exact ⟨cz _ (np _).1 (np _).2, cm1 _, cm2 _, cm3 _, m1, fin _ _ _ _ _ (by omega) hr⟩
    · rw [if_neg (by omega)]
      exact ⟨cz _ hz hz2, cm1 _, cm2 _, cm3 _, m1, fin _ _ _ _ _ hi hr⟩
  · rw [if_pos (by omega)]
    exact ⟨m1, ⟨m1, h2'⟩, dig _ _ _ _ hi (by omega) hz hz2⟩

theorem q_law_pull : QF [true, false] sp_law_pull fPull := qf_pull pull_ok
noncomputable section
def f_law_watcher : FS :=
  (fSCons (fSet 2 (fOp foAdd (fC (.int 1)) (fCall fPull (fCons (fVar 0) (fCons (fVar 1) fNil)))))
  (fSCons (fSet 3 (fLst fNil))
  (fSCons (fFor (fiRng1 (fCons (fVar 2) fNil)) (ftN 4)
  (fSCons (fSet 5 fDct0)
  (fSCons (fFor (fiSeq (fLst (fCons (fC (.str "a")) (fCons (fC (.str "ab")) (fCons (fC (.str "b")) fNil))))) (ftN 6)
  (fIfS (fBl (fOp foEq (fCall fPull (fCons (fVar 0) (fCons (fC (.int 2)) fNil))) (fC (.int 0))))
  (fDPut 5 (fVar 6) (fCall fPull (fCons (fVar 0) (fCons (fVar 2) fNil))))
  fSNil) [6])
  (fAppFrz 3 5))) [4, 5, 6])
  (fRetL (frFrz 3 (frCons (fCall fPull (fCons (fVar 0) (fCons (fVar 2) fNil))) (frCons (fLc [4] (fiRng1 (fCons (fVar 2) fNil)) (ftN 4) (fBl (fOp foEq (fCall fPull (fCons (fVar 0) (fCons (fC (.int 3)) fNil))) (fC (.int 0)))) (fVar 4)) frNil)))))))
def F_law_watcher : DF := bodyF 2 7 f_law_watcher
theorem q_law_watcher : QF [true, false] sp_law_watcher F_law_watcher := qf_body (c := ⟨[0, 3, 5], [0], []⟩) (show QS ⟨[0, 3, 5], [0], []⟩ false m_law_watcher f_law_watcher from
  (qs_cons (qs_set (qe_op so_add qe_c (qe_call q_law_pull (qa_own (i := 0) (by decide) (qa_cons (qe_var (i := 1) (by decide)) qa_nil)))))
  (qs_cons (qs_setO (qo_lst qa_nil))
  (qs_cons (qs_for (dead := [4, 5, 6]) (qi_rng1 (qa_cons (qe_var (i := 2) (by decide)) qa_nil)) (qg_n (i := 4))
  (qs_cons (qs_setO qo_dct0)
  (qs_cons (qs_for (dead := [6]) (qi_seq (qe_lst (qa_cons qe_c (qa_cons qe_c (qa_cons qe_c qa_nil))))) (qg_n (i := 6))
  (qs_if (qt_bl (qe_op so_eq (qe_call q_law_pull (qa_own (i := 0) (by decide) (qa_cons qe_c qa_nil))) qe_c))
  (qs_dput (i := 5) (qe_var (i := 6) (by decide)) (qe_call q_law_pull (qa_own (i := 0) (by decide) (qa_cons (qe_var (i := 2) (by decide)) qa_nil))))
  qs_nil))
  (qs_appFrz (i := 3) (j := 5)))))
  (qs_retL (qar_frz (i := 3) (qar_cons (qe_call q_law_pull (qa_own (i := 0) (by decide) (qa_cons (qe_var (i := 2) (by decide)) qa_nil))) (qar_cons (qe_lc (QI0.i (qi_rng1 (qa_cons (qe_var (i := 2) (by decide)) qa_nil))) (qg_n (i := 4)) (qt_bl (qe_op so_eq (qe_call q_law_pull (qa_own (i := 0) (by decide) (qa_cons qe_c qa_nil))) qe_c)) (qe_var (i := 4) (by decide))) qar_nil))))))))
def f_is_name : FS :=
  (fRet (fAndV (fCB (fbIsi isi_cs isi_sub) (fCons (fVar 0) (fCons (fC (.ty "str")) fNil))) (fAndV (fChain foLe foLe (fC (.int 1)) (fCB fbLen (fCons (fVar 0) fNil)) (fC (.int 6))) (fCB fbAll (fCons (fLc [1] (fiStr (fVar 0)) (ftN 1) ftYes (fOp foIn (fVar 1) (fC (.str "abcdefghijklmnopqrstuvwxyz")))) fNil)))))
def F_is_name : DF := bodyF 1 2 f_is_name
theorem q_is_name : QF [false] sp_is_name F_is_name := qf_body (c := ⟨[], [], []⟩) (show QS ⟨[], [], []⟩ false m_is_name f_is_name from
  (qs_ret (qe_andV (qe_cb sn_isi (qa_cons (qe_var (i := 0) (by decide)) (qa_cons qe_c qa_nil))) (qe_andV (qe_chain so_le so_le qe_c (qe_cb sn_len (qa_cons (qe_var (i := 0) (by decide)) qa_nil)) qe_c) (qe_cb sn_all (qa_cons (qe_lc (QI0.i (qi_str (qe_var (i := 0) (by decide)))) (qg_n (i := 1)) qt_yes (qe_op so_in (qe_var (i := 1) (by decide)) qe_c)) qa_nil))))))
def f_is_number : FS :=
  (fSCons (fIfS (fOr (fNot (fTru (fCB (fbIsi isi_cs isi_sub) (fCons (fVar 0) (fCons (fC (.ty "int")) fNil))))) (fTru (fCB (fbIsi isi_cs isi_sub) (fCons (fVar 0) (fCons (fC (.ty "bool")) fNil)))))
  (fRet (fC (.bl false)))
  fSNil)
  (fRet (fAndV (fOp foLe (fVar 1) (fVar 0)) (fOrV (fOp foIsN (fVar 2) (fC .non)) (fOp foLe (fVar 0) (fVar 2))))))
def F_is_number : DF := bodyF 3 3 f_is_number
theorem q_is_number : QF [false, false, false] sp_is_number F_is_number := qf_body (c := ⟨[], [], []⟩) (show QS ⟨[], [], []⟩ false m_is_number f_is_number from
  (qs_cons (qs_if (qt_or (qt_not (qt_tru (qe_cb sn_isi (qa_cons (qe_var (i := 0) (by decide)) (qa_cons qe_c qa_nil))))) (qt_tru (qe_cb sn_isi (qa_cons (qe_var (i := 0) (by decide)) (qa_cons qe_c qa_nil)))))
  (qs_ret qe_c)
  qs_nil)
  (qs_ret (qe_andV (qe_op so_le (qe_var (i := 1) (by decide)) (qe_var (i := 0) (by decide))) (qe_orV (qe_op so_isN (qe_var (i := 2) (by decide)) qe_c) (qe_op so_le (qe_var (i := 0) (by decide)) (qe_var (i := 2) (by decide))))))))
def f_is_state_row : FS :=
  (fSCons (fIfS (fNot (fTru (fCB (fbIsi isi_cs isi_sub) (fCons (fVar 1) (fCons (fC (.ty "dict")) fNil)))))
  (fRet (fC (.bl false)))
  fSNil)
  (fRet (fCB fbAll (fCons (fLc [2] (fiKeys (fVar 1)) (ftN 2) ftYes (fAndV (fCall F_is_name (fCons (fVar 2) fNil)) (fCall F_is_number (fCons (fDGet (fVar 1) (fVar 2)) (fCons (fC (.int 0)) (fCons (fOp foSub (fVar 0) (fC (.int 1))) fNil)))))) fNil))))
def F_is_state_row : DF := bodyF 2 3 f_is_state_row
theorem q_is_state_row : QF [false, false] sp_is_state_row F_is_state_row := qf_body (c := ⟨[], [], []⟩) (show QS ⟨[], [], []⟩ false m_is_state_row f_is_state_row from
  (qs_cons (qs_if (qt_not (qt_tru (qe_cb sn_isi (qa_cons (qe_var (i := 1) (by decide)) (qa_cons qe_c qa_nil)))))
  (qs_ret qe_c)
  qs_nil)
  (qs_ret (qe_cb sn_all (qa_cons (qe_lc (QI0.i (qi_keys (qe_var (i := 1) (by decide)))) (qg_n (i := 2)) qt_yes (qe_andV (qe_call q_is_name (qa_cons (qe_var (i := 2) (by decide)) qa_nil)) (qe_call q_is_number (qa_cons (qe_dget (qe_var (i := 1) (by decide)) (qe_var (i := 2) (by decide))) (qa_cons qe_c (qa_cons (qe_op so_sub (qe_var (i := 0) (by decide)) qe_c) qa_nil)))))) qa_nil)))))
def f_Watcher_init : FS :=
  (fSCons (fIfS (fNot (fBl (fChain foLe foLe (fC (.int 1)) (fCB fbLen (fCons (fVar 1) fNil)) (fC (.int 12)))))
  fSNo
  fSNil)
  (fSCons (fFor (fiEnum (fCons (fVar 1) fNil)) (ftT 2 (ftCons 4 (ftCons 5 ftNil)))
  (fIfS (fNot (fTru (fCall F_is_state_row (fCons (fCB fbLen (fCons (fVar 1) fNil)) (fCons (fVar 5) fNil)))))
  fSNo
  fSNil) [4, 5])
  (fSCons (fFor (fiSeq (fLst (fCons (fVar 2) (fStarA (fVar 3) fNil)))) (ftN 6)
  (fIfS (fNot (fTru (fCall F_is_number (fCons (fVar 6) (fCons (fC (.int 0)) (fCons (fOp foSub (fCB fbLen (fCons (fVar 1) fNil)) (fC (.int 1))) fNil))))))
  fSNo
  fSNil) [6])
  (fSCons (fFld "own_rows" ["Watcher"] 0 (fLc [5] (fiSeq (fVar 1)) (ftN 5) ftYes (fDc [7] (fiSeq (fSortD (fListD (fVar 5)))) (ftN 7) ftYes (fVar 7) (fDGet (fVar 5) (fVar 7)))))
  (fSCons (fFld "own_start" ["Watcher"] 0 (fVar 2))
  (fFld "own_bad" ["Watcher"] 0 (fSortSI (fVar 3))))))))
def M_Watcher_init : MF := bodyM 4 8 f_Watcher_init
theorem q_Watcher_init : QM [false, false, false] sp_Watcher_init M_Watcher_init := qm_body (c := ⟨[0], [], [0]⟩) (show QS ⟨[0], [], [0]⟩ false m_Watcher_init f_Watcher_init from
  (qs_cons (qs_if (qt_not (qt_bl (qe_chain so_le so_le qe_c (qe_cb sn_len (qa_cons (qe_var (i := 1) (by decide)) qa_nil)) qe_c)))
  qs_no
  qs_nil)
  (qs_cons (qs_for (dead := [4, 5]) (qi_enum (qa_cons (qe_var (i := 1) (by decide)) qa_nil)) (qg_t (qgs_cons (i := 4) (qgs_cons (i := 5) qgs_nil)))
  (qs_if (qt_not (qt_tru (qe_call q_is_state_row (qa_cons (qe_cb sn_len (qa_cons (qe_var (i := 1) (by decide)) qa_nil)) (qa_cons (qe_var (i := 5) (by decide)) qa_nil)))))
  qs_no
  qs_nil))
  (qs_cons (qs_for (dead := [6]) (qi_seq (qe_lstT (qat_cons (qe_var (i := 2) (by decide)) (qat_star (qe_var (i := 3) (by decide)) qat_nil)))) (qg_n (i := 6))
  (qs_if (qt_not (qt_tru (qe_call q_is_number (qa_cons (qe_var (i := 6) (by decide)) (qa_cons qe_c (qa_cons (qe_op so_sub (qe_cb sn_len (qa_cons (qe_var (i := 1) (by decide)) qa_nil)) qe_c) qa_nil))))))
  qs_no
  qs_nil))
  (qs_cons (qs_fld (i := 0) (qe_lc (QI0.i (qi_seq (qe_var (i := 1) (by decide)))) (qg_n (i := 5)) qt_yes (qe_dc (QI0.i (qi_seq (qe_sortD (qe_listD (qe_var (i := 5) (by decide)))))) (qg_n (i := 7)) qt_yes (qe_var (i := 7) (by decide)) (qe_dget (qe_var (i := 5) (by decide)) (qe_var (i := 7) (by decide))))))
  (qs_cons (qs_fld (i := 0) (qe_var (i := 2) (by decide)))
  (qs_fld (i := 0) (qe_sortSI (qe_var (i := 3) (by decide))))))))))
def gdD_Watcher_init_2_start_bad (ds : List D) : List D := atL ds 0 ++ (atL ds 1 ++ (atL ds 2 ++ (atL ds 3)))
def giD_Watcher_init_2_start_bad (ds : List D) : List D := atL ds 0 ++ (atL ds 1 ++ (atL ds 2))
theorem giL_Watcher_init_2_start_bad (ds : List D) (h : ds.length = 3) : gi_Watcher_init_2_start_bad (ds.map .d) = (giD_Watcher_init_2_start_bad ds).map .d ∧ (giD_Watcher_init_2_start_bad ds).length = 3 := match ds, h with | [_, _, _], _ => ⟨rfl, rfl⟩
def f_law_rule : FS :=
  (fRet (fFrzA (fCallK (fun ds => fMk "Watcher" M_Watcher_init (giD_Watcher_init_2_start_bad ds)) (fCons (fOp foIx (fVar 0) (fC (.int 0))) fNil) (fCons (fOp foIx (fVar 0) (fC (.int 1))) (fCons (fOp foIx (fVar 0) (fC (.int 2))) fNil)))))
def F_law_rule : DF := bodyF 1 1 f_law_rule
theorem q_law_rule : QF [false] sp_law_rule F_law_rule := qf_body (c := ⟨[], [], []⟩) (show QS ⟨[], [], []⟩ false m_law_rule f_law_rule from
  (qs_ret (qe_frzA (qo_callK (qf_reO (n := 3) (j := 3) (qf_mk q_Watcher_init) giL_Watcher_init_2_start_bad) (qa_cons (qe_op so_ix (qe_var (i := 0) (by decide)) qe_c) qa_nil) (qa_cons (qe_op so_ix (qe_var (i := 0) (by decide)) qe_c) (qa_cons (qe_op so_ix (qe_var (i := 0) (by decide)) qe_c) qa_nil))))))
def f_law_pick : FS :=
  (fRet (fOp foIx (fVar 1) (fCall fPull (fCons (fVar 0) (fCons (fCB fbLen (fCons (fVar 1) fNil)) fNil)))))
def F_law_pick : DF := bodyF 2 2 f_law_pick
theorem q_law_pick : QF [true, false] sp_law_pick F_law_pick := qf_body (c := ⟨[0], [0], []⟩) (show QS ⟨[0], [0], []⟩ false m_law_pick f_law_pick from
  (qs_ret (qe_op so_ix (qe_var (i := 1) (by decide)) (qe_call q_law_pull (qa_own (i := 0) (by decide) (qa_cons (qe_cb sn_len (qa_cons (qe_var (i := 1) (by decide)) qa_nil)) qa_nil))))))
def f_law_next : FS :=
  (fRet (fDGet2 (fOp foIx (fOp foIx (fVar 0) (fC (.int 0))) (fVar 1)) (fVar 2) (fVar 1)))
def F_law_next : DF := bodyF 3 3 f_law_next
theorem q_law_next : QF [false, false, false] sp_law_next F_law_next := qf_body (c := ⟨[], [], []⟩) (show QS ⟨[], [], []⟩ false m_law_next f_law_next from
  (qs_ret (qe_dget2 (qe_op so_ix (qe_op so_ix (qe_var (i := 0) (by decide)) qe_c) (qe_var (i := 1) (by decide))) (qe_var (i := 2) (by decide)) (qe_var (i := 1) (by decide)))))
def f_law_broken : FS :=
  (fSCons (fSet 2 (fOp foIx (fVar 0) (fC (.int 1))))
  (fSCons (fSet 3 (fOp foIn (fVar 2) (fOp foIx (fVar 0) (fC (.int 2)))))
  (fSCons (fFor (fiSeq (fVar 1)) (ftN 4)
  (fSCons (fSet 2 (fCall F_law_next (fCons (fVar 0) (fCons (fVar 2) (fCons (fVar 4) fNil)))))
  (fSet 3 (fOrV (fVar 3) (fOp foIn (fVar 2) (fOp foIx (fVar 0) (fC (.int 2))))))) [4])
  (fRet (fVar 3)))))
def F_law_broken : DF := bodyF 2 5 f_law_broken
theorem q_law_broken : QF [false, false] sp_law_broken F_law_broken := qf_body (c := ⟨[], [], []⟩) (show QS ⟨[], [], []⟩ false m_law_broken f_law_broken from
  (qs_cons (qs_set (qe_op so_ix (qe_var (i := 0) (by decide)) qe_c))
  (qs_cons (qs_set (qe_op so_in (qe_var (i := 2) (by decide)) (qe_op so_ix (qe_var (i := 0) (by decide)) qe_c)))
  (qs_cons (qs_for (dead := [4]) (qi_seq (qe_var (i := 1) (by decide))) (qg_n (i := 4))
  (qs_cons (qs_set (qe_call q_law_next (qa_cons (qe_var (i := 0) (by decide)) (qa_cons (qe_var (i := 2) (by decide)) (qa_cons (qe_var (i := 4) (by decide)) qa_nil)))))
  (qs_set (qe_orV (qe_var (i := 3) (by decide)) (qe_op so_in (qe_var (i := 2) (by decide)) (qe_op so_ix (qe_var (i := 0) (by decide)) qe_c))))))
  (qs_ret (qe_var (i := 3) (by decide)))))))
def f_Watcher_step : FS :=
  (fSCons (fSet 3 (fOp foIx (fAttr "own_rows" (("Watcher", .fld) :: []) (fVar 0)) (fVar 1)))
  (fRet (fIf (fBl (fDIn id (fVar 2) (fVar 3))) (fDGet (fVar 3) (fVar 2)) (fVar 1))))
def F_Watcher_step : DF := bodyF 3 4 f_Watcher_step
theorem q_Watcher_step : QF [false, false, false] sp_Watcher_step F_Watcher_step := qf_body (c := ⟨[], [], []⟩) (show QS ⟨[], [], []⟩ false m_Watcher_step f_Watcher_step from
  (qs_cons (qs_set (qe_op so_ix (qe_attr (qe_var (i := 0) (by decide)) (.cons .fld .nil)) (qe_var (i := 1) (by decide))))
  (qs_ret (qe_if (qt_bl (qe_din (qe_var (i := 2) (by decide)) (qe_var (i := 3) (by decide)))) (qe_dget (qe_var (i := 3) (by decide)) (qe_var (i := 2) (by decide))) (qe_var (i := 1) (by decide))))))
def f_Watcher_breaks : FS :=
  (fSCons (fSet 2 (fAttr "own_start" (("Watcher", .fld) :: []) (fVar 0)))
  (fSCons (fFor (fiSeq (fVar 1)) (ftN 3)
  (fSCons (fIfS (fBl (fOp foIn (fVar 2) (fAttr "own_bad" (("Watcher", .fld) :: []) (fVar 0))))
  (fRet (fC (.bl true)))
  fSNil)
  (fSet 2 (fMeth "step" (("Watcher", F_Watcher_step) :: []) (fVar 0) (fCons (fVar 2) (fCons (fVar 3) fNil))))) [3])
  (fRet (fOp foIn (fVar 2) (fAttr "own_bad" (("Watcher", .fld) :: []) (fVar 0))))))
def F_Watcher_breaks : DF := bodyF 2 4 f_Watcher_breaks
theorem q_Watcher_breaks : QF [false, false] sp_Watcher_breaks F_Watcher_breaks := qf_body (c := ⟨[], [], []⟩) (show QS ⟨[], [], []⟩ false m_Watcher_breaks f_Watcher_breaks from
  (qs_cons (qs_set (qe_attr (qe_var (i := 0) (by decide)) (.cons .fld .nil)))
  (qs_cons (qs_for (dead := [3]) (qi_seq (qe_var (i := 1) (by decide))) (qg_n (i := 3))
  (qs_cons (qs_if (qt_bl (qe_op so_in (qe_var (i := 2) (by decide)) (qe_attr (qe_var (i := 0) (by decide)) (.cons .fld .nil))))
  (qs_ret qe_c)
  qs_nil)
  (qs_set (qe_meth (qe_var (i := 0) (by decide)) (.cons q_Watcher_step .nil) (qa_cons (qe_var (i := 2) (by decide)) (qa_cons (qe_var (i := 3) (by decide)) qa_nil))))))
  (qs_ret (qe_op so_in (qe_var (i := 2) (by decide)) (qe_attr (qe_var (i := 0) (by decide)) (.cons .fld .nil)))))))
def gdD_Watcher_breaks_1_labels (ds : List D) : List D := atL ds 0 ++ (atL ds 1)
theorem gdL_Watcher_breaks_1_labels (ds : List D) (h : ds.length = 2) : gd_Watcher_breaks_1_labels (ds.map .d) = (gdD_Watcher_breaks_1_labels ds).map .d ∧ (gdD_Watcher_breaks_1_labels ds).length = 2 := match ds, h with | [_, _], _ => ⟨rfl, rfl⟩
def f_law_same (rF : DF) : FS :=
  (fSCons (fIfS (fTru (fIsT isi_cs isi_sub (fVar 1) (fCons (fC (.ty "list")) (fCons (fC (.ty "tuple")) fNil))))
  (fSCons (fIfS (fOr (fBl (fOp foNe (fCB (fbIsi isi_cs isi_sub) (fCons (fVar 0) (fCons (fC (.ty "list")) fNil))) (fCB (fbIsi isi_cs isi_sub) (fCons (fVar 1) (fCons (fC (.ty "list")) fNil))))) (fBl (fOp foNe (fCB (fbIsi isi_cs isi_sub) (fCons (fVar 0) (fCons (fC (.ty "tuple")) fNil))) (fCB (fbIsi isi_cs isi_sub) (fCons (fVar 1) (fCons (fC (.ty "tuple")) fNil))))))
  (fRet (fC (.bl false)))
  fSNil)
  (fRet (fAndV (fOp foEq (fCB fbLen (fCons (fVar 0) fNil)) (fCB fbLen (fCons (fVar 1) fNil))) (fCB fbAll (fCons (fLc [2, 3] (fiZip (fCons (fVar 0) (fCons (fVar 1) fNil))) (ftT 2 (ftCons 2 (ftCons 3 ftNil))) ftYes (fCall rF (fCons (fVar 2) (fCons (fVar 3) fNil)))) fNil)))))
  fSNil)
  (fSCons (fIfS (fOr (fBl (fOp foIsN (fVar 1) (fC .non))) (fBl (fOp foIsN (fVar 0) (fC .non))))
  (fRet (fAndV (fOp foIsN (fVar 1) (fC .non)) (fOp foIsN (fVar 0) (fC .non))))
  fSNil)
  (fSCons (fIfS (fOr (fBl (fOp foNe (fCB (fbIsi isi_cs isi_sub) (fCons (fVar 1) (fCons (fC (.ty "bool")) fNil))) (fCB (fbIsi isi_cs isi_sub) (fCons (fVar 0) (fCons (fC (.ty "bool")) fNil))))) (fBl (fOp foNe (fCB (fbIsi isi_cs isi_sub) (fCons (fVar 1) (fCons (fC (.ty "int")) fNil))) (fCB (fbIsi isi_cs isi_sub) (fCons (fVar 0) (fCons (fC (.ty "int")) fNil))))))
  (fRet (fC (.bl false)))
  fSNil)
  (fRet (fAndV (fOp foEq (fCB (fbIsi isi_cs isi_sub) (fCons (fVar 1) (fCons (fC (.ty "str")) fNil))) (fCB (fbIsi isi_cs isi_sub) (fCons (fVar 0) (fCons (fC (.ty "str")) fNil)))) (fOp foEq (fVar 0) (fVar 1)))))))
def Fn_law_same : Nat → DF
  | 0 => fun _ => .no
  | n + 1 => bodyF 2 4 (f_law_same (Fn_law_same n))
def F_law_same : DF := Fn_law_same 4
theorem q_law_samen : ∀ n, QF [false, false] (spn_law_same n) (Fn_law_same n)
  | 0 => fun ws ds S Ls P X ow q => q.elim
  | n + 1 => qf_body (c := ⟨[], [], []⟩) (show QS ⟨[], [], []⟩ false (m_law_same (spn_law_same n)) (f_law_same (Fn_law_same n)) from
  (fun hr => (qs_cons (qs_if (qt_tru (qe_isiT (qe_var (i := 1) (by decide)) (qa_cons qe_c (qa_cons qe_c qa_nil))))
  (qs_cons (qs_if (qt_or (qt_bl (qe_op so_ne (qe_cb sn_isi (qa_cons (qe_var (i := 0) (by decide)) (qa_cons qe_c qa_nil))) (qe_cb sn_isi (qa_cons (qe_var (i := 1) (by decide)) (qa_cons qe_c qa_nil))))) (qt_bl (qe_op so_ne (qe_cb sn_isi (qa_cons (qe_var (i := 0) (by decide)) (qa_cons qe_c qa_nil))) (qe_cb sn_isi (qa_cons (qe_var (i := 1) (by decide)) (qa_cons qe_c qa_nil))))))
  (qs_ret qe_c)
  qs_nil)
  (qs_ret (qe_andV (qe_op so_eq (qe_cb sn_len (qa_cons (qe_var (i := 0) (by decide)) qa_nil)) (qe_cb sn_len (qa_cons (qe_var (i := 1) (by decide)) qa_nil))) (qe_cb sn_all (qa_cons (qe_lc (QI0.i (qi_zip (qa_cons (qe_var (i := 0) (by decide)) (qa_cons (qe_var (i := 1) (by decide)) qa_nil)))) (qg_t (qgs_cons (i := 2) (qgs_cons (i := 3) qgs_nil))) qt_yes (qe_call hr (qa_cons (qe_var (i := 2) (by decide)) (qa_cons (qe_var (i := 3) (by decide)) qa_nil)))) qa_nil)))))
  qs_nil)
  (qs_cons (qs_if (qt_or (qt_bl (qe_op so_isN (qe_var (i := 1) (by decide)) qe_c)) (qt_bl (qe_op so_isN (qe_var (i := 0) (by decide)) qe_c)))
  (qs_ret (qe_andV (qe_op so_isN (qe_var (i := 1) (by decide)) qe_c) (qe_op so_isN (qe_var (i := 0) (by decide)) qe_c)))
  qs_nil)
  (qs_cons (qs_if (qt_or (qt_bl (qe_op so_ne (qe_cb sn_isi (qa_cons (qe_var (i := 1) (by decide)) (qa_cons qe_c qa_nil))) (qe_cb sn_isi (qa_cons (qe_var (i := 0) (by decide)) (qa_cons qe_c qa_nil))))) (qt_bl (qe_op so_ne (qe_cb sn_isi (qa_cons (qe_var (i := 1) (by decide)) (qa_cons qe_c qa_nil))) (qe_cb sn_isi (qa_cons (qe_var (i := 0) (by decide)) (qa_cons qe_c qa_nil))))))
  (qs_ret qe_c)
  qs_nil)
  (qs_ret (qe_andV (qe_op so_eq (qe_cb sn_isi (qa_cons (qe_var (i := 1) (by decide)) (qa_cons qe_c qa_nil))) (qe_cb sn_isi (qa_cons (qe_var (i := 0) (by decide)) (qa_cons qe_c qa_nil)))) (qe_op so_eq (qe_var (i := 0) (by decide)) (qe_var (i := 1) (by decide))))))))) (q_law_samen n))
theorem q_law_same : QF [false, false] sp_law_same F_law_same := q_law_samen 4
def f_law : FS :=
  (fSCons (fFor (fiRng1 (fCons (fC (.int 5)) fNil)) (ftN 2)
  (fSCons (fSet 3 (fCall F_law_watcher (fCons (fVar 1) (fCons (fC (.int 6)) fNil))))
  (fSCons (fSet 4 (fCall F_law_rule (fCons (fVar 3) fNil)))
  (fSCons (fFor (fiRng1 (fCons (fC (.int 4)) fNil)) (ftN 5)
  (fSCons (fSet 6 (fLc [7] (fiRng1 (fCons (fCall fPull (fCons (fVar 1) (fCons (fC (.int 9)) fNil))) fNil)) (ftN 7) ftYes (fCall F_law_pick (fCons (fVar 1) (fCons (fLst (fCons (fC (.str "a")) (fCons (fC (.str "b")) (fCons (fC (.str "ab")) (fCons (fC (.str "a")) (fCons (fC (.str "b")) (fCons (fC (.str "zz")) fNil))))))) fNil)))))
  (fSCons (fPar 8 9 (fCB fbList (fCons (fVar 6) fNil)) (fCall F_law_broken (fCons (fVar 3) (fCons (fVar 6) fNil))))
  (fSCons (fSet 10 (fLst (fCons (fMeth "breaks" (("Watcher", F_Watcher_breaks) :: []) (fVar 4) (fCons (fVar 8) fNil)) (fCons (fMethK "breaks" (("Watcher", (fun ds => F_Watcher_breaks (gdD_Watcher_breaks_1_labels ds))) :: []) (fVar 4) fNil (fCons (fCB fbTup (fCons (fVar 6) fNil)) fNil)) (fCons (fMeth "breaks" (("Watcher", F_Watcher_breaks) :: []) (fVar 4) (fCons (fVar 8) fNil)) fNil)))))
  (fSCons (fIfS (fOr (fNot (fTru (fCall F_law_same (fCons (fVar 10) (fCons (fOp foMul (fLst (fCons (fVar 9) fNil)) (fC (.int 3))) fNil))))) (fBl (fOp foNe (fVar 8) (fVar 6))))
  (fRet (fC (.bl false)))
  fSNil)
  (fFor (fiRng1 (fCons (fOp foAdd (fCB fbLen (fCons (fVar 6) fNil)) (fC (.int 1))) fNil)) (ftN 7)
  (fIfS (fAnd (fTru (fMeth "breaks" (("Watcher", F_Watcher_breaks) :: []) (fVar 4) (fCons (fSl (fVar 6) fpNo (fpAt (fVar 7))) fNil))) (fNot (fTru (fVar 9))))
  (fRet (fC (.bl false)))
  fSNil) [7]))))) [5, 6, 7, 8, 9, 10])
  (fIfS (fNot (fTru (fCall F_law_same (fCons (fLst (fCons (fMeth "breaks" (("Watcher", F_Watcher_breaks) :: []) (fVar 4) (fCons (fLst fNil) fNil)) (fCons (fMeth "breaks" (("Watcher", F_Watcher_breaks) :: []) (fVar 4) (fCons (fLst (fCons (fC (.str "zz")) (fCons (fC (.str "zz")) fNil))) fNil)) fNil))) (fCons (fOp foMul (fLst (fCons (fOp foIn (fOp foIx (fVar 3) (fC (.int 1))) (fOp foIx (fVar 3) (fC (.int 2)))) fNil)) (fC (.int 2))) fNil)))))
  (fRet (fC (.bl false)))
  fSNil)))) [2, 3, 4, 5, 6, 7, 8, 9, 10])
  (fRet (fC (.bl true))))
theorem q_law : QS ⟨[1], [1], []⟩ false m_law f_law :=
  (qs_cons (qs_for (dead := [2, 3, 4, 5, 6, 7, 8, 9, 10]) (qi_rng1 (qa_cons qe_c qa_nil)) (qg_n (i := 2))
  (qs_cons (qs_set (qe_call q_law_watcher (qa_own (i := 1) (by decide) (qa_cons qe_c qa_nil))))
  (qs_cons (qs_set (qe_call q_law_rule (qa_cons (qe_var (i := 3) (by decide)) qa_nil)))
  (qs_cons (qs_for (dead := [5, 6, 7, 8, 9, 10]) (qi_rng1 (qa_cons qe_c qa_nil)) (qg_n (i := 5))
  (qs_cons (qs_set (qe_lc (QI0.i (qi_rng1 (qa_cons (qe_call q_law_pull (qa_own (i := 1) (by decide) (qa_cons qe_c qa_nil))) qa_nil))) (qg_n (i := 7)) qt_yes (qe_call q_law_pick (qa_own (i := 1) (by decide) (qa_cons (qe_lst (qa_cons qe_c (qa_cons qe_c (qa_cons qe_c (qa_cons qe_c (qa_cons qe_c (qa_cons qe_c qa_nil))))))) qa_nil)))))
  (qs_cons (qs_par (qe_cb sn_list (qa_cons (qe_var (i := 6) (by decide)) qa_nil)) (qe_call q_law_broken (qa_cons (qe_var (i := 3) (by decide)) (qa_cons (qe_var (i := 6) (by decide)) qa_nil))))
  (qs_cons (qs_set (qe_lst (qa_cons (qe_meth (qe_var (i := 4) (by decide)) (.cons q_Watcher_breaks .nil) (qa_cons (qe_var (i := 8) (by decide)) qa_nil)) (qa_cons (qe_methK (qe_var (i := 4) (by decide)) (.cons (qf_re (n := 2) (j := 2) q_Watcher_breaks gdL_Watcher_breaks_1_labels) .nil) qa_nil (qa_cons (qe_cb sn_tup (qa_cons (qe_var (i := 6) (by decide)) qa_nil)) qa_nil)) (qa_cons (qe_meth (qe_var (i := 4) (by decide)) (.cons q_Watcher_breaks .nil) (qa_cons (qe_var (i := 8) (by decide)) qa_nil)) qa_nil)))))
  (qs_cons (qs_if (qt_or (qt_not (qt_tru (qe_call q_law_same (qa_cons (qe_var (i := 10) (by decide)) (qa_cons (qe_op so_mul (qe_lst (qa_cons (qe_var (i := 9) (by decide)) qa_nil)) qe_c) qa_nil))))) (qt_bl (qe_op so_ne (qe_var (i := 8) (by decide)) (qe_var (i := 6) (by decide)))))
  (qs_ret qe_c)
  qs_nil)
  (qs_for (dead := [7]) (qi_rng1 (qa_cons (qe_op so_add (qe_cb sn_len (qa_cons (qe_var (i := 6) (by decide)) qa_nil)) qe_c) qa_nil)) (qg_n (i := 7))
  (qs_if (qt_and (qt_tru (qe_meth (qe_var (i := 4) (by decide)) (.cons q_Watcher_breaks .nil) (qa_cons (qe_sl (qe_var (i := 6) (by decide)) qp_no (qp_at (qe_var (i := 7) (by decide)))) qa_nil))) (qt_not (qt_tru (qe_var (i := 9) (by decide)))))
  (qs_ret qe_c)
  qs_nil)))))))
  (qs_if (qt_not (qt_tru (qe_call q_law_same (qa_cons (qe_lst (qa_cons (qe_meth (qe_var (i := 4) (by decide)) (.cons q_Watcher_breaks .nil) (qa_cons (qe_lst qa_nil) qa_nil)) (qa_cons (qe_meth (qe_var (i := 4) (by decide)) (.cons q_Watcher_breaks .nil) (qa_cons (qe_lst (qa_cons qe_c (qa_cons qe_c qa_nil))) qa_nil)) qa_nil))) (qa_cons (qe_op so_mul (qe_lst (qa_cons (qe_op so_in (qe_op so_ix (qe_var (i := 3) (by decide)) qe_c) (qe_op so_ix (qe_var (i := 3) (by decide)) qe_c)) qa_nil)) qe_c) qa_nil)))))
  (qs_ret qe_c)
  qs_nil)))))
  (qs_ret qe_c))
theorem law_by (q : (f_law (none :: some (.ty "bag") :: List.replicate 9 none)).wp (fun r => match r with
      | .rt d _ => d = .bl true
      | _ => False) (fun _ => False)) : ∀ p c ms z, p ≠ c → ms.length ≤ 63 → 0 ≤ z → z < 2147483629 → m_law lawC (none :: some (.ref p) :: List.replicate 9 none) (bagS p c ms z) := fun p c ms z ne hl h0 h1 => law_of q_law (by decide) ne hl h0 h1 q
end

end L43

set_option Elab.async false
set_option linter.all false
set_option maxRecDepth 100000
set_option maxHeartbeats 1000000
namespace L43
open PySem PySem.Spec PyProof.Rows L2 DX
local macro_rules | `(tactic| walk_at "f") => `(tactic| simp only [↓r_dget, ↓r_dgetK, ↓r_din, ↓r_dinK, ↓r_dget2, ↓r_dget2K, r_isDct, ↓r_listD, ↓r_listDK, ↓r_ikeys, ↓r_ikeysK, ↓r_dct0, ↓r_dput, ↓r_dputK, ↓r_appF, ↓r_appFL, ↓r_appFK, ↓r_dc, ↓r_sortSI, r_sortSIK, r_kOfS, r_kOfI, ↓r_lc2, ↓r_par3, ↓r_binO, ↓r_binOK, ↓r_sortD, ↓r_sortDK, ↓r_dropApp, ↓r_dropK, ↓r_mv, ↓r_mv1, ↓r_mv2, ↓r_reprO, ↓r_reprK, ↓r_boolO, ↓r_boolK, ↓r_eqO, ↓r_eqOK, ↓r_inO, ↓r_inOK, ↓r_ownK, ↓r_sortR, ↓r_sortS, ↓r_sortRK, ↓r_sortSL, ↓r_sortST, ofString_beq, o_at1, o_at2, o_at3, ↓r_enumT, ↓r_enumTK, ↓r_lenO, ↓r_fmt, ↓r_fmtS, ↓r_fmtI, ↓r_fmtR, ↓r_fmtRK, ↓r_fmtL, ↓r_fmtLK, ↓r_jnil, ↓r_jcons, ↓r_jK, ↓r_js, ↓r_join, ↓r_joinK, ↓r_join2L, ↓r_join2T, r_leafB, r_leafS, r_leafI, r_leafN, r_hide0, r_hideN, r_hideI, r_hideStr, r_hideB, r_hideNo, r_hideL, r_hideT, r_hideTy, r_hideX, ↓r_tconsG, calm_okT, strsD_map, ↓Dr.wp_bind, ↓Dr.wp_ok, ↓Dr.wp_ex, ↓Dr.wp_no, Dr.wp_ok, ↓r_pull, ↓r_c, ↓r_var, ↓r_get0, ↓r_getS, ↓r_op, ↓r_un, ↓r_chain, ↓r_kch, ↓r_tru, ↓r_bl, ↓r_blD, ↓r_and, ↓r_or, ↓r_not, ↓r_andV, ↓r_orV, ↓r_notV, ↓r_if, ↓r_nil, ↓r_cons, ↓r_starA, ↓r_tup, ↓r_lst, ↓r_pl, ↓r_cb, ↓r_pno, ↓r_pat, ↓r_into, ↓r_sl, ↓r_call, ↓r_callK, ↓r_attr, ↓r_at, ↓r_atF, ↓r_atC, ↓r_atP, ↓r_meth, ↓r_methK, ↓r_methS, ↓r_mF, ↓r_star, ↓r_mk, ↓r_mkK, ↓r_frz, ↓r_frzA, ↓r_ls, ↓r_isT, ↓r_isKo, ↓r_isK_non, ↓r_isK_bl, ↓r_isK_int, ↓r_isK_str, ↓r_isK_lst, ↓r_isK_tup, ↓r_isK_dct, ↓r_seq, ↓r_rng1, ↓r_rng1K, ↓r_rng2, ↓r_rng2K, ↓r_zip, ↓r_zipKL, ↓r_zipKT, ↓r_enum, ↓r_enumK, ↓r_str, ↓r_strK, ↓r_lc, ↓r_yes, ↓r_wipe0, ↓r_wipeS, ↓r_tn, ↓r_tt, ↓r_tnil, ↓r_tcons, ↓r_snil, ↓r_scons, ↓r_seqN, ↓r_seqR, ↓r_seqB, ↓r_seqC, ↓r_sno, ↓r_brk, ↓r_cnt, ↓r_set, ↓r_par, ↓r_asg, ↓r_drp, ↓r_ret, ↓r_retN, ↓r_retV, ↓r_retZ, ↓r_ifS, ↓r_for, ↓r_app, ↓r_appK, ↓r_setI, ↓r_setK, ↓r_setJ, ↓r_fld, ↓r_fldK, ↓r_fldO, ↓r_fldOK, ↓r_fldR, ↓r_fldRK, ↓r_mut, ↓r_mutS, ↓r_mM, ↓r_fapp, ↓r_fappK, ↓r_fappJ, ↓r_fpop, ↓r_fpopK, ↓r_fpopJ, ↓r_fld2, ↓r_fld2OT, ↓r_fld2TM, ↓r_putDs, ↓r_putDK, ↓r_retL, ↓r_retT, ↓r_rnil, ↓r_rcons, ↓r_rfrz, ↓r_body, ↓r_bodyN, ↓r_bodyR, ↓r_bodyM, ↓r_bodyMN, ↓r_bodyMR,
  ↓Dr.bind_ok, ↓Dr.bind_ex, ↓Dr.bind_no, ↓Dr.bind_dr, Dr.bind_ok, Dr.bind_ex, Dr.bind_no, ↓opt_some, opt_some, ↓must_true, must_true, ite_T, o_addI, o_addS, o_addL, o_addT, o_sub, o_mod, o_div, o_pow, o_lt, o_le, o_gt, o_ge, o_mulI, o_mulL, o_mulT, o_neg, o_eq, o_ne, o_eqI, o_eqS, o_eqB, o_eqNS, o_eqSN, o_eqIS, o_eqSI, o_eqLL, o_eqTT, o_eqLT, o_eqTL, o_eqTN, o_eqNT, o_eqLN, o_eqNL, o_eqNN, o_eqIN, o_eqNI, o_isN, o_notN, o_nn_int, o_nn_bl, o_nn_str, o_nn_lst, o_nn_tup, o_nn_ins, o_nn_dct, o_nn_cls, o_nn, o_in, o_nin, o_inSS, o_inLs, o_inTs, o_inLi, o_inTi, o_inLb, o_inTb, o_inLn, o_inTn, o_inLt, o_inTt, o_ixL, o_ixT, o_ixS, o_at0, o_atn, o_slL, o_slT, o_slS, o_inG, o_ixG, b_lenL, b_lenT, b_lenS, b_intI, b_intB, b_all, b_any, b_sum, b_max2, b_min2, b_maxL, b_minL, b_listL, b_listT, b_tupL, b_tupT, b_strI, b_strS, b_isi, t_non, t_bl, t_int, t_lst, t_tup, t_str, s_lst, s_tup, c_non, c_int, c_bl, c_str, c_tup, c_lst, c_ins, z_lst, z_ins, z_fl, il_lst, g_put0, g_putS, tg_non, tg_int, tg_bl, tg_str, tg_lst, tg_tup, tg_ins, tg_dct, ct_bool, ct_int, ct_str, ct_list, ct_tuple, ct_dict, ct_cls, ii_non_non, ii_non_bl, ii_non_int, ii_non_str, ii_non_lst, ii_non_tup, ii_non_dct, ii_non_own, ii_bl_bl, ii_bl_int, ii_bl_str, ii_bl_lst, ii_bl_tup, ii_bl_dct, ii_bl_own, ii_own_bl, ii_int_bl, ii_int_int, ii_int_str, ii_int_lst, ii_int_tup, ii_int_dct, ii_int_own, ii_own_int, ii_str_bl, ii_str_int, ii_str_str, ii_str_lst, ii_str_tup, ii_str_dct, ii_str_own, ii_own_str, ii_lst_bl, ii_lst_int, ii_lst_str, ii_lst_lst, ii_lst_tup, ii_lst_dct, ii_lst_own, ii_own_lst, ii_tup_bl, ii_tup_int, ii_tup_str, ii_tup_lst, ii_tup_tup, ii_tup_dct, ii_tup_own, ii_own_tup, ii_dct_bl, ii_dct_int, ii_dct_str, ii_dct_lst, ii_dct_tup, ii_dct_dct, ii_dct_own, ii_own_dct, ii_own_own, ia_nil, ia_cons, st_R, inL, inT, D.sc, mapSc, inV_nil, inV_str, inV_int, allBD_map, allID_map,
  List.lookup_cons, List.lookup_nil, List.all_cons, List.all_nil, List.map_cons, List.map_nil, List.cons_append, List.nil_append, List.append_nil, List.length_cons, List.length_nil, List.length_map, List.length_append, List.set_cons_zero, List.set_cons_succ, List.replicate_succ, List.replicate_zero, List.take_succ_cons, List.take_zero, List.drop_succ_cons, List.drop_zero, Option.map_some, Option.map_none, Option.isSome_some, Option.isSome_none, Option.isNone_some, Option.isNone_none, Option.bind_some, Option.bind_none, String.reduceEq, String.reduceBEq, ofString_eq, Bool.not_true, Bool.not_false, Bool.and_true, Bool.true_and, Bool.and_false, Bool.false_and, Bool.or_true, Bool.true_or, Bool.or_false, Bool.false_or, Bool.and_self, Bool.false_eq_true, reduceCtorEq, if_true, if_false, ite_true, ite_false, true_and, and_true, and_self, true_or, or_true, false_or, or_false, false_and, and_false, not_true_eq_false, not_false_eq_true, beq_self_eq_true, decide_true, decide_false, decide_eq_true_eq, Nat.reduceSub, Nat.reduceAdd, Nat.reduceLT, Nat.reduceLeDiff, Nat.zero_add, Nat.add_zero, Nat.sub_self, Nat.reduceEqDiff, Int.reduceAdd, Int.reduceSub, Int.reduceMul, Int.reduceLE, Int.reduceLT, Int.reduceEq, Int.reduceNeg, Int.reduceToNat, Int.reducePow, Nat.reducePow, Int.cast_ofNat_Int, id_eq, Function.comp_def, ne_eq, List.contains_cons, List.contains_nil, cellF, List.cons_ne_self, isi_cs, isi_sub])
local macro_rules | `(tactic| walk_at "g") => `(tactic| try walk_at "f")
local macro_rules | `(tactic| walk_at "ff") => `(tactic| simp -implicitDefEqProofs only [↓r_dget, ↓r_dgetK, ↓r_din, ↓r_dinK, ↓r_dget2, ↓r_dget2K, r_isDct, ↓r_listD, ↓r_listDK, ↓r_ikeys, ↓r_ikeysK, ↓r_dct0, ↓r_dput, ↓r_dputK, ↓r_appF, ↓r_appFL, ↓r_appFK, ↓r_dc, ↓r_sortSI, r_sortSIK, r_kOfS, r_kOfI, ↓r_lc2, ↓r_par3, ↓r_binO, ↓r_binOK, ↓r_sortD, ↓r_sortDK, ↓r_dropApp, ↓r_dropK, ↓r_mv, ↓r_mv1, ↓r_mv2, ↓r_reprO, ↓r_reprK, ↓r_boolO, ↓r_boolK, ↓r_eqO, ↓r_eqOK, ↓r_inO, ↓r_inOK, ↓r_ownK, ↓r_sortR, ↓r_sortS, ↓r_sortRK, ↓r_sortSL, ↓r_sortST, ofString_beq, o_at1, o_at2, o_at3, ↓r_enumT, ↓r_enumTK, ↓r_lenO, ↓r_fmt, ↓r_fmtS, ↓r_fmtI, ↓r_fmtR, ↓r_fmtRK, ↓r_fmtL, ↓r_fmtLK, ↓r_jnil, ↓r_jcons, ↓r_jK, ↓r_js, ↓r_join, ↓r_joinK, ↓r_join2L, ↓r_join2T, r_leafB, r_leafS, r_leafI, r_leafN, r_hide0, r_hideN, r_hideI, r_hideStr, r_hideB, r_hideNo, r_hideL, r_hideT, r_hideTy, r_hideX, ↓r_tconsG, calm_okT, strsD_map, ↓Dr.wp_bind, ↓Dr.wp_ok, ↓Dr.wp_ex, ↓Dr.wp_no, Dr.wp_ok, ↓r_pull, ↓r_c, ↓r_var, ↓r_get0, ↓r_getS, ↓r_op, ↓r_un, ↓r_chain, ↓r_kch, ↓r_tru, ↓r_bl, ↓r_blD, ↓r_and, ↓r_or, ↓r_not, ↓r_andV, ↓r_orV, ↓r_notV, ↓r_if, ↓r_nil, ↓r_cons, ↓r_starA, ↓r_tup, ↓r_lst, ↓r_pl, ↓r_cb, ↓r_pno, ↓r_pat, ↓r_into, ↓r_sl, ↓r_call, ↓r_callK, ↓r_attr, ↓r_at, ↓r_atF, ↓r_atC, ↓r_atP, ↓r_meth, ↓r_methK, ↓r_methS, ↓r_mF, ↓r_star, ↓r_mk, ↓r_mkK, ↓r_frz, ↓r_frzA, ↓r_ls, ↓r_isT, ↓r_isKo, ↓r_isK_non, ↓r_isK_bl, ↓r_isK_int, ↓r_isK_str, ↓r_isK_lst, ↓r_isK_tup, ↓r_isK_dct, ↓r_seq, ↓r_rng1, ↓r_rng1K, ↓r_rng2, ↓r_rng2K, ↓r_zip, ↓r_zipKL, ↓r_zipKT, ↓r_enum, ↓r_enumK, ↓r_str, ↓r_strK, ↓r_lc, ↓r_yes, ↓r_wipe0, ↓r_wipeS, ↓r_tn, ↓r_tt, ↓r_tnil, ↓r_tcons, ↓r_snil, ↓r_scons, ↓r_seqN, ↓r_seqR, ↓r_seqB, ↓r_seqC, ↓r_sno, ↓r_brk, ↓r_cnt, ↓r_set, ↓r_par, ↓r_asg, ↓r_drp, ↓r_ret, ↓r_retN, ↓r_retV, ↓r_retZ, ↓r_ifS, ↓r_for, ↓r_app, ↓r_appK, ↓r_setI, ↓r_setK, ↓r_setJ, ↓r_fld, ↓r_fldK, ↓r_fldO, ↓r_fldOK, ↓r_fldR, ↓r_fldRK, ↓r_mut, ↓r_mutS, ↓r_mM, ↓r_fapp, ↓r_fappK, ↓r_fappJ, ↓r_fpop, ↓r_fpopK, ↓r_fpopJ, ↓r_fld2, ↓r_fld2OT, ↓r_fld2TM, ↓r_putDs, ↓r_putDK, ↓r_retL, ↓r_retT, ↓r_rnil, ↓r_rcons, ↓r_rfrz, ↓r_body, ↓r_bodyN, ↓r_bodyR, ↓r_bodyM, ↓r_bodyMN, ↓r_bodyMR,
  ↓Dr.bind_ok, ↓Dr.bind_ex, ↓Dr.bind_no, ↓Dr.bind_dr, Dr.bind_ok, Dr.bind_ex, Dr.bind_no, ↓opt_some, opt_some, ↓must_true, must_true, ite_T, o_addI, o_addS, o_addL, o_addT, o_sub, o_mod, o_div, o_pow, o_lt, o_le, o_gt, o_ge, o_mulI, o_mulL, o_mulT, o_neg, o_eq, o_ne, o_eqI, o_eqS, o_eqB, o_eqNS, o_eqSN, o_eqIS, o_eqSI, o_eqLL, o_eqTT, o_eqLT, o_eqTL, o_eqTN, o_eqNT, o_eqLN, o_eqNL, o_eqNN, o_eqIN, o_eqNI, o_isN, o_notN, o_nn_int, o_nn_bl, o_nn_str, o_nn_lst, o_nn_tup, o_nn_ins, o_nn_dct, o_nn_cls, o_nn, o_in, o_nin, o_inSS, o_inLs, o_inTs, o_inLi, o_inTi, o_inLb, o_inTb, o_inLn, o_inTn, o_inLt, o_inTt, o_ixL, o_ixT, o_ixS, o_at0, o_atn, o_slL, o_slT, o_slS, o_inG, o_ixG, b_lenL, b_lenT, b_lenS, b_intI, b_intB, b_all, b_any, b_sum, b_max2, b_min2, b_maxL, b_minL, b_listL, b_listT, b_tupL, b_tupT, b_strI, b_strS, b_isi, t_non, t_bl, t_int, t_lst, t_tup, t_str, s_lst, s_tup, c_non, c_int, c_bl, c_str, c_tup, c_lst, c_ins, z_lst, z_ins, z_fl, il_lst, g_put0, g_putS, tg_non, tg_int, tg_bl, tg_str, tg_lst, tg_tup, tg_ins, tg_dct, ct_bool, ct_int, ct_str, ct_list, ct_tuple, ct_dict, ct_cls, ii_non_non, ii_non_bl, ii_non_int, ii_non_str, ii_non_lst, ii_non_tup, ii_non_dct, ii_non_own, ii_bl_bl, ii_bl_int, ii_bl_str, ii_bl_lst, ii_bl_tup, ii_bl_dct, ii_bl_own, ii_own_bl, ii_int_bl, ii_int_int, ii_int_str, ii_int_lst, ii_int_tup, ii_int_dct, ii_int_own, ii_own_int, ii_str_bl, ii_str_int, ii_str_str, ii_str_lst, ii_str_tup, ii_str_dct, ii_str_own, ii_own_str, ii_lst_bl, ii_lst_int, ii_lst_str, ii_lst_lst, ii_lst_tup, ii_lst_dct, ii_lst_own, ii_own_lst, ii_tup_bl, ii_tup_int, ii_tup_str, ii_tup_lst, ii_tup_tup, ii_tup_dct, ii_tup_own, ii_own_tup, ii_dct_bl, ii_dct_int, ii_dct_str, ii_dct_lst, ii_dct_tup, ii_dct_dct, ii_dct_own, ii_own_dct, ii_own_own, ia_nil, ia_cons, st_R, inL, inT, D.sc, mapSc, inV_nil, inV_str, inV_int, allBD_map, allID_map,
  List.lookup_cons, List.lookup_nil, List.all_cons, List.all_nil, List.map_cons, List.map_nil, List.cons_append, List.nil_append, List.append_nil, List.length_cons, List.length_nil, List.length_map, List.length_append, List.set_cons_zero, List.set_cons_succ, List.replicate_succ, List.replicate_zero, List.take_succ_cons, List.take_zero, List.drop_succ_cons, List.drop_zero, Option.map_some, Option.map_none, Option.isSome_some, Option.isSome_none, Option.isNone_some, Option.isNone_none, Option.bind_some, Option.bind_none, String.reduceEq, String.reduceBEq, ofString_eq, Bool.not_true, Bool.not_false, Bool.and_true, Bool.true_and, Bool.and_false, Bool.false_and, Bool.or_true, Bool.true_or, Bool.or_false, Bool.false_or, Bool.and_self, Bool.false_eq_true, reduceCtorEq, if_true, if_false, ite_true, ite_false, true_and, and_true, and_self, true_or, or_true, false_or, or_false, false_and, and_false, not_true_eq_false, not_false_eq_true, beq_self_eq_true, decide_true, decide_false, decide_eq_true_eq, Nat.reduceSub, Nat.reduceAdd, Nat.reduceLT, Nat.reduceLeDiff, Nat.zero_add, Nat.add_zero, Nat.sub_self, Nat.reduceEqDiff, Int.reduceAdd, Int.reduceSub, Int.reduceMul, Int.reduceLE, Int.reduceLT, Int.reduceEq, Int.reduceNeg, Int.reduceToNat, Int.reducePow, Nat.reducePow, Int.cast_ofNat_Int, id_eq, Function.comp_def, ne_eq, List.contains_cons, List.contains_nil, cellF, List.cons_ne_self, isi_cs, isi_sub])
local macro_rules | `(tactic| walk_at "gg") => `(tactic| try walk_at "ff")

local macro_rules | `(tactic| walk_at "m") => `(tactic| repeat (first | walk_at "f" | simp only [atM_w, atM_n, atM_s, meM_leaks, meM_edge, meM_cedge, meM_cnode]))
local macro_rules | `(tactic| walk_at "b") => `(tactic| try simp only [Dr.bind_ok, t_bl, opt_some, Bool.not_true, Bool.not_false, if_false, if_true, Bool.false_eq_true, ite_true, ite_false])
local macro_rules | `(tactic| walk_at "bb") => `(tactic| try simp -implicitDefEqProofs only [Dr.bind_ok, t_bl, opt_some, Bool.not_true, Bool.not_false, if_false, if_true, Bool.false_eq_true, ite_true, ite_false])

theorem F_is_numberI (i lo hi : Int) : F_is_number [.int i, .int lo, .int hi] = .ok (.bl (decide (lo ≤ i) && decide (i ≤ hi))) := by
  unfold F_is_number f_is_number
  walk_at "ff"
  by_cases h : lo ≤ i
  · rw [if_pos h, decide_eq_true h]; walk_at "ff"
  · rw [if_neg h, decide_eq_false h]; walk_at "ff"
theorem F_is_numberT {i lo hi : Int} (h1 : lo ≤ i) (h2 : i ≤ hi) : F_is_number [.int i, .int lo, .int hi] = .ok (.bl true) := by
  rw [F_is_numberI, decide_eq_true h1, decide_eq_true h2]; rfl
theorem dr_nat {n : Int} {k : Int → Dr α} {P : α → Prop} {X : ExD → Prop} (h1 : 1 ≤ n) (h2 : n < 1000000) (q : ∀ d : Nat, (d : Int) < n → (k d).wp P X) : (Dr.dr n k).wp P X := by
  refine ⟨⟨h1, by omega⟩, fun d d0 d1 => ?_⟩
  obtain ⟨e, rfl⟩ := Int.eq_ofNat_of_zero_le d0
  exact q e d1
theorem F_law_pick_wp {t : String} {l : List D} {P : D → Prop} {X : ExD → Prop} (h : l ≠ []) (h2 : l.length < 1000) (q : ∀ x ∈ l, P x) : (F_law_pick [.ty t, .lst l]).wp P X := by
  unfold F_law_pick f_law_pick
  walk_at "gg"
  have hl : 0 < l.length := List.length_pos_iff.mpr h
  refine dr_nat (by omega) (by omega) fun d hd => ?_
  have hd : d < l.length := by omega
  walk_at "gg"
  rw [List.getElem?_eq_getElem hd]
  walk_at "gg"
  exact q _ (List.getElem_mem hd)
def smN : Nat → D → Bool
  | 0, _ => false
  | _ + 1, .non => true
  | _ + 1, .int _ => true
  | _ + 1, .bl _ => true
  | _ + 1, .str _ => true
  | n + 1, .lst l => l.all (smN n) && decide (l.length < 1000)
  | n + 1, .tup l => l.all (smN n) && decide (l.length < 1000)
  | _ + 1, _ => false
theorem zipD_self (l : List D) : zipD l l = l.map fun x => D.tup [x, x] := by
  unfold zipD
  induction l with
  | nil => rfl
  | cons x l ih => simpa using ih
theorem F_law_same_refl : ∀ (n : Nat) (x : D), smN n x = true → Fn_law_same n [x, x] = .ok (.bl true)
  | 0, x, h => by simp [smN] at h
  | n + 1, x, h => by
    unfold Fn_law_same f_law_same
    cases x with
    | non => walk_at "gg"
    | int i => walk_at "gg"
    | bl b => walk_at "gg"
    | str s => walk_at "gg"
    | lst l =>
      simp only [smN, Bool.and_eq_true, decide_eq_true_eq, List.all_eq_true] at h
      obtain ⟨h, hl⟩ := h
      walk_at "gg"
      rw [zipD_self, must_ok (by simp; omega)]
      rw [lcF_all (fun x => D.tup [x, x]) (fun _ => D.bl true) l fun x hx => by
        unfold lcOne
        walk_at "gg"
        rw [F_law_same_refl n x (h x hx)]
        walk_at "gg"]
      walk_at "gg"
      have : l.map (fun _ => D.bl true) = (l.map fun _ => true).map D.bl := by simp
      rw [this, allBD_map]
      walk_at "gg"
      simp [bodyK, seqK]
    | tup l =>
      simp only [smN, Bool.and_eq_true, decide_eq_true_eq, List.all_eq_true] at h
      obtain ⟨h, hl⟩ := h
      walk_at "gg"
      rw [zipD_self, must_ok (by simp; omega)]
      rw [lcF_all (fun x => D.tup [x, x]) (fun _ => D.bl true) l fun x hx => by
        unfold lcOne
        walk_at "gg"
        rw [F_law_same_refl n x (h x hx)]
        walk_at "gg"]
      walk_at "gg"
      have : l.map (fun _ => D.bl true) = (l.map fun _ => true).map D.bl := by simp
      rw [this, allBD_map]
      walk_at "gg"
      simp [bodyK, seqK]
    | ins _ _ => simp [smN] at h
    | dct _ => simp [smN] at h
    | cls _ => simp [smN] at h
    | ty _ => simp [smN] at h

theorem F_is_nameS (s : Str) (h1 : 1 ≤ s.length) (h6 : s.length ≤ 6) (hs : ∀ c ∈ s.cps.toList, c ∈ (Str.ofString "abcdefghijklmnopqrstuvwxyz").cps.toList) : F_is_name [.str s] = .ok (.bl true) := by
  have hl : s.cps.toList.length = s.length := by simp [Str.length]
  unfold F_is_name f_is_name
  walk_at "gg"
  rw [ite_t (show s.length ≤ 100000 by omega)]
  walk_at "gg"
  rw [if_pos (by omega)]
  walk_at "gg"
  rw [decide_eq_true (show (s.length : Int) ≤ 6 by omega)]
  walk_at "gg"
  unfold strD
  rw [must_ok]; rotate_left
  · rw [List.length_map]; omega
  rw [lcF_all (fun (c : Nat) => D.str ⟨#[c]⟩) (fun _ => .bl true) _ fun c hc => by
    unfold lcOne
    walk_at "gg"
    have : oneSign ⟨#[c]⟩ = some c := rfl
    rw [this]
    walk_at "gg"
    rw [decide_eq_true (hs c hc)]]
  walk_at "gg"
  have : s.cps.toList.map (fun _ => D.bl true) = (s.cps.toList.map fun _ => true).map D.bl := by simp
  rw [this, allBD_map]
  walk_at "gg"
  simp [bodyK, show (s.length : Int) ≤ 6 by omega]
  rw [show (s.cps.all fun _ => true) = true by rw [Array.all_eq_true]; intros; rfl]
  rfl
theorem valK_map1 {α : Type} (l : List (Key × α)) (k k' : Key) (x : α) : valK (l.map fun p => if p.1 = k then (p.1, x) else p) k' = if k' = k then (valK l k').map (fun _ => x) else valK l k' := by
  induction l with
  | nil => simp [valK]
  | cons p l ih =>
    rw [List.map_cons]
    by_cases e : p.1 = k
    · rw [if_pos e]
      by_cases e2 : p.1 = k'
      · rw [valK_pos (p := (p.1, x)) e2, valK_pos e2, if_pos (e2 ▸ e)]
        rfl
      · rw [valK_neg (p := (p.1, x)) e2, valK_neg e2, ih]
    · rw [if_neg e]
      by_cases e2 : p.1 = k'
      · rw [valK_pos e2, valK_pos e2, if_neg (fun z => e (e2.trans z))]
      · rw [valK_neg e2, valK_neg e2, ih]
theorem valK_any {α : Type} (l : List (Key × α)) (k : Key) : (l.any fun p => decide (p.1 = k)) = (valK l k).isSome := by
  induction l with
  | nil => rfl
  | cons p l ih =>
    rw [List.any_cons, ih]
    by_cases e : p.1 = k
    · rw [valK_pos e, decide_eq_true e]; rfl
    · rw [valK_neg e, decide_eq_false e]; rfl
theorem valK_append {α : Type} (l m : List (Key × α)) (k : Key) : valK (l ++ m) k = (valK l k).or (valK m k) := by
  induction l with
  | nil => simp [valK]
  | cons p l ih =>
    rw [List.cons_append]
    by_cases e : p.1 = k
    · rw [valK_pos e, valK_pos e]; rfl
    · rw [valK_neg e, valK_neg e, ih]
theorem valK_put {α : Type} (l : List (Key × α)) (k k' : Key) (x : α) : valK (putKk l k x) k' = if k' = k then some x else valK l k' := by
  unfold putKk
  rw [valK_any]
  cases h : valK l k with
  | some y =>
    rw [if_pos (by rfl), valK_map1]
    by_cases e : k' = k
    · rw [if_pos e, if_pos e, e, h]; rfl
    · rw [if_neg e, if_neg e]
  | none =>
    rw [if_neg (by simp), valK_append]
    by_cases e : k' = k
    · rw [if_pos e, e, h, valK_pos (p := (k, x)) rfl]; rfl
    · rw [if_neg e, valK_neg (p := (k, x)) (fun z => e z.symm)]
      show (valK l k').or (valK [] k') = _
      simp [valK]
def dcOne (g : FG) (t : FT) (mk mv : FE) (ρ : Rho) (x : D) : Dr (Option (Key × D)) := (g x ρ).calm.bind fun ρ1 => (t ρ1).calm.bind fun b => if b = true then (mk ρ1).calm.bind fun y => (mv ρ1).calm.bind fun z => opt (kOf y) fun k => .ok (some (k, z)) else .ok none
theorem dcF_cons {g : FG} {t : FT} {mk mv : FE} {ρ : Rho} {x : D} {xs : List D} {acc : List (Key × D)} : dcF g t mk mv ρ (x :: xs) acc = (dcOne g t mk mv ρ x).bind fun o => dcF g t mk mv ρ xs (match o with
    | some p => putKk acc p.1 p.2
    | none => acc) := by
  rw [dcF]
  unfold dcOne
  rw [Dr.bind_assoc]
  congr 1
  funext ρ1
  rw [Dr.bind_assoc]
  congr 1
  funext b
  cases b with
  | false => rfl
  | true =>
    show ((mk ρ1).calm.bind fun y => (mv ρ1).calm.bind fun z => opt (kOf y) fun k => dcF g t mk mv ρ xs (putKk acc k z)) = ((mk ρ1).calm.bind fun y => (mv ρ1).calm.bind fun z => opt (kOf y) fun k => .ok (some (k, z))).bind _
    rw [Dr.bind_assoc]
    congr 1
    funext y
    rw [Dr.bind_assoc]
    congr 1
    funext z
    cases kOf y <;> rfl
def puts (acc : List (Key × D)) (l : List (Key × D)) : List (Key × D) := l.foldl (fun a p => putKk a p.1 p.2) acc
theorem dcF_all {α : Type} {g : FG} {t : FT} {mk mv : FE} {ρ : Rho} (enc : α → D) (y : α → Key × D) : ∀ (l : List α) (acc : List (Key × D)), (∀ x ∈ l, dcOne g t mk mv ρ (enc x) = .ok (some (y x))) → dcF g t mk mv ρ (l.map enc) acc = .ok (puts acc (l.map y))
  | [], acc, _ => rfl
  | x :: l, acc, h => by
    rw [List.map_cons, dcF_cons, h x (by simp), Dr.bind_ok, dcF_all enc y l _ fun x hx => h x (List.mem_cons_of_mem _ hx)]
    rfl
open Classical in
theorem puts_look {α : Type} (key : α → Key) (f : Key → D) : ∀ (l : List α) (acc : List (Key × D)) (k : Key), valK (puts acc (l.map fun a => (key a, f (key a)))) k = if k ∈ l.map key then some (f k) else valK acc k
  | [], acc, k => by simp [puts]
  | a :: l, acc, k => by
    show valK (puts (putKk acc (key a) (f (key a))) (l.map fun a => (key a, f (key a)))) k = _
    rw [puts_look key f l, valK_put, List.map_cons]
    by_cases e : k = key a
    · subst e
      simp
    · simp [e]
def srtS (l : List Str) : List Str := l.mergeSort fun a b => !PySem.W.dataLt (.str b) (.str a)
theorem mem_srtS {l : List Str} {s : Str} : s ∈ srtS l ↔ s ∈ l := (List.mergeSort_perm _ _).mem_iff
theorem sortD_strs (l : List Str) : sortD (l.map .str) = (srtS l).map .str := by
  unfold sortD srtS
  rw [List.map_mergeSort (s := PySem.W.dataLe false D.toP) (f := D.str)]
  intro a ha b hb
  rfl
theorem sortOk_strs {l : List Str} (h : l.length ≤ 100000) : SortOk (l.map .str) := by
  have mp : (l.map D.str).map D.toP = l.map PyData.str := by
    rw [List.map_map]
    rfl
  refine ⟨fun d hd => ?_, ?_, ?_, fun d hd => ?_, by rw [List.length_map]; exact h⟩
  · obtain ⟨r, _, rfl⟩ := List.mem_map.mp hd
    rfl
  · rw [mp]
    exact .of fun b b' => by simp [PySem.W.alike]
  · rw [mp]
    exact .others fun b => ⟨(fun z => by cases z), (fun xs z => by cases z)⟩
  · obtain ⟨r, _, rfl⟩ := List.mem_map.mp hd
    show (PyData.str r).depth ≤ 60
    simp [PyData.depth]

theorem lcF_sub {α : Type} {g : FG} {t : FT} {m : FE} {ρ : Rho} {X : ExD → Prop} (enc : α → D) (y : α → D) : ∀ (l : List α) (P : List D → Prop), (∀ x ∈ l, (lcOne g t m ρ (enc x)).wp (fun o => o = none ∨ o = some (y x)) (fun _ => False)) → (∀ bs : List α, bs.Sublist l → P (bs.map y)) → (lcF g t m ρ (l.map enc)).wp P X
  | [], P, h, q => q [] (List.Sublist.refl [])
  | x :: l, P, h, q => by
    have h1 := h x (by simp)
    unfold lcOne at h1
    rw [Dr.wp_bind] at h1
    rw [List.map_cons, lcF, Dr.wp_bind]
    refine wp_to_calm (h1.imp (fun ρ1 h1 => ?_) fun _ z => z)
    rw [Dr.wp_bind] at h1 ⊢
    refine wp_to_calm (h1.imp (fun b h1 => ?_) fun _ z => z)
    cases b with
    | false =>
      rw [if_neg (by decide)]
      exact lcF_sub enc y l _ (fun u hu => h u (List.mem_cons_of_mem _ hu)) fun bs hb => q bs (List.Sublist.cons x hb)
    | true =>
      rw [if_pos rfl] at h1 ⊢
      rw [Dr.wp_bind] at h1 ⊢
      refine wp_to_calm (h1.imp (fun z h1 => ?_) fun _ z => z)
      have e : z = y x := by
        rcases h1 with h1 | h1
        · cases h1
        · cases h1; rfl
      subst e
      rw [Dr.wp_bind]
      exact lcF_sub enc y l _ (fun u hu => h u (List.mem_cons_of_mem _ hu)) fun bs hb => q (x :: bs) (List.Sublist.cons_cons x hb)
/-- a row of a watcher: labels and states -/
abbrev WR := List (Str × Nat)
def rowK (r : WR) : List (Key × D) := r.map fun p => (.inr p.1, nD p.2)
def rowD (r : WR) : D := .dct (rowK r)
def look (r : WR) (s : Str) : Option Nat := (r.find? fun p => decide (p.1 = s)).map (·.2)
theorem valK_row (r : WR) (s : Str) : valK (rowK r) (.inr s) = (look r s).map nD := by
  induction r with
  | nil => rfl
  | cons p r ih =>
    unfold rowK look at ih ⊢
    rw [List.map_cons, List.find?_cons]
    by_cases e : p.1 = s
    · rw [valK_pos (p := ((.inr p.1 : Key), nD p.2)) (by rw [e]), decide_eq_true e]
      rfl
    · rw [valK_neg (p := ((.inr p.1 : Key), nD p.2)) (fun z => e (Sum.inr.inj z)), decide_eq_false e, ih]
def labs : List Str := [Str.ofString "a", Str.ofString "ab", Str.ofString "b"]
structure RowOk (n : Nat) (r : WR) : Prop where
  nd : (r.map (·.1)).Nodup
  sub : ∀ p ∈ r, p.1 ∈ labs
  lt : ∀ p ∈ r, p.2 < n
  few : r.length ≤ 3
theorem look_mem {r : WR} {s : Str} {v : Nat} (h : look r s = some v) : (s, v) ∈ r := by
  unfold look at h
  cases q : r.find? fun p => decide (p.1 = s) with
  | none => rw [q] at h; cases h
  | some p =>
    rw [q] at h
    cases h
    have := List.mem_of_find?_eq_some q
    have e : p.1 = s := by simpa using List.find?_some q
    rw [← e]
    exact this
theorem look_isSome {r : WR} {s : Str} : (look r s).isSome = decide (s ∈ r.map (·.1)) := by
  induction r with
  | nil => rfl
  | cons p r ih =>
    unfold look at ih ⊢
    rw [List.find?_cons]
    by_cases e : p.1 = s
    · rw [decide_eq_true e]
      simp [e]
    · rw [decide_eq_false e]
      refine ih.trans (decide_eq_decide.mpr ?_)
      rw [List.map_cons, List.mem_cons]
      exact ⟨.inr, fun z => z.resolve_left fun z => e z.symm⟩
theorem putR {r : WR} {s : Str} {v : Nat} (h : s ∉ r.map (·.1)) : putKk (rowK r) (.inr s) (nD v) = rowK (r ++ [(s, v)]) := by
  unfold putKk
  rw [valK_any, valK_row]
  have : look r s = none := by
    have := look_isSome (r := r) (s := s)
    rw [decide_eq_false h] at this
    simpa using this
  rw [this]
  unfold rowK
  simp
structure WPlan where
  rows : List WR
  start : Nat
  bad : List Nat
structure WPlan.Ok (p : WPlan) (m : Nat) : Prop where
  n1 : 1 ≤ p.rows.length
  nm : p.rows.length ≤ m
  ok : ∀ r ∈ p.rows, RowOk p.rows.length r
  st : p.start < p.rows.length
  bd : p.bad.Sublist (List.range p.rows.length)
theorem WPlan.Ok.lt {p : WPlan} {m : Nat} (h : p.Ok m) : ∀ b ∈ p.bad, b < p.rows.length := fun b hb => List.mem_range.mp (h.bd.subset hb)
theorem WPlan.Ok.few {p : WPlan} {m : Nat} (h : p.Ok m) : p.bad.length ≤ m := by
  have := h.bd.length_le
  rw [List.length_range] at this
  have := h.nm
  omega
def WPlan.D (p : WPlan) : DX.D := .lst [.lst (p.rows.map rowD), nD p.start, .lst (p.bad.map nD)]
theorem F_law_watcher_wp {t : String} {m : Nat} {P : D → Prop} {X : ExD → Prop} (h1 : 1 ≤ m) (hm : m ≤ 100) (q : ∀ p : WPlan, p.Ok m → P p.D) : (F_law_watcher [.ty t, nD m]).wp P X := by
  unfold F_law_watcher f_law_watcher
  walk_at "gg"
  refine dr_nat (by omega) (by omega) fun d hd => ?_
  walk_at "gg"
  obtain ⟨n, hn⟩ : ∃ n : Nat, (1 : Int) + (d : Int) = (n : Int) := ⟨1 + d, by omega⟩
  rw [hn]
  rw [must_ok (rngOk_nat (by omega)), Int.toNat_natCast, rngD_nat]
  walk_at "gg"
  refine for_wpK (fun (i : Nat) => D.int (i : Int)) (fun rs : List WR => [some (.ty t), some (nD m), some (nD n), some (.lst (rs.map rowD)), none, none, none]) (fun rs l => rs.length + l.length = n ∧ ∀ r ∈ rs, RowOk n r) (s := []) ⟨by simp, by simp⟩ (fun rs x l hR => ?_) fun rs hR => ?_
  · obtain ⟨hl, hok⟩ := hR
    rw [r_turn]
    walk_at "gg"
    rw [show ([D.str (Str.ofString "a"), D.str (Str.ofString "ab"), D.str (Str.ofString "b")] : List D) = labs.map D.str from rfl]
    refine for_wpK D.str (fun r : WR => [some (.ty t), some (nD m), some (nD n), some (.lst (rs.map rowD)), some (nD x), some (.dct (rowK r)), none]) (fun r l => RowOk n r ∧ l.Nodup ∧ (∀ s ∈ l, s ∈ labs ∧ s ∉ r.map (·.1)) ∧ r.length + l.length ≤ 3) (s := []) ⟨⟨by simp, by simp, by simp, by simp⟩, by decide +kernel, fun s hs => ⟨hs, by simp⟩, by decide⟩ (fun r s l hR => ?_) fun r hR => ?_
    · obtain ⟨ok, nd, hs, h3⟩ := hR
      obtain ⟨nd1, nd2⟩ := List.nodup_cons.mp nd
      obtain ⟨s1, s2⟩ := hs s (by simp)
      rw [List.length_cons] at h3
      rw [r_turn]
      walk_at "gg"
      refine dr_nat (by omega) (by omega) fun e he => ?_
      walk_at "gg"
      split
      · walk_at "gg"
        refine dr_nat (by omega) (by omega) fun v hv => ?_
        walk_at "gg"
        rw [must_ok (by unfold rowK; rw [List.length_map]; omega)]
        walk_at "gg"
        rw [show D.int (v : Int) = nD v from rfl, putR s2]
        refine ⟨r ++ [(s, v)], rfl, ⟨?_, ?_, ?_, ?_⟩, nd2, fun z hz => ⟨(hs z (List.mem_cons_of_mem _ hz)).1, ?_⟩, ?_⟩
        · rw [List.map_append, List.nodup_append]
          refine ⟨ok.nd, by simp, fun a ha b hb => ?_⟩
          have : b = s := by simpa using hb
          rw [this]
          exact fun z => s2 (z ▸ ha)
        · intro p hp
          rcases List.mem_append.mp hp with hp | hp
          · exact ok.sub p hp
          · rw [List.mem_singleton.mp hp]; exact s1
        · intro p hp
          rcases List.mem_append.mp hp with hp | hp
          · exact ok.lt p hp
          · rw [List.mem_singleton.mp hp]; show v < n; omega
        · simp; omega
        · rw [List.map_append, List.mem_append, not_or]
          refine ⟨(hs z (List.mem_cons_of_mem _ hz)).2, fun h => ?_⟩
          have : z = s := by simpa using h
          exact nd1 (this ▸ hz)
        · simp; omega
      · walk_at "gg"
        exact ⟨r, rfl, ok, nd2, fun z hz => hs z (List.mem_cons_of_mem _ hz), by omega⟩
    · obtain ⟨ok, _, _, _⟩ := hR
      walk_at "gg"
      rw [must_ok (by rw [List.length_cons] at hl; omega)]
      walk_at "gg"
      refine ⟨rs ++ [r], ?_, ?_, fun z hz => ?_⟩
      · rw [List.map_append]; rfl
      · rw [List.length_cons] at hl
        rw [List.length_append, List.length_singleton]
        omega
      · rcases List.mem_append.mp hz with hz | hz
        · exact hok z hz
        · rw [List.mem_singleton.mp hz]; exact ok
  · obtain ⟨hl, hok⟩ := hR
    walk_at "gg"
    refine dr_nat (by omega) (by omega) fun s hs => ?_
    walk_at "gg"
    rw [must_ok (rngOk_nat (by omega)), Int.toNat_natCast, rngD_nat]
    walk_at "gg"
    rw [must_ok (by simp; omega)]
    walk_at "gg"
    refine lcF_sub (fun (i : Nat) => D.int (i : Int)) nD _ _ (fun x _ => ?_) fun bs hb => ?_
    · unfold lcOne
      walk_at "gg"
      refine dr_nat (by omega) (by omega) fun e he => ?_
      walk_at "gg"
      split
      · first | (walk_at "gg"; done) | (walk_at "gg"; exact .inr rfl)
      · first | (walk_at "gg"; done) | (walk_at "gg"; exact .inl rfl)
    · walk_at "gg"
      simp only [List.length_nil, Nat.add_zero] at hl
      subst hl
      refine q ⟨rs, s, bs⟩ ⟨?_, ?_, hok, ?_, hb⟩
      · show 1 ≤ rs.length
        omega
      · show rs.length ≤ m
        omega
      · show s < rs.length
        omega

theorem lab_name {s : Str} (h : s ∈ labs) : F_is_name [.str s] = .ok (.bl true) := by
  have hh : ∀ s ∈ labs, 1 ≤ s.length ∧ s.length ≤ 6 ∧ ∀ c ∈ s.cps.toList, c ∈ (Str.ofString "abcdefghijklmnopqrstuvwxyz").cps.toList := by decide +kernel
  obtain ⟨a, b, c⟩ := hh s h
  exact F_is_nameS s a b c
theorem keysD_row (r : WR) : keysD (rowK r) = (r.map (·.1)).map D.str := by
  unfold keysD rowK
  rw [List.map_map, List.map_map]
  rfl
theorem F_is_state_rowT {n : Nat} {r : WR} (ok : RowOk n r) (hn : n < 1000000) : F_is_state_row [nD n, rowD r] = .ok (.bl true) := by
  have hk := ok.few
  unfold F_is_state_row f_is_state_row rowD
  walk_at "gg"
  rw [keysD_row, must_ok (by rw [List.length_map, List.length_map]; omega)]
  rw [lcF_all D.str (fun _ => .bl true) _ fun s hs => by
    obtain ⟨p, hp, e⟩ := List.mem_map.mp hs
    have hl : (look r s).isSome = true := by rw [look_isSome, decide_eq_true hs]
    obtain ⟨v, hv⟩ := Option.isSome_iff_exists.mp hl
    have hm := look_mem hv
    have hlt : v < n := ok.lt _ hm
    unfold lcOne
    walk_at "gg"
    rw [lab_name (show s ∈ labs from ok.sub _ hm)]
    walk_at "gg"
    rw [valK_row, hv]
    walk_at "gg"
    rw [show nD v = D.int (v : Int) from rfl, F_is_numberT (by omega) (by omega)]
    walk_at "gg"]
  walk_at "gg"
  have : (r.map (·.1)).map (fun _ => D.bl true) = ((r.map (·.1)).map fun _ => true).map D.bl := by simp
  rw [this, allBD_map]
  walk_at "gg"
  simp [bodyK, seqK]
/-- a row as the watcher keeps it -/
def ownK (r : WR) : List (Key × D) := puts [] ((srtS (r.map (·.1))).map fun s => (.inr s, ((look r s).map nD).getD .non))
def ownR (r : WR) : D := .dct (ownK r)
theorem valK_own (r : WR) (s : Str) : valK (ownK r) (.inr s) = (look r s).map nD := by
  have := puts_look (fun s : Str => (.inr s : Key)) (fun k => match k with
    | .inr s => ((look r s).map nD).getD .non
    | _ => .non) (srtS (r.map (·.1))) [] (.inr s)
  refine this.trans ?_
  have e : ((.inr s : Key) ∈ (srtS (r.map (·.1))).map fun s => (.inr s : Key)) ↔ s ∈ r.map (·.1) := by
    rw [List.mem_map]
    constructor
    · rintro ⟨a, ha, e⟩
      cases e
      exact mem_srtS.mp ha
    · exact fun h => ⟨s, mem_srtS.mpr h, rfl⟩
  have hl := look_isSome (r := r) (s := s)
  by_cases h : s ∈ r.map (·.1)
  · rw [if_pos (e.mpr h)]
    rw [decide_eq_true h] at hl
    obtain ⟨v, hv⟩ := Option.isSome_iff_exists.mp hl
    show some (((look r s).map nD).getD .non) = _
    rw [hv]
    rfl
  · rw [if_neg (fun z => h (e.mp z))]
    rw [decide_eq_false h] at hl
    have : look r s = none := by simpa using hl
    rw [this]
    rfl
def WPlan.W (p : WPlan) : DX.D := .ins "Watcher" [("own_rows", .lst (p.rows.map ownR)), ("own_start", nD p.start), ("own_bad", .lst (p.bad.map nD))]
theorem enum_rows (l : List WR) : enumD (l.map rowD) = l.zipIdx.map fun q => D.tup [.int (q.2 : Int), rowD q.1] := by
  unfold enumD
  rw [List.zipIdx_map, List.map_map]
  rfl
theorem ssetI_nat {l : List Nat} (h : l.Pairwise (· < ·)) : ssetI (l.map fun (i : Nat) => (i : Int)) = l.map fun (i : Nat) => (i : Int) := by
  refine pw_unique (ssetI_pw _) ?_ fun x => mem_ssetI
  rw [List.pairwise_map]
  exact h.imp fun {a b} h => by omega
theorem mapN_I (l : List Nat) : l.map nD = (l.map fun (i : Nat) => (i : Int)).map D.int := by
  rw [List.map_map]
  rfl
theorem WPlan.Ok.pw {p : WPlan} {m : Nat} (h : p.Ok m) : p.bad.Pairwise (· < ·) := List.pairwise_lt_range.sublist h.bd
theorem M_Watcher_initW {p : WPlan} {m : Nat} (h : p.Ok m) (hm : m ≤ 12) : M_Watcher_init [.ins "Watcher" [], .lst (p.rows.map rowD), nD p.start, .lst (p.bad.map nD)] = .ok (.non, p.W) := by
  have h1 := h.n1
  have h2 := h.nm
  have h3 := h.st
  have h4 := h.few
  unfold M_Watcher_init f_Watcher_init
  walk_at "gg"
  rw [if_pos (by omega)]
  walk_at "gg"
  rw [decide_eq_true (show (p.rows.length : Int) ≤ 12 by omega)]
  walk_at "gg"
  rw [enum_rows, for_fold (fun q : WR × Nat => D.tup [.int (q.2 : Int), rowD q.1]) (fun _ : Unit => [some (.ins "Watcher" []), some (.lst (p.rows.map rowD)), some (nD p.start), some (.lst (p.bad.map nD)), none, none, none, none]) (fun _ _ => ()) p.rows.zipIdx () fun _ q hq => by
    have hr : q.1 ∈ p.rows := by
      obtain ⟨a, i⟩ := q
      exact List.mem_of_getElem? (List.mem_zipIdx_iff_getElem?.mp hq)
    walk_at "gg"
    rw [show D.int (p.rows.length : Int) = nD p.rows.length from rfl, F_is_state_rowT (h.ok _ hr) (by omega)]
    walk_at "gg"]
  walk_at "gg"
  rw [must_ok (by omega)]
  walk_at "gg"
  rw [show (nD p.start :: p.bad.map nD) = (p.start :: p.bad).map nD from rfl, for_fold nD (fun _ : Unit => [some (.ins "Watcher" []), some (.lst (p.rows.map rowD)), some (nD p.start), some (.lst (p.bad.map nD)), none, none, none, none]) (fun _ _ => ()) (p.start :: p.bad) () fun _ q hq => by
    have hr : q < p.rows.length := by
      rcases List.mem_cons.mp hq with e | hq
      · exact e ▸ h3
      · exact h.lt _ hq
    walk_at "gg"
    rw [show nD q = D.int (q : Int) from rfl, F_is_numberT (by omega) (by omega)]
    walk_at "gg"]
  walk_at "gg"
  rw [must_ok (by omega), lcF_all rowD ownR p.rows fun r hr => by
    have hk := (h.ok r hr).few
    unfold lcOne rowD ownR
    walk_at "gg"
    rw [keysD_row, must_ok (sortOk_strs (by rw [List.length_map]; omega)), sortD_strs]
    walk_at "gg"
    rw [must_ok (by unfold srtS; rw [List.length_mergeSort, List.length_map]; omega)]
    rw [dcF_all D.str (fun s => ((.inr s : Key), ((look r s).map nD).getD .non)) (srtS (r.map (·.1))) [] fun s hs => by
      have hl := look_isSome (r := r) (s := s)
      rw [decide_eq_true (mem_srtS.mp hs)] at hl
      obtain ⟨v, hv⟩ := Option.isSome_iff_exists.mp hl
      unfold dcOne
      walk_at "gg"
      rw [valK_row, hv]
      walk_at "gg"
      rfl]
    walk_at "gg"
    rfl]
  walk_at "gg"
  rw [mapN_I, r_sortSIK (by rw [List.length_map]; omega), ssetI_nat h.pw]
  walk_at "gg"
  rw [← mapN_I]
  rfl
theorem F_law_ruleW {p : WPlan} {m : Nat} (h : p.Ok m) (hm : m ≤ 12) : F_law_rule [p.D] = .ok p.W := by
  unfold F_law_rule f_law_rule WPlan.D
  walk_at "gg"
  rw [show giD_Watcher_init_2_start_bad [.lst (p.rows.map rowD), nD p.start, .lst (p.bad.map nD)] = [.lst (p.rows.map rowD), nD p.start, .lst (p.bad.map nD)] from rfl, M_Watcher_initW h hm, Dr.bind_ok]
  dsimp only
  rw [r_mkK, Dr.bind_ok, must_ok (show frzOk p.W = true from rfl)]
  walk_at "gg"

theorem mapSc_ints : ∀ l : List Int, mapSc (l.map D.int) = some (l.map V.int)
  | [] => rfl
  | i :: l => by
    rw [List.map_cons, mapSc, mapSc_ints l]
    rfl
theorem inV_ints (x : Int) : ∀ l : List Int, inV (.int x) (l.map V.int) = decide (x ∈ l)
  | [] => rfl
  | i :: l => by
    rw [List.map_cons, inV_int, inV_ints x l]
    by_cases e : i = x
    · rw [decide_eq_true e]; simp [e]
    · have e2 : ¬ x = i := fun z => e z.symm
      rw [decide_eq_false e]; simp [e2]
theorem mem_cast {x : Nat} {l : List Nat} : ((x : Int) ∈ l.map fun (i : Nat) => (i : Int)) ↔ x ∈ l := by
  rw [List.mem_map]
  constructor
  · rintro ⟨a, ha, e⟩
    have : a = x := by omega
    exact this ▸ ha
  · exact fun h => ⟨x, h, rfl⟩
theorem mapSc_nats (l : List Nat) : mapSc (l.map nD) = some (l.map fun (i : Nat) => V.int (i : Int)) := by
  rw [mapN_I, mapSc_ints, List.map_map]
  rfl
theorem inV_nats (x : Nat) (l : List Nat) : inV (.int (x : Int)) (l.map fun (i : Nat) => V.int (i : Int)) = decide (x ∈ l) := by
  have := inV_ints (x : Int) (l.map fun (i : Nat) => (i : Int))
  rw [List.map_map] at this
  exact this.trans (decide_eq_decide.mpr mem_cast)
local macro_rules | `(tactic| walk_at "gi") => `(tactic| (walk_at "gg"; try (simp -implicitDefEqProofs only [mapSc_nats, inV_nats, Option.map_some]; walk_at "gg")))
namespace WPlan
def step (p : WPlan) (s : Nat) (x : Str) : Nat := match p.rows[s]? with
  | some r => (look r x).getD s
  | none => s
def bk (p : WPlan) (s : Nat) : List Str → Bool
  | [] => decide (s ∈ p.bad)
  | x :: l => decide (s ∈ p.bad) || p.bk (p.step s x) l
theorem step_lt {p : WPlan} {m : Nat} (h : p.Ok m) {s : Nat} (hs : s < p.rows.length) (x : Str) : p.step s x < p.rows.length := by
  unfold step
  rw [List.getElem?_eq_getElem hs]
  show (look p.rows[s] x).getD s < _
  cases q : look p.rows[s] x with
  | none => exact hs
  | some v => exact (h.ok _ (List.getElem_mem hs)).lt _ (look_mem q)
theorem bk_bad {p : WPlan} {s : Nat} (h : s ∈ p.bad) (l : List Str) : p.bk s l = true := by
  cases l with
  | nil => exact decide_eq_true h
  | cons x l => rw [bk, decide_eq_true h]; rfl
theorem bk_app {p : WPlan} : ∀ (l l' : List Str) (s : Nat), p.bk s l = true → p.bk s (l ++ l') = true
  | [], l', s, h => bk_bad (of_decide_eq_true h) _
  | x :: l, l', s, h => by
    rw [List.cons_append, bk, Bool.or_eq_true] at *
    exact h.imp id fun h => bk_app l l' _ h
theorem bk_take {p : WPlan} {l : List Str} {s k : Nat} (h : p.bk s (l.take k) = true) : p.bk s l = true := by
  have := bk_app (l.take k) (l.drop k) s h
  rwa [List.take_append_drop] at this
end WPlan
namespace WPlan
def bk2 (p : WPlan) (s : Nat) : List Str → Bool
  | [] => false
  | x :: l => p.bk (p.step s x) l
theorem bk_eq {p : WPlan} {s : Nat} (l : List Str) : p.bk s l = (decide (s ∈ p.bad) || p.bk2 s l) := by
  cases l with
  | nil => rw [bk, bk2, Bool.or_false]
  | cons x l => rw [bk, bk2]
theorem at_row {p : WPlan} {s : Nat} (f : WR → DX.D) (hs : s < p.rows.length) : (p.rows.map f)[s]? = some (f p.rows[s]) := by
  rw [List.getElem?_map, List.getElem?_eq_getElem hs]
  rfl
theorem step_eq {p : WPlan} {s : Nat} (hs : s < p.rows.length) (x : Str) : p.step s x = (look p.rows[s] x).getD s := by
  unfold step
  rw [List.getElem?_eq_getElem hs]
end WPlan
theorem F_law_nextW {p : WPlan} {m s : Nat} {x : Str} (h : p.Ok m) (hs : s < p.rows.length) : F_law_next [p.D, nD s, .str x] = .ok (nD (p.step s x)) := by
  unfold F_law_next f_law_next WPlan.D
  walk_at "gg"
  rw [p.at_row rowD hs, p.step_eq hs]
  unfold rowD
  walk_at "gg"
  rw [valK_row]
  cases look p.rows[s] x <;> rfl
theorem F_Watcher_stepW {p : WPlan} {m s : Nat} {x : Str} (h : p.Ok m) (hs : s < p.rows.length) : F_Watcher_step [p.W, nD s, .str x] = .ok (nD (p.step s x)) := by
  unfold F_Watcher_step f_Watcher_step WPlan.W
  walk_at "gg"
  rw [p.at_row ownR hs, p.step_eq hs]
  unfold ownR
  walk_at "gg"
  rw [valK_own]
  cases look p.rows[s] x <;> walk_at "gg" <;> rfl
theorem F_law_brokenW {p : WPlan} {m : Nat} {ls : List Str} (h : p.Ok m) : F_law_broken [p.D, .lst (ls.map .str)] = .ok (.bl (p.bk p.start ls)) := by
  have e : ∃ R, p.D = .lst [R, nD p.start, .lst (p.bad.map nD)] := ⟨_, rfl⟩
  have hn := fun s x (hs : s < p.rows.length) => F_law_nextW (x := x) h hs
  obtain ⟨R, e⟩ := e
  rw [e] at hn ⊢
  unfold F_law_broken f_law_broken
  walk_at "gi"
  rw [Dr.bind_assoc]
  refine for_seqK D.str (fun q : Nat × Bool => [some (.lst [R, nD p.start, .lst (p.bad.map nD)]), some (.lst (ls.map .str)), some (nD q.1), some (.bl q.2), none]) (fun q l => q.1 < p.rows.length ∧ (q.2 || p.bk2 q.1 l) = p.bk p.start ls) (s := (p.start, decide (p.start ∈ p.bad))) ⟨h.st, (p.bk_eq ls).symm⟩ (fun q x l hq => ?_) fun q hq => ?_
  · obtain ⟨q1, q2⟩ := hq
    obtain ⟨s, b⟩ := q
    dsimp only at q1 q2
    rw [r_turn]
    walk_at "gg"
    rw [hn s x q1]
    walk_at "gi"
    refine ⟨(p.step s x, b || decide (p.step s x ∈ p.bad)), ⟨p.step_lt h q1 x, ?_⟩, ?_⟩
    · rw [← q2, WPlan.bk2, p.bk_eq l, Bool.or_assoc]
    · cases b <;> walk_at "gi"
  · obtain ⟨q1, q2⟩ := hq
    rw [WPlan.bk2, Bool.or_false] at q2
    walk_at "gg"
    rw [q2]
theorem F_Watcher_breaksW {p : WPlan} {m : Nat} {ls : List Str} {d : D} (h : p.Ok m) (hd : d = .lst (ls.map .str) ∨ d = .tup (ls.map .str)) : F_Watcher_breaks [p.W, d] = .ok (.bl (p.bk p.start ls)) := by
  have hn := fun s x (hs : s < p.rows.length) => F_Watcher_stepW (x := x) h hs
  have e : ∃ R, p.W = .ins "Watcher" [("own_rows", R), ("own_start", nD p.start), ("own_bad", .lst (p.bad.map nD))] := ⟨_, rfl⟩
  obtain ⟨R, e⟩ := e
  rw [e] at hn ⊢
  unfold F_Watcher_breaks f_Watcher_breaks
  have go : ((fForL (ftN 3)
      (fSCons (fIfS (fBl (fOp foIn (fVar 2) (fAttr "own_bad" [("Watcher", FAt.fld)] (fVar 0)))) (fRet (fC (D.bl true))) fSNil)
        (fSet 2 (fMeth "step" [("Watcher", F_Watcher_step)] (fVar 0) (fCons (fVar 2) (fCons (fVar 3) fNil))))) [3] (ls.map .str)
      [some (.ins "Watcher" [("own_rows", R), ("own_start", nD p.start), ("own_bad", .lst (p.bad.map nD))]), some d, some (nD p.start), none]).bind fun r =>
        seqK (fRet (fOp foIn (fVar 2) (fAttr "own_bad" [("Watcher", FAt.fld)] (fVar 0)))) r).bind bodyK = .ok (.bl (p.bk p.start ls)) := by
    rw [Dr.bind_assoc]
    refine for_outK D.str (fun q : Nat => [some (.ins "Watcher" [("own_rows", R), ("own_start", nD p.start), ("own_bad", .lst (p.bad.map nD))]), some d, some (nD q), none]) (fun q l => q < p.rows.length ∧ p.bk q l = p.bk p.start ls) (fun z => z = .bl (p.bk p.start ls)) (s := p.start) ⟨h.st, rfl⟩ (fun q x l hq => ?_) (fun q hq => ?_) fun z ρ hz => ?_
    · obtain ⟨q1, q2⟩ := hq
      rw [r_turn]
      walk_at "gi"
      by_cases hb : q ∈ p.bad
      · rw [if_pos hb]
        walk_at "gg"
        exact .inr ⟨_, _, by rw [← q2, p.bk_bad hb], rfl⟩
      · rw [if_neg hb]
        walk_at "gg"
        rw [hn q x q1]
        walk_at "gg"
        refine .inl ⟨p.step q x, ⟨p.step_lt h q1 x, ?_⟩, rfl⟩
        rw [← q2, WPlan.bk, decide_eq_false hb]
        rfl
    · obtain ⟨q1, q2⟩ := hq
      walk_at "gi"
      rw [← q2, WPlan.bk]
    · subst hz
      walk_at "gg"
  rcases hd with hd | hd
  · rw [hd] at go ⊢
    walk_at "gg"
    exact go
  · rw [hd] at go ⊢
    walk_at "gg"
    exact go

theorem look_zz {m : Nat} {r : WR} (h : RowOk m r) : look r (Str.ofString "zz") = none := by
  have e : ¬ (Str.ofString "zz" ∈ r.map (·.1)) := fun z => by
    obtain ⟨p, hp, e⟩ := List.mem_map.mp z
    have := h.sub p hp
    rw [e] at this
    exact absurd this (by decide +kernel)
  have := look_isSome (r := r) (s := Str.ofString "zz")
  rw [decide_eq_false e] at this
  simpa using this
theorem step_zz {p : WPlan} {m s : Nat} (h : p.Ok m) (hs : s < p.rows.length) : p.step s (Str.ofString "zz") = s := by
  rw [p.step_eq hs, look_zz (h.ok _ (List.getElem_mem hs))]
  rfl
def wds : List Str := [Str.ofString "a", Str.ofString "b", Str.ofString "ab", Str.ofString "a", Str.ofString "b", Str.ofString "zz"]
theorem wds_nb {ls : List Str} (h : ∀ s ∈ ls, s ∈ wds) : nbN 60 (D.lst (ls.map .str)) = true := by
  have hw : ∀ s ∈ wds, PyData.strOk s = true := by decide +kernel
  show (ls.map D.str).all (nbN 59) = true
  rw [List.all_map, List.all_eq_true]
  exact fun s hs => hw s (h s hs)
theorem same3 (a : Bool) : F_law_same [.lst [.bl a, .bl a, .bl a], .lst [[D.bl a], [.bl a], [.bl a]].flatten] = .ok (.bl true) := F_law_same_refl 4 _ rfl
theorem same2 (a : Bool) : F_law_same [.lst [.bl a, .bl a], .lst [[D.bl a], [.bl a]].flatten] = .ok (.bl true) := F_law_same_refl 4 _ rfl
theorem law_wp : (f_law (none :: some (.ty "bag") :: List.replicate 9 none)).wp (fun r => match r with
      | .rt d _ => d = .bl true
      | _ => False) (fun _ => False) := by
  unfold f_law
  walk_at "gg"
  rw [must_ok (by decide), show rngD 0 5 = (List.range 5).map fun (i : Nat) => D.int (i : Int) from rngD_nat 5]
  walk_at "gg"
  refine for_wpK (fun (i : Nat) => D.int (i : Int)) (fun _ : Unit => [none, some (.ty "bag"), none, none, none, none, none, none, none, none, none]) (fun _ _ => True) (s := ()) trivial (fun s x l _ => ?_) fun s _ => ?_
  · rw [r_turn]
    walk_at "gg"
    refine F_law_watcher_wp (m := 6) (by decide) (by decide) fun p ok => ?_
    have hR := F_law_ruleW ok (by decide)
    have hB := fun ls => F_law_brokenW (ls := ls) ok
    have hK := fun ls d hd => F_Watcher_breaksW (ls := ls) (d := d) ok hd
    obtain ⟨fs, eW, hf⟩ : ∃ fs, p.W = .ins "Watcher" fs ∧ (fs.lookup "breaks").isNone = true := ⟨_, rfl, rfl⟩
    obtain ⟨R, eD⟩ : ∃ R, p.D = .lst [R, nD p.start, .lst (p.bad.map nD)] := ⟨_, rfl⟩
    rw [eD, eW] at hR
    rw [eD] at hB ⊢
    rw [eW] at hK
    rw [hR, Dr.wp_ok]
    walk_at "gg"
    rw [must_ok (by decide), show rngD 0 4 = (List.range 4).map fun (i : Nat) => D.int (i : Int) from rngD_nat 4]
    walk_at "gg"
    refine for_wpK (fun (i : Nat) => D.int (i : Int)) (fun _ : Unit => [none, some (.ty "bag"), some (nD x), some (.lst [R, nD p.start, .lst (p.bad.map nD)]), some (.ins "Watcher" fs), none, none, none, none, none, none]) (fun _ _ => True) (s := ()) trivial (fun s y l _ => ?_) fun s _ => ?_
    · rw [r_turn]
      walk_at "gg"
      refine dr_nat (by omega) (by omega) fun n hn => ?_
      walk_at "gg"
      rw [must_ok (rngOk_nat (by omega)), Int.toNat_natCast, rngD_nat]
      walk_at "gg"
      rw [must_ok (by simp; omega)]
      walk_at "gg"
      refine lcF_dec (fun (i : Nat) => D.int (i : Int)) D.str (fun s => s ∈ wds) _ _ (fun x _ => ?_) fun ls hl hs => ?_
      · unfold lcOne
        walk_at "gg"
        refine F_law_pick_wp (by simp) (by simp) fun d hd => ?_
        walk_at "gg"
        obtain ⟨s, hs, e⟩ := List.mem_map.mp (show d ∈ wds.map D.str from hd)
        exact ⟨s, by rw [e], hs⟩
      rw [List.length_range] at hl
      have nb := wds_nb hs
      walk_at "gg"
      rw [hB, Dr.wp_ok, must_ok hf, hK ls _ (.inl rfl), Dr.wp_ok, must_ok hf, show gdD_Watcher_breaks_1_labels [.ins "Watcher" fs, .tup (ls.map .str)] = [.ins "Watcher" fs, .tup (ls.map .str)] from rfl, hK ls _ (.inr rfl), Dr.wp_ok, Dr.wp_ok, same3, Dr.wp_ok]
      walk_at "gg"
      rw [ite_t (nb_ok 60 _ nb), (eqD_nb nb nb).mpr rfl]
      walk_at "gg"
      obtain ⟨n1, hn1⟩ : ∃ n1 : Nat, (ls.length : Int) + 1 = (n1 : Int) := ⟨ls.length + 1, by omega⟩
      rw [hn1, must_ok (rngOk_nat (by omega)), Int.toNat_natCast, rngD_nat]
      walk_at "gg"
      refine for_wpK (fun (i : Nat) => D.int (i : Int)) (fun _ : Unit => [none, some (.ty "bag"), some (nD x), some (.lst [R, nD p.start, .lst (p.bad.map nD)]), some (.ins "Watcher" fs), some (nD y), some (.lst (ls.map .str)), none, some (.lst (ls.map .str)), some (.bl (p.bk p.start ls)), some (.lst [.bl (p.bk p.start ls), .bl (p.bk p.start ls), .bl (p.bk p.start ls)])]) (fun _ _ => True) (s := ()) trivial (fun s k l _ => ?_) fun s _ => ?_
      · rw [r_turn]
        walk_at "gg"
        rw [cutW_take, ← List.map_take, must_ok hf, hK _ _ (.inl rfl), Dr.wp_ok]
        walk_at "gg"
        cases e : p.bk p.start (ls.take k) with
        | false =>
          walk_at "gg"
          exact ⟨(), trivial⟩
        | true =>
          rw [WPlan.bk_take e]
          walk_at "gg"
          exact ⟨(), trivial⟩
      · walk_at "gg"
        exact ⟨(), trivial⟩
    · walk_at "gg"
      have k1 := hK [] _ (.inl rfl)
      have k2 := hK [Str.ofString "zz", Str.ofString "zz"] _ (.inl rfl)
      have e2 : p.bk p.start [Str.ofString "zz", Str.ofString "zz"] = decide (p.start ∈ p.bad) := by
        rw [WPlan.bk, step_zz ok ok.st, WPlan.bk, step_zz ok ok.st, WPlan.bk]
        cases decide (p.start ∈ p.bad) <;> rfl
      rw [e2] at k2
      rw [List.map_nil] at k1
      rw [List.map_cons, List.map_cons, List.map_nil] at k2
      rw [must_ok hf, k1, Dr.wp_ok, must_ok hf, k2, Dr.wp_ok]
      simp -implicitDefEqProofs only [mapSc_nats, inV_nats, Option.map_some]
      walk_at "gg"
      rw [WPlan.bk, same2, Dr.wp_ok]
      walk_at "gg"
      exact ⟨(), trivial⟩
  · walk_at "gg"

end L43

set_option Elab.async false
set_option linter.all false
set_option maxRecDepth 100000
set_option maxHeartbeats 4000000
namespace L43
open PySem PySem.Spec PyProof.Rows L2 DX
theorem law_true : ∀ p c ms z, p ≠ c → ms.length ≤ 63 → 0 ≤ z → z < 2147483629 → m_law lawC (none :: some (.ref p) :: List.replicate 9 none) (bagS p c ms z) := law_by law_wp
theorem all_mk {l : PySem.W.OpenLaw} {w : World} {K : PySem.W.Frag} {h : Heap} {mg : Str → Option Value} {fa : Addr} (X : K.In h) (G : h.Ns mainGlobals mg) (hfa : mg "law" = some (.ref fa))
    {f_Watcher : Addr}
    {f_law_bag : Addr} {oc_law_bag kV_law_bag dc_law_bag pm_law_bag cd_law_bag ct_law_bag : Value} {od_law_bag an_law_bag : Option Addr} {sl_law_bag : Array (Option Value)}
    {f_law_pull : Addr} {oc_law_pull kV_law_pull dc_law_pull pm_law_pull cd_law_pull ct_law_pull : Value} {od_law_pull an_law_pull : Option Addr} {sl_law_pull : Array (Option Value)}
    {f_law_watcher : Addr} {oc_law_watcher kV_law_watcher dc_law_watcher pm_law_watcher cd_law_watcher ct_law_watcher : Value} {od_law_watcher an_law_watcher : Option Addr} {sl_law_watcher : Array (Option Value)}
    {f_is_number : Addr} {oc_is_number kV_is_number dc_is_number pm_is_number cd_is_number ct_is_number : Value} {od_is_number an_is_number : Option Addr} {sl_is_number : Array (Option Value)}
    {dT_is_number : Addr} {dc2_is_number : Value} {dd_is_number : Option Addr} {di_is_number : Array Value} {dn_is_number : Nat} {ds_is_number : Array (Option Value)}
    {f_is_name : Addr} {oc_is_name kV_is_name dc_is_name pm_is_name cd_is_name ct_is_name : Value} {od_is_name an_is_name : Option Addr} {sl_is_name : Array (Option Value)}
    {f_is_state_row : Addr} {oc_is_state_row kV_is_state_row dc_is_state_row pm_is_state_row cd_is_state_row ct_is_state_row : Value} {od_is_state_row an_is_state_row : Option Addr} {sl_is_state_row : Array (Option Value)}
    {f_Watcher_init : Addr} {oc_Watcher_init dc_Watcher_init pm_Watcher_init cd_Watcher_init ct_Watcher_init : Value} {od_Watcher_init an_Watcher_init : Option Addr} {sl_Watcher_init : Array (Option Value)}
    {kD_Watcher_init : Addr}
    {dkw_Watcher_init_0 : Tok}
    {dz_Watcher_init : Addr} {zc_Watcher_init : Value} {zd_Watcher_init : Option Addr} {zi_Watcher_init : Array Value} {zn_Watcher_init : Nat} {zs_Watcher_init : Array (Option Value)}
    {f_law_rule : Addr} {oc_law_rule kV_law_rule dc_law_rule pm_law_rule cd_law_rule ct_law_rule : Value} {od_law_rule an_law_rule : Option Addr} {sl_law_rule : Array (Option Value)}
    {f_law_pick : Addr} {oc_law_pick kV_law_pick dc_law_pick pm_law_pick cd_law_pick ct_law_pick : Value} {od_law_pick an_law_pick : Option Addr} {sl_law_pick : Array (Option Value)}
    {f_law_next : Addr} {oc_law_next kV_law_next dc_law_next pm_law_next cd_law_next ct_law_next : Value} {od_law_next an_law_next : Option Addr} {sl_law_next : Array (Option Value)}
    {f_law_broken : Addr} {oc_law_broken kV_law_broken dc_law_broken pm_law_broken cd_law_broken ct_law_broken : Value} {od_law_broken an_law_broken : Option Addr} {sl_law_broken : Array (Option Value)}
    {f_Watcher_step : Addr} {oc_Watcher_step kV_Watcher_step dc_Watcher_step pm_Watcher_step cd_Watcher_step ct_Watcher_step : Value} {od_Watcher_step an_Watcher_step : Option Addr} {sl_Watcher_step : Array (Option Value)}
    {f_Watcher_breaks : Addr} {oc_Watcher_breaks kV_Watcher_breaks dc_Watcher_breaks pm_Watcher_breaks cd_Watcher_breaks ct_Watcher_breaks : Value} {od_Watcher_breaks an_Watcher_breaks : Option Addr} {sl_Watcher_breaks : Array (Option Value)}
    {f_law_same : Addr} {oc_law_same kV_law_same dc_law_same pm_law_same cd_law_same ct_law_same : Value} {od_law_same an_law_same : Option Addr} {sl_law_same : Array (Option Value)}
    {f_law : Addr} {oc_law kV_law dc_law pm_law cd_law ct_law : Value} {od_law an_law : Option Addr} {sl_law : Array (Option Value)}
    {tk_MOST_NAME : Tok}
    {tk_MOST_STATES : Tok}
    {tk_SMALL : Tok}
    (h1 : PySem.W.nsIn K mainGlobals "Watcher" = some (some (.ref f_Watcher)))
    (h2 : PySem.W.plainGet K f_Watcher Str.empty = true)
    (h3 : PySem.W.hasDictIn K f_Watcher = true)
    (h4 : PySem.W.plainOver K f_Watcher = true)
    (h5 : PySem.W.findIn K (.ref f_Watcher) "__setattr__" = some (some (.builtin "object.__setattr__")))
    (h6 : PySem.W.findIn K (.ref f_Watcher) "own_bad" = some none)
    (h7 : PySem.W.findIn K (.ref f_Watcher) "own_rows" = some none)
    (h8 : PySem.W.findIn K (.ref f_Watcher) "own_start" = some none)
    (h9 : PySem.W.nsIn K mainGlobals "_law_bag" = some (some (.ref f_law_bag)))
    (h10 : K.lookup f_law_bag = some ⟨oc_law_bag, od_law_bag, .func (PySem.W.fnOf "_law_bag" "_law_bag" (defArgs st_law_bag) (defBody st_law_bag) (defScope st_law_bag) .none kV_law_bag dc_law_bag pm_law_bag an_law_bag cd_law_bag ct_law_bag), sl_law_bag⟩)
    (h11 : PySem.W.codeIn K cd_law_bag "_law_bag" = true)
    (h12 : PySem.W.keepIn K (.ref f_law_bag) = true)
    (h13 : PySem.W.nsIn K mainGlobals "_law_pull" = some (some (.ref f_law_pull)))
    (h14 : K.lookup f_law_pull = some ⟨oc_law_pull, od_law_pull, .func (PySem.W.fnOf "_law_pull" "_law_pull" (defArgs st_law_pull) (defBody st_law_pull) (defScope st_law_pull) .none kV_law_pull dc_law_pull pm_law_pull an_law_pull cd_law_pull ct_law_pull), sl_law_pull⟩)
    (h15 : PySem.W.codeIn K cd_law_pull "_law_pull" = true)
    (h16 : PySem.W.keepIn K (.ref f_law_pull) = true)
    (h17 : PySem.W.nsIn K mainGlobals "_law_watcher" = some (some (.ref f_law_watcher)))
    (h18 : K.lookup f_law_watcher = some ⟨oc_law_watcher, od_law_watcher, .func (PySem.W.fnOf "_law_watcher" "_law_watcher" (defArgs st_law_watcher) (defBody st_law_watcher) (defScope st_law_watcher) .none kV_law_watcher dc_law_watcher pm_law_watcher an_law_watcher cd_law_watcher ct_law_watcher), sl_law_watcher⟩)
    (h19 : PySem.W.codeIn K cd_law_watcher "_law_watcher" = true)
    (h20 : PySem.W.keepIn K (.ref f_law_watcher) = true)
    (h21 : PySem.W.nsIn K mainGlobals "is_number" = some (some (.ref f_is_number)))
    (h22 : K.lookup f_is_number = some ⟨oc_is_number, od_is_number, .func (PySem.W.fnOf "is_number" "is_number" (defArgs st_is_number) (defBody st_is_number) (defScope st_is_number) (.ref dT_is_number) kV_is_number dc_is_number pm_is_number an_is_number cd_is_number ct_is_number), sl_is_number⟩)
    (h23 : PySem.W.codeIn K cd_is_number "is_number" = true)
    (h24 : PySem.W.keepIn K (.ref f_is_number) = true)
    (h25 : K.lookup dT_is_number = some ⟨dc2_is_number, dd_is_number, .seq di_is_number dn_is_number, ds_is_number⟩)
    (h26 : di_is_number.toList = [(.none)])
    (h27 : PySem.W.nsIn K mainGlobals "is_name" = some (some (.ref f_is_name)))
    (h28 : K.lookup f_is_name = some ⟨oc_is_name, od_is_name, .func (PySem.W.fnOf "is_name" "is_name" (defArgs st_is_name) (defBody st_is_name) (defScope st_is_name) .none kV_is_name dc_is_name pm_is_name an_is_name cd_is_name ct_is_name), sl_is_name⟩)
    (h29 : PySem.W.codeIn K cd_is_name "is_name" = true)
    (h30 : PySem.W.keepIn K (.ref f_is_name) = true)
    (h31 : PySem.W.nsIn K mainGlobals "is_state_row" = some (some (.ref f_is_state_row)))
    (h32 : K.lookup f_is_state_row = some ⟨oc_is_state_row, od_is_state_row, .func (PySem.W.fnOf "is_state_row" "is_state_row" (defArgs st_is_state_row) (defBody st_is_state_row) (defScope st_is_state_row) .none kV_is_state_row dc_is_state_row pm_is_state_row an_is_state_row cd_is_state_row ct_is_state_row), sl_is_state_row⟩)
    (h33 : PySem.W.codeIn K cd_is_state_row "is_state_row" = true)
    (h34 : PySem.W.keepIn K (.ref f_is_state_row) = true)
    (h35 : PySem.W.findIn K (.ref f_Watcher) "__init__" = some (some (.ref f_Watcher_init)))
    (h36 : PySem.W.isFn K (.ref f_Watcher_init) = true)
    (h37 : PySem.W.keepIn K (.ref f_Watcher) = true)
    (h38 : PySem.W.makesIn K f_Watcher = true)
    (h39 : K.lookup f_Watcher_init = some ⟨oc_Watcher_init, od_Watcher_init, .func (PySem.W.fnOf "__init__" "Watcher.__init__" (defArgs st_Watcher_init) (defBody st_Watcher_init) (defScope st_Watcher_init) .none (.ref kD_Watcher_init) dc_Watcher_init pm_Watcher_init an_Watcher_init cd_Watcher_init ct_Watcher_init), sl_Watcher_init⟩)
    (h40 : PySem.W.codeIn K cd_Watcher_init "Watcher.__init__" = true)
    (h41 : PySem.W.keepIn K (.ref f_Watcher_init) = true)
    (h42 : PySem.W.nsIn K kD_Watcher_init "start" = some (some (.int 0 dkw_Watcher_init_0)))
    (h43 : K.lookup dz_Watcher_init = some ⟨zc_Watcher_init, zd_Watcher_init, .seq zi_Watcher_init zn_Watcher_init, zs_Watcher_init⟩)
    (h44 : zc_Watcher_init = .type "tuple")
    (h45 : zi_Watcher_init.toList = [])
    (h46 : PySem.W.nsIn K kD_Watcher_init "bad" = some (some (.ref dz_Watcher_init)))
    (h47 : PySem.W.nsIn K mainGlobals "_law_rule" = some (some (.ref f_law_rule)))
    (h48 : K.lookup f_law_rule = some ⟨oc_law_rule, od_law_rule, .func (PySem.W.fnOf "_law_rule" "_law_rule" (defArgs st_law_rule) (defBody st_law_rule) (defScope st_law_rule) .none kV_law_rule dc_law_rule pm_law_rule an_law_rule cd_law_rule ct_law_rule), sl_law_rule⟩)
    (h49 : PySem.W.codeIn K cd_law_rule "_law_rule" = true)
    (h50 : PySem.W.keepIn K (.ref f_law_rule) = true)
    (h51 : PySem.W.nsIn K mainGlobals "_law_pick" = some (some (.ref f_law_pick)))
    (h52 : K.lookup f_law_pick = some ⟨oc_law_pick, od_law_pick, .func (PySem.W.fnOf "_law_pick" "_law_pick" (defArgs st_law_pick) (defBody st_law_pick) (defScope st_law_pick) .none kV_law_pick dc_law_pick pm_law_pick an_law_pick cd_law_pick ct_law_pick), sl_law_pick⟩)
    (h53 : PySem.W.codeIn K cd_law_pick "_law_pick" = true)
    (h54 : PySem.W.keepIn K (.ref f_law_pick) = true)
    (h55 : PySem.W.nsIn K mainGlobals "_law_next" = some (some (.ref f_law_next)))
    (h56 : K.lookup f_law_next = some ⟨oc_law_next, od_law_next, .func (PySem.W.fnOf "_law_next" "_law_next" (defArgs st_law_next) (defBody st_law_next) (defScope st_law_next) .none kV_law_next dc_law_next pm_law_next an_law_next cd_law_next ct_law_next), sl_law_next⟩)
    (h57 : PySem.W.codeIn K cd_law_next "_law_next" = true)
    (h58 : PySem.W.keepIn K (.ref f_law_next) = true)
    (h59 : PySem.W.nsIn K mainGlobals "_law_broken" = some (some (.ref f_law_broken)))
    (h60 : K.lookup f_law_broken = some ⟨oc_law_broken, od_law_broken, .func (PySem.W.fnOf "_law_broken" "_law_broken" (defArgs st_law_broken) (defBody st_law_broken) (defScope st_law_broken) .none kV_law_broken dc_law_broken pm_law_broken an_law_broken cd_law_broken ct_law_broken), sl_law_broken⟩)
    (h61 : PySem.W.codeIn K cd_law_broken "_law_broken" = true)
    (h62 : PySem.W.keepIn K (.ref f_law_broken) = true)
    (h63 : PySem.W.findIn K (.ref f_Watcher) "step" = some (some (.ref f_Watcher_step)))
    (h64 : PySem.W.isFn K (.ref f_Watcher_step) = true)
    (h65 : K.lookup f_Watcher_step = some ⟨oc_Watcher_step, od_Watcher_step, .func (PySem.W.fnOf "step" "Watcher.step" (defArgs st_Watcher_step) (defBody st_Watcher_step) (defScope st_Watcher_step) .none kV_Watcher_step dc_Watcher_step pm_Watcher_step an_Watcher_step cd_Watcher_step ct_Watcher_step), sl_Watcher_step⟩)
    (h66 : PySem.W.codeIn K cd_Watcher_step "Watcher.step" = true)
    (h67 : PySem.W.keepIn K (.ref f_Watcher_step) = true)
    (h68 : PySem.W.findIn K (.ref f_Watcher) "breaks" = some (some (.ref f_Watcher_breaks)))
    (h69 : PySem.W.isFn K (.ref f_Watcher_breaks) = true)
    (h70 : K.lookup f_Watcher_breaks = some ⟨oc_Watcher_breaks, od_Watcher_breaks, .func (PySem.W.fnOf "breaks" "Watcher.breaks" (defArgs st_Watcher_breaks) (defBody st_Watcher_breaks) (defScope st_Watcher_breaks) .none kV_Watcher_breaks dc_Watcher_breaks pm_Watcher_breaks an_Watcher_breaks cd_Watcher_breaks ct_Watcher_breaks), sl_Watcher_breaks⟩)
    (h71 : PySem.W.codeIn K cd_Watcher_breaks "Watcher.breaks" = true)
    (h72 : PySem.W.keepIn K (.ref f_Watcher_breaks) = true)
    (h73 : PySem.W.nsIn K mainGlobals "_law_same" = some (some (.ref f_law_same)))
    (h74 : K.lookup f_law_same = some ⟨oc_law_same, od_law_same, .func (PySem.W.fnOf "_law_same" "_law_same" (defArgs st_law_same) (defBody st_law_same) (defScope st_law_same) .none kV_law_same dc_law_same pm_law_same an_law_same cd_law_same ct_law_same), sl_law_same⟩)
    (h75 : PySem.W.codeIn K cd_law_same "_law_same" = true)
    (h76 : PySem.W.keepIn K (.ref f_law_same) = true)
    (h77 : PySem.W.nsIn K mainGlobals "law" = some (some (.ref f_law)))
    (h78 : K.lookup f_law = some ⟨oc_law, od_law, .func (PySem.W.fnOf "law" "law" (defArgs st_law) (defBody st_law) (defScope st_law) .none kV_law dc_law pm_law an_law cd_law ct_law), sl_law⟩)
    (h79 : PySem.W.codeIn K cd_law "law" = true)
    (h80 : PySem.W.keepIn K (.ref f_law) = true)
    (h81 : PySem.W.nsIn K mainGlobals "all" = some none)
    (h82 : PySem.W.nsIn K mainGlobals "bool" = some none)
    (h83 : PySem.W.nsIn K mainGlobals "dict" = some none)
    (h84 : PySem.W.nsIn K mainGlobals "enumerate" = some none)
    (h85 : PySem.W.nsIn K mainGlobals "int" = some none)
    (h86 : PySem.W.nsIn K mainGlobals "isinstance" = some none)
    (h87 : PySem.W.nsIn K mainGlobals "len" = some none)
    (h88 : PySem.W.nsIn K mainGlobals "list" = some none)
    (h89 : PySem.W.nsIn K mainGlobals "range" = some none)
    (h90 : PySem.W.nsIn K mainGlobals "set" = some none)
    (h91 : PySem.W.nsIn K mainGlobals "sorted" = some none)
    (h92 : PySem.W.nsIn K mainGlobals "str" = some none)
    (h93 : PySem.W.nsIn K mainGlobals "tuple" = some none)
    (h94 : PySem.W.nsIn K mainGlobals "zip" = some none)
    (h95 : PySem.W.nsIn K mainGlobals "MOST_NAME" = some (some (.int 6 tk_MOST_NAME)))
    (h96 : PySem.W.nsIn K mainGlobals "MOST_STATES" = some (some (.int 12 tk_MOST_STATES)))
    (h97 : PySem.W.nsIn K mainGlobals "SMALL" = some (some (.str "abcdefghijklmnopqrstuvwxyz" tk_SMALL))) :
    ∃ fd : FuncData, (∀ (s : Shared) (v : Value), BindsTo s fd ⟨[v], []⟩ [("_law_script", v)]) ∧ ∀ base : Heap, K.In base → base.Ns mainGlobals mg → FnOk l.prog w K mg base (L2N.CX l.prog w) 6 fa fd ["_law_script"] (spLaw K []) := by
  have e := hfa.symm.trans (PySem.W.mg_of X G h77)
  cases e
  have e_Watcher : clsAt K "Watcher" = f_Watcher := clsAt_of h1
  have FF_is_number : FunD K "is_number" "is_number" (defArgs st_is_number) (defBody st_is_number) (defScope st_is_number) [.non] [] f_is_number (PySem.W.fnOf "is_number" "is_number" (defArgs st_is_number) (defBody st_is_number) (defScope st_is_number) (.ref dT_is_number) kV_is_number dc_is_number pm_is_number an_is_number cd_is_number ct_is_number) := fund_mk (st := st_is_number) h22 h23 h24 (dfl1 (by simp) h25 (by rw [h26]; exact (.cons rfl .nil))) kwd0
  obtain ⟨eb_is_number, hv_is_number, hb_is_number⟩ := FF_is_number.binds1 (ps := ["value", "least", "most"]) 3 1 (by simp) rfl fun _ _ _ _ _ _ _ us its h1 h2 => (match us, its, h1, h2 with | [_, _, _], [_], _, _ => ⟨_, rfl, rfl⟩)
  have DZ_Watcher_init : ∀ G, SqT K G dz_Watcher_init [] := fun G => .inr ⟨_, zi_Watcher_init, zn_Watcher_init, h43, h44, rfl, by have e := congrArg List.length h45; rw [Array.length_toList] at e; rw [e]; exact Nat.zero_le _, by rw [h45]; exact .nil⟩
  have FF_Watcher_init : FunD K "__init__" "Watcher.__init__" (defArgs st_Watcher_init) (defBody st_Watcher_init) (defScope st_Watcher_init) [] [("start", .int 0), ("bad", .ref dz_Watcher_init)] f_Watcher_init (PySem.W.fnOf "__init__" "Watcher.__init__" (defArgs st_Watcher_init) (defBody st_Watcher_init) (defScope st_Watcher_init) .none (.ref kD_Watcher_init) dc_Watcher_init pm_Watcher_init an_Watcher_init cd_Watcher_init ct_Watcher_init) := fund_mk (st := st_Watcher_init) h39 h40 h41 dfl0 (kwd1 (by intro q hq; simp only [List.mem_cons, List.not_mem_nil, or_false] at hq; rcases hq with rfl | rfl <;> first | exact ⟨_, h42, ⟨_, rfl⟩⟩ | exact ⟨_, h46, rfl⟩))
  have kb_Watcher_breaks_1_labels : KBn K (PySem.W.fnOf "breaks" "Watcher.breaks" (defArgs st_Watcher_breaks) (defBody st_Watcher_breaks) (defScope st_Watcher_breaks) .none kV_Watcher_breaks dc_Watcher_breaks pm_Watcher_breaks an_Watcher_breaks cd_Watcher_breaks ct_Watcher_breaks) ["self", "labels"] 1 ["labels"] (fun us zs => atL us 0 ++ (atL zs 0)) gV_Watcher_breaks_1_labels := ⟨fun s us ws _ h1 h2 => (match us, ws, h1, h2 with | [_], [_], _, _ => .of_eq rfl), fun h1 h2 => (Vals.append (vals_atL h1 0) (vals_atL h2 0))⟩
  obtain ⟨mv_Watcher_init_2_start_bad, kb_Watcher_init_2_start_bad⟩ := FF_Watcher_init.kbinds0 (ps := ["self", "rows", "start", "bad"]) 2 ["start", "bad"] [] (fun {α} us mz zs => atL us 0 ++ (atL us 1 ++ (atL zs 0 ++ (atL zs 1)))) (by simp) (by simp) (fun h1 hm h2 => (Vals.append (vals_atL h1 0) (Vals.append (vals_atL h1 1) (Vals.append (vals_atL h2 0) (vals_atL h2 1))))) fun _ _ _ _ _ _ us mz zs h1 hm h2 => (match us, mz, zs, h1, hm, h2 with | [_, _], [], [_, _], _, _, _ => (by repeat (first | exact rfl | refine ⟨_, _, _, _, _, _, rfl, rfl, ?_⟩)))
  let T : Txt l.prog w K mg := {
    c_Watcher := by rw [e_Watcher]; exact PySem.W.mg_of X G h1,
    cl_Watcher := by rw [e_Watcher]; exact ⟨h2, h3, h4, h5⟩,
    na_Watcher_own_bad := by rw [e_Watcher]; exact h6,
    na_Watcher_own_rows := by rw [e_Watcher]; exact h7,
    na_Watcher_own_start := by rw [e_Watcher]; exact h8,
    a_law_bag := f_law_bag,
    d_law_bag := (PySem.W.fnOf "_law_bag" "_law_bag" (defArgs st_law_bag) (defBody st_law_bag) (defScope st_law_bag) .none kV_law_bag dc_law_bag pm_law_bag an_law_bag cd_law_bag ct_law_bag),
    F_law_bag := fun_mk (st := st_law_bag) h10 h11 h12,
    b_law_bag := (fun_mk (st := st_law_bag) h10 h11 h12).binds (ps := ["_law_script"]) fun _ _ _ _ _ _ us hl => (match us, hl with | [_], _ => rfl),
    g_law_bag := PySem.W.mg_of X G h9,
    a_law_pull := f_law_pull,
    d_law_pull := (PySem.W.fnOf "_law_pull" "_law_pull" (defArgs st_law_pull) (defBody st_law_pull) (defScope st_law_pull) .none kV_law_pull dc_law_pull pm_law_pull an_law_pull cd_law_pull ct_law_pull),
    F_law_pull := fun_mk (st := st_law_pull) h14 h15 h16,
    b_law_pull := (fun_mk (st := st_law_pull) h14 h15 h16).binds (ps := ["_law_bag_here", "_law_many"]) fun _ _ _ _ _ _ us hl => (match us, hl with | [_, _], _ => rfl),
    g_law_pull := PySem.W.mg_of X G h13,
    a_law_watcher := f_law_watcher,
    d_law_watcher := (PySem.W.fnOf "_law_watcher" "_law_watcher" (defArgs st_law_watcher) (defBody st_law_watcher) (defScope st_law_watcher) .none kV_law_watcher dc_law_watcher pm_law_watcher an_law_watcher cd_law_watcher ct_law_watcher),
    F_law_watcher := fun_mk (st := st_law_watcher) h18 h19 h20,
    b_law_watcher := (fun_mk (st := st_law_watcher) h18 h19 h20).binds (ps := ["_law_bag_here", "_law_most"]) fun _ _ _ _ _ _ us hl => (match us, hl with | [_, _], _ => rfl),
    g_law_watcher := PySem.W.mg_of X G h17,
    a_is_number := f_is_number,
    d_is_number := (PySem.W.fnOf "is_number" "is_number" (defArgs st_is_number) (defBody st_is_number) (defScope st_is_number) (.ref dT_is_number) kV_is_number dc_is_number pm_is_number an_is_number cd_is_number ct_is_number),
    F_is_number := FF_is_number,
    b_is_number := (by cases hv_is_number; exact hb_is_number),
    g_is_number := PySem.W.mg_of X G h21,
    a_is_name := f_is_name,
    d_is_name := (PySem.W.fnOf "is_name" "is_name" (defArgs st_is_name) (defBody st_is_name) (defScope st_is_name) .none kV_is_name dc_is_name pm_is_name an_is_name cd_is_name ct_is_name),
    F_is_name := fun_mk (st := st_is_name) h28 h29 h30,
    b_is_name := (fun_mk (st := st_is_name) h28 h29 h30).binds (ps := ["value"]) fun _ _ _ _ _ _ us hl => (match us, hl with | [_], _ => rfl),
    g_is_name := PySem.W.mg_of X G h27,
    a_is_state_row := f_is_state_row,
    d_is_state_row := (PySem.W.fnOf "is_state_row" "is_state_row" (defArgs st_is_state_row) (defBody st_is_state_row) (defScope st_is_state_row) .none kV_is_state_row dc_is_state_row pm_is_state_row an_is_state_row cd_is_state_row ct_is_state_row),
    F_is_state_row := fun_mk (st := st_is_state_row) h32 h33 h34,
    b_is_state_row := (fun_mk (st := st_is_state_row) h32 h33 h34).binds (ps := ["states", "value"]) fun _ _ _ _ _ _ us hl => (match us, hl with | [_, _], _ => rfl),
    g_is_state_row := PySem.W.mg_of X G h31,
    mk_Watcher := by rw [e_Watcher]; exact ⟨h38, h35, h36, h37⟩,
    kc_Watcher := by rw [e_Watcher]; exact h37,
    a_Watcher_init := f_Watcher_init,
    d_Watcher_init := (PySem.W.fnOf "__init__" "Watcher.__init__" (defArgs st_Watcher_init) (defBody st_Watcher_init) (defScope st_Watcher_init) .none (.ref kD_Watcher_init) dc_Watcher_init pm_Watcher_init an_Watcher_init cd_Watcher_init ct_Watcher_init),
    dz_Watcher_init := dz_Watcher_init,
    dzq_Watcher_init := DZ_Watcher_init,
    F_Watcher_init := FF_Watcher_init,
    a_law_rule := f_law_rule,
    d_law_rule := (PySem.W.fnOf "_law_rule" "_law_rule" (defArgs st_law_rule) (defBody st_law_rule) (defScope st_law_rule) .none kV_law_rule dc_law_rule pm_law_rule an_law_rule cd_law_rule ct_law_rule),
    F_law_rule := fun_mk (st := st_law_rule) h48 h49 h50,
    b_law_rule := (fun_mk (st := st_law_rule) h48 h49 h50).binds (ps := ["_law_plan"]) fun _ _ _ _ _ _ us hl => (match us, hl with | [_], _ => rfl),
    g_law_rule := PySem.W.mg_of X G h47,
    a_law_pick := f_law_pick,
    d_law_pick := (PySem.W.fnOf "_law_pick" "_law_pick" (defArgs st_law_pick) (defBody st_law_pick) (defScope st_law_pick) .none kV_law_pick dc_law_pick pm_law_pick an_law_pick cd_law_pick ct_law_pick),
    F_law_pick := fun_mk (st := st_law_pick) h52 h53 h54,
    b_law_pick := (fun_mk (st := st_law_pick) h52 h53 h54).binds (ps := ["_law_bag_here", "_law_row"]) fun _ _ _ _ _ _ us hl => (match us, hl with | [_, _], _ => rfl),
    g_law_pick := PySem.W.mg_of X G h51,
    a_law_next := f_law_next,
    d_law_next := (PySem.W.fnOf "_law_next" "_law_next" (defArgs st_law_next) (defBody st_law_next) (defScope st_law_next) .none kV_law_next dc_law_next pm_law_next an_law_next cd_law_next ct_law_next),
    F_law_next := fun_mk (st := st_law_next) h56 h57 h58,
    b_law_next := (fun_mk (st := st_law_next) h56 h57 h58).binds (ps := ["_law_plan", "_law_state", "_law_label"]) fun _ _ _ _ _ _ us hl => (match us, hl with | [_, _, _], _ => rfl),
    g_law_next := PySem.W.mg_of X G h55,
    a_law_broken := f_law_broken,
    d_law_broken := (PySem.W.fnOf "_law_broken" "_law_broken" (defArgs st_law_broken) (defBody st_law_broken) (defScope st_law_broken) .none kV_law_broken dc_law_broken pm_law_broken an_law_broken cd_law_broken ct_law_broken),
    F_law_broken := fun_mk (st := st_law_broken) h60 h61 h62,
    b_law_broken := (fun_mk (st := st_law_broken) h60 h61 h62).binds (ps := ["_law_plan", "_law_labels_z"]) fun _ _ _ _ _ _ us hl => (match us, hl with | [_, _], _ => rfl),
    g_law_broken := PySem.W.mg_of X G h59,
    m_Watcher_step := by rw [e_Watcher]; exact ⟨h63, h64, h67⟩,
    a_Watcher_step := f_Watcher_step,
    d_Watcher_step := (PySem.W.fnOf "step" "Watcher.step" (defArgs st_Watcher_step) (defBody st_Watcher_step) (defScope st_Watcher_step) .none kV_Watcher_step dc_Watcher_step pm_Watcher_step an_Watcher_step cd_Watcher_step ct_Watcher_step),
    F_Watcher_step := fun_mk (st := st_Watcher_step) h65 h66 h67,
    b_Watcher_step := (fun_mk (st := st_Watcher_step) h65 h66 h67).binds (ps := ["self", "state", "label"]) fun _ _ _ _ _ _ us hl => (match us, hl with | [_, _, _], _ => rfl),
    m_Watcher_breaks := by rw [e_Watcher]; exact ⟨h68, h69, h72⟩,
    a_Watcher_breaks := f_Watcher_breaks,
    d_Watcher_breaks := (PySem.W.fnOf "breaks" "Watcher.breaks" (defArgs st_Watcher_breaks) (defBody st_Watcher_breaks) (defScope st_Watcher_breaks) .none kV_Watcher_breaks dc_Watcher_breaks pm_Watcher_breaks an_Watcher_breaks cd_Watcher_breaks ct_Watcher_breaks),
    F_Watcher_breaks := fun_mk (st := st_Watcher_breaks) h70 h71 h72,
    b_Watcher_breaks := (fun_mk (st := st_Watcher_breaks) h70 h71 h72).binds (ps := ["self", "labels"]) fun _ _ _ _ _ _ us hl => (match us, hl with | [_, _], _ => rfl),
    a_law_same := f_law_same,
    d_law_same := (PySem.W.fnOf "_law_same" "_law_same" (defArgs st_law_same) (defBody st_law_same) (defScope st_law_same) .none kV_law_same dc_law_same pm_law_same an_law_same cd_law_same ct_law_same),
    F_law_same := fun_mk (st := st_law_same) h74 h75 h76,
    b_law_same := (fun_mk (st := st_law_same) h74 h75 h76).binds (ps := ["_law_found", "_law_due"]) fun _ _ _ _ _ _ us hl => (match us, hl with | [_, _], _ => rfl),
    g_law_same := PySem.W.mg_of X G h73,
    a_law := fa,
    d_law := (PySem.W.fnOf "law" "law" (defArgs st_law) (defBody st_law) (defScope st_law) .none kV_law dc_law pm_law an_law cd_law ct_law),
    F_law := fun_mk (st := st_law) h78 h79 h80,
    b_law := (fun_mk (st := st_law) h78 h79 h80).binds (ps := ["_law_script"]) fun _ _ _ _ _ _ us hl => (match us, hl with | [_], _ => rfl),
    g_law := PySem.W.mg_of X G h77,
    kg_Watcher_breaks_1_labels := _,
    kb_Watcher_breaks_1_labels := kb_Watcher_breaks_1_labels,
    kg_Watcher_init_2_start_bad := _,
    kb_Watcher_init_2_start_bad := kb_Watcher_init_2_start_bad,
    kh_Watcher_init_2_start_bad := fun _ _ _ => rfl,
    kt_Watcher_init_2_start_bad := fun _ _ _ _ => rfl,
    n_all := PySem.W.mg_none_of X G h81,
    n_bool := PySem.W.mg_none_of X G h82,
    n_dict := PySem.W.mg_none_of X G h83,
    n_enumerate := PySem.W.mg_none_of X G h84,
    n_int := PySem.W.mg_none_of X G h85,
    n_isinstance := PySem.W.mg_none_of X G h86,
    n_len := PySem.W.mg_none_of X G h87,
    n_list := PySem.W.mg_none_of X G h88,
    n_range := PySem.W.mg_none_of X G h89,
    n_set := PySem.W.mg_none_of X G h90,
    n_sorted := PySem.W.mg_none_of X G h91,
    n_str := PySem.W.mg_none_of X G h92,
    n_tuple := PySem.W.mg_none_of X G h93,
    n_zip := PySem.W.mg_none_of X G h94,
    t_MOST_NAME := tk_MOST_NAME,
    c_MOST_NAME := PySem.W.mg_of X G h95,
    t_MOST_STATES := tk_MOST_STATES,
    c_MOST_STATES := PySem.W.mg_of X G h96,
    t_SMALL := tk_SMALL,
    c_SMALL := PySem.W.mg_of X G h97,
    isi := ⟨fun _ h => (List.not_mem_nil h).elim, fun _ h => (List.not_mem_nil h).elim, fun _ h => (List.not_mem_nil h).elim, fun _ h => (List.not_mem_nil h).elim⟩ }
  exact ⟨T.d_law, fun s v => .of_eq rfl, fun base _ _ => ok_law T (TT := []) (ok_law_bag T) (ok_law_watcher T (ok_law_pull T)) (ok_law_rule T (ok_Watcher_init T (ok_is_state_row T (ok_is_number T) (ok_is_name T)) (ok_is_number T))) (ok_law_pull T) (ok_law_pick T (ok_law_pull T)) (ok_law_broken T (ok_law_next T)) (ok_Watcher_breaks T (ok_Watcher_step T)) (ok_law_same T) law_true⟩
end L43

set_option Elab.async false
set_option linter.all false
set_option maxRecDepth 100000
set_option maxHeartbeats 0
namespace L43
open PySem PySem.Spec PyProof.Rows L2 DX
def ex0 (K : PySem.W.Frag) : List Bool := [
  decide (PySem.W.nsIn K mainGlobals "Watcher" = some (some (.ref (He.ga K "Watcher")))),
  decide (PySem.W.plainGet K (He.ga K "Watcher") Str.empty = true),
  decide (PySem.W.hasDictIn K (He.ga K "Watcher") = true),
  decide (PySem.W.plainOver K (He.ga K "Watcher") = true),
  decide (PySem.W.findIn K (.ref (He.ga K "Watcher")) "__setattr__" = some (some (.builtin "object.__setattr__"))),
  decide (PySem.W.findIn K (.ref (He.ga K "Watcher")) "own_bad" = some none),
  decide (PySem.W.findIn K (.ref (He.ga K "Watcher")) "own_rows" = some none),
  decide (PySem.W.findIn K (.ref (He.ga K "Watcher")) "own_start" = some none),
  decide (PySem.W.nsIn K mainGlobals "_law_bag" = some (some (.ref (He.ga K "_law_bag")))),
  decide (DXH.fdv K (He.ga K "_law_bag") = .none),
  decide (PySem.W.codeIn K (DXH.fcd K (He.ga K "_law_bag")) "_law_bag" = true),
  decide (PySem.W.keepIn K (.ref (He.ga K "_law_bag")) = true),
  decide (PySem.W.nsIn K mainGlobals "_law_pull" = some (some (.ref (He.ga K "_law_pull")))),
  decide (DXH.fdv K (He.ga K "_law_pull") = .none),
  decide (PySem.W.codeIn K (DXH.fcd K (He.ga K "_law_pull")) "_law_pull" = true),
  decide (PySem.W.keepIn K (.ref (He.ga K "_law_pull")) = true),
  decide (PySem.W.nsIn K mainGlobals "_law_watcher" = some (some (.ref (He.ga K "_law_watcher")))),
  decide (DXH.fdv K (He.ga K "_law_watcher") = .none),
  decide (PySem.W.codeIn K (DXH.fcd K (He.ga K "_law_watcher")) "_law_watcher" = true),
  decide (PySem.W.keepIn K (.ref (He.ga K "_law_watcher")) = true),
  decide (PySem.W.nsIn K mainGlobals "is_number" = some (some (.ref (He.ga K "is_number")))),
  decide (DXH.fdv K (He.ga K "is_number") = .ref (DXH.adr (DXH.fdv K (He.ga K "is_number")))),
  decide (PySem.W.codeIn K (DXH.fcd K (He.ga K "is_number")) "is_number" = true),
  decide (PySem.W.keepIn K (.ref (He.ga K "is_number")) = true),
  DXH.isSq K (DXH.adr (DXH.fdv K (He.ga K "is_number"))),
  decide ((DXH.sqi K (DXH.adr (DXH.fdv K (He.ga K "is_number")))).toList = [(.none)]),
  decide (PySem.W.nsIn K mainGlobals "is_name" = some (some (.ref (He.ga K "is_name")))),
  decide (DXH.fdv K (He.ga K "is_name") = .none),
  decide (PySem.W.codeIn K (DXH.fcd K (He.ga K "is_name")) "is_name" = true),
  decide (PySem.W.keepIn K (.ref (He.ga K "is_name")) = true)]
def ex1 (K : PySem.W.Frag) : List Bool := [
  decide (PySem.W.nsIn K mainGlobals "is_state_row" = some (some (.ref (He.ga K "is_state_row")))),
  decide (DXH.fdv K (He.ga K "is_state_row") = .none),
  decide (PySem.W.codeIn K (DXH.fcd K (He.ga K "is_state_row")) "is_state_row" = true),
  decide (PySem.W.keepIn K (.ref (He.ga K "is_state_row")) = true),
  decide (PySem.W.findIn K (.ref (He.ga K "Watcher")) "__init__" = some (some (.ref (He.ma K (He.ga K "Watcher") "__init__")))),
  decide (PySem.W.isFn K (.ref (He.ma K (He.ga K "Watcher") "__init__")) = true),
  decide (PySem.W.keepIn K (.ref (He.ga K "Watcher")) = true),
  decide (PySem.W.makesIn K (He.ga K "Watcher") = true),
  decide (DXH.fdv K (He.ma K (He.ga K "Watcher") "__init__") = .none),
  decide (DXH.fkv K (He.ma K (He.ga K "Watcher") "__init__") = .ref (DXH.adr (DXH.fkv K (He.ma K (He.ga K "Watcher") "__init__")))),
  decide (PySem.W.codeIn K (DXH.fcd K (He.ma K (He.ga K "Watcher") "__init__")) "Watcher.__init__" = true),
  decide (PySem.W.keepIn K (.ref (He.ma K (He.ga K "Watcher") "__init__")) = true),
  decide (PySem.W.nsIn K (DXH.adr (DXH.fkv K (He.ma K (He.ga K "Watcher") "__init__"))) "start" = some (some (.int 0 (DXH.tkn2 (PySem.W.nsIn K (DXH.adr (DXH.fkv K (He.ma K (He.ga K "Watcher") "__init__"))) "start"))))),
  DXH.isSq K (DXH.adr2 (PySem.W.nsIn K (DXH.adr (DXH.fkv K (He.ma K (He.ga K "Watcher") "__init__"))) "bad")),
  decide ((DXH.ocl K (DXH.adr2 (PySem.W.nsIn K (DXH.adr (DXH.fkv K (He.ma K (He.ga K "Watcher") "__init__"))) "bad"))) = .type "tuple"),
  decide ((DXH.sqi K (DXH.adr2 (PySem.W.nsIn K (DXH.adr (DXH.fkv K (He.ma K (He.ga K "Watcher") "__init__"))) "bad"))).toList = []),
  decide (PySem.W.nsIn K (DXH.adr (DXH.fkv K (He.ma K (He.ga K "Watcher") "__init__"))) "bad" = some (some (.ref (DXH.adr2 (PySem.W.nsIn K (DXH.adr (DXH.fkv K (He.ma K (He.ga K "Watcher") "__init__"))) "bad"))))),
  decide (PySem.W.nsIn K mainGlobals "_law_rule" = some (some (.ref (He.ga K "_law_rule")))),
  decide (DXH.fdv K (He.ga K "_law_rule") = .none),
  decide (PySem.W.codeIn K (DXH.fcd K (He.ga K "_law_rule")) "_law_rule" = true),
  decide (PySem.W.keepIn K (.ref (He.ga K "_law_rule")) = true),
  decide (PySem.W.nsIn K mainGlobals "_law_pick" = some (some (.ref (He.ga K "_law_pick")))),
  decide (DXH.fdv K (He.ga K "_law_pick") = .none),
  decide (PySem.W.codeIn K (DXH.fcd K (He.ga K "_law_pick")) "_law_pick" = true),
  decide (PySem.W.keepIn K (.ref (He.ga K "_law_pick")) = true),
  decide (PySem.W.nsIn K mainGlobals "_law_next" = some (some (.ref (He.ga K "_law_next")))),
  decide (DXH.fdv K (He.ga K "_law_next") = .none),
  decide (PySem.W.codeIn K (DXH.fcd K (He.ga K "_law_next")) "_law_next" = true),
  decide (PySem.W.keepIn K (.ref (He.ga K "_law_next")) = true),
  decide (PySem.W.nsIn K mainGlobals "_law_broken" = some (some (.ref (He.ga K "_law_broken"))))]
def ex2 (K : PySem.W.Frag) : List Bool := [
  decide (DXH.fdv K (He.ga K "_law_broken") = .none),
  decide (PySem.W.codeIn K (DXH.fcd K (He.ga K "_law_broken")) "_law_broken" = true),
  decide (PySem.W.keepIn K (.ref (He.ga K "_law_broken")) = true),
  decide (PySem.W.findIn K (.ref (He.ga K "Watcher")) "step" = some (some (.ref (He.ma K (He.ga K "Watcher") "step")))),
  decide (PySem.W.isFn K (.ref (He.ma K (He.ga K "Watcher") "step")) = true),
  decide (DXH.fdv K (He.ma K (He.ga K "Watcher") "step") = .none),
  decide (PySem.W.codeIn K (DXH.fcd K (He.ma K (He.ga K "Watcher") "step")) "Watcher.step" = true),
  decide (PySem.W.keepIn K (.ref (He.ma K (He.ga K "Watcher") "step")) = true),
  decide (PySem.W.findIn K (.ref (He.ga K "Watcher")) "breaks" = some (some (.ref (He.ma K (He.ga K "Watcher") "breaks")))),
  decide (PySem.W.isFn K (.ref (He.ma K (He.ga K "Watcher") "breaks")) = true),
  decide (DXH.fdv K (He.ma K (He.ga K "Watcher") "breaks") = .none),
  decide (PySem.W.codeIn K (DXH.fcd K (He.ma K (He.ga K "Watcher") "breaks")) "Watcher.breaks" = true),
  decide (PySem.W.keepIn K (.ref (He.ma K (He.ga K "Watcher") "breaks")) = true),
  decide (PySem.W.nsIn K mainGlobals "_law_same" = some (some (.ref (He.ga K "_law_same")))),
  decide (DXH.fdv K (He.ga K "_law_same") = .none),
  decide (PySem.W.codeIn K (DXH.fcd K (He.ga K "_law_same")) "_law_same" = true),
  decide (PySem.W.keepIn K (.ref (He.ga K "_law_same")) = true),
  decide (PySem.W.nsIn K mainGlobals "law" = some (some (.ref (He.ga K "law")))),
  decide (DXH.fdv K (He.ga K "law") = .none),
  decide (PySem.W.codeIn K (DXH.fcd K (He.ga K "law")) "law" = true),
  decide (PySem.W.keepIn K (.ref (He.ga K "law")) = true),
  decide (PySem.W.nsIn K mainGlobals "all" = some none),
  decide (PySem.W.nsIn K mainGlobals "bool" = some none),
  decide (PySem.W.nsIn K mainGlobals "dict" = some none),
  decide (PySem.W.nsIn K mainGlobals "enumerate" = some none),
  decide (PySem.W.nsIn K mainGlobals "int" = some none),
  decide (PySem.W.nsIn K mainGlobals "isinstance" = some none),
  decide (PySem.W.nsIn K mainGlobals "len" = some none),
  decide (PySem.W.nsIn K mainGlobals "list" = some none),
  decide (PySem.W.nsIn K mainGlobals "range" = some none)]
def ex3 (K : PySem.W.Frag) : List Bool := [
  decide (PySem.W.nsIn K mainGlobals "set" = some none),
  decide (PySem.W.nsIn K mainGlobals "sorted" = some none),
  decide (PySem.W.nsIn K mainGlobals "str" = some none),
  decide (PySem.W.nsIn K mainGlobals "tuple" = some none),
  decide (PySem.W.nsIn K mainGlobals "zip" = some none),
  decide (PySem.W.nsIn K mainGlobals "MOST_NAME" = some (some (.int 6 (DXH.tkn2 (PySem.W.nsIn K mainGlobals "MOST_NAME"))))),
  decide (PySem.W.nsIn K mainGlobals "MOST_STATES" = some (some (.int 12 (DXH.tkn2 (PySem.W.nsIn K mainGlobals "MOST_STATES"))))),
  decide (PySem.W.nsIn K mainGlobals "SMALL" = some (some (.str "abcdefghijklmnopqrstuvwxyz" (DXH.tkn2 (PySem.W.nsIn K mainGlobals "SMALL")))))]
def exs (K : PySem.W.Frag) : List Bool := ex0 K ++ (ex1 K ++ (ex2 K ++ (ex3 K)))
def df0 : List DXH.Df := [
  ⟨fun K => (He.ga K "_law_bag"), "_law_bag", "_law_bag", defArgs st_law_bag, defBody st_law_bag, defScope st_law_bag⟩,
  ⟨fun K => (He.ga K "_law_pull"), "_law_pull", "_law_pull", defArgs st_law_pull, defBody st_law_pull, defScope st_law_pull⟩,
  ⟨fun K => (He.ga K "_law_watcher"), "_law_watcher", "_law_watcher", defArgs st_law_watcher, defBody st_law_watcher, defScope st_law_watcher⟩,
  ⟨fun K => (He.ga K "is_number"), "is_number", "is_number", defArgs st_is_number, defBody st_is_number, defScope st_is_number⟩,
  ⟨fun K => (He.ga K "is_name"), "is_name", "is_name", defArgs st_is_name, defBody st_is_name, defScope st_is_name⟩,
  ⟨fun K => (He.ga K "is_state_row"), "is_state_row", "is_state_row", defArgs st_is_state_row, defBody st_is_state_row, defScope st_is_state_row⟩,
  ⟨fun K => (He.ma K (He.ga K "Watcher") "__init__"), "__init__", "Watcher.__init__", defArgs st_Watcher_init, defBody st_Watcher_init, defScope st_Watcher_init⟩,
  ⟨fun K => (He.ga K "_law_rule"), "_law_rule", "_law_rule", defArgs st_law_rule, defBody st_law_rule, defScope st_law_rule⟩,
  ⟨fun K => (He.ga K "_law_pick"), "_law_pick", "_law_pick", defArgs st_law_pick, defBody st_law_pick, defScope st_law_pick⟩,
  ⟨fun K => (He.ga K "_law_next"), "_law_next", "_law_next", defArgs st_law_next, defBody st_law_next, defScope st_law_next⟩,
  ⟨fun K => (He.ga K "_law_broken"), "_law_broken", "_law_broken", defArgs st_law_broken, defBody st_law_broken, defScope st_law_broken⟩,
  ⟨fun K => (He.ma K (He.ga K "Watcher") "step"), "step", "Watcher.step", defArgs st_Watcher_step, defBody st_Watcher_step, defScope st_Watcher_step⟩,
  ⟨fun K => (He.ma K (He.ga K "Watcher") "breaks"), "breaks", "Watcher.breaks", defArgs st_Watcher_breaks, defBody st_Watcher_breaks, defScope st_Watcher_breaks⟩,
  ⟨fun K => (He.ga K "_law_same"), "_law_same", "_law_same", defArgs st_law_same, defBody st_law_same, defScope st_law_same⟩,
  ⟨fun K => (He.ga K "law"), "law", "law", defArgs st_law, defBody st_law, defScope st_law⟩]
def dfs : List DXH.Df := df0
def tbs : List DXH.Tb := []
def nm0 : List PySem.Str := ["_wall", "__name__", "FooledError", "InvalidNumber", "InvalidWatcher", "InvalidState", "TooLarge", "is_number", "SMALL", "MOST_NAME", "is_name", "MOST_STATES", "is_state_row", "led", "paired", "Watcher", "_law_bag", "_law_pull", "_law_pick", "_law_same", "_law_watcher", "_law_rule", "_law_next", "_law_broken"]
def nms : List PySem.Str := nm0
abbrev Rw : PySem.W.OpenRow := PySem.W.OpenLaw.row PySem.Challenge.rw_fooledtest_k43_watchers_that_break
abbrev qv : Program := PySem.W.view Rw.prog [28]
abbrev hk : PySem.W.Hook := DXH.hookZ 5 exs dfs tbs
def ob (s : PySem.W.SharedT) : DXH.Al := DXH.look1 exs dfs tbs (DXH.part 5 (HandSHeadRun.getT s))
theorem ob_eq (s : PySem.W.SharedT) : ob s = hk.obs s.abs := DXH.hookZ_eq (HandSHeadRun.getT_eq s)
theorem run_f (w : World) : HandSHeadRun.RunEq Rw qv hk ob 20000 nms (w.withFollow "special-get-raises" false) := by
  intro os
  kernel_rfl
theorem run_t (w : World) : HandSHeadRun.RunEq Rw qv hk ob 20000 nms (w.withFollow "special-get-raises" true) := by
  intro os
  kernel_rfl
theorem run (w : World) : HandSHeadRun.RunEq Rw qv hk ob 20000 nms w := PySem.W.byRow2 "special-get-raises" (P := fun w => HandSHeadRun.RunEq Rw qv hk ob 20000 nms w) run_f run_t w
end L43

set_option Elab.async false
set_option linter.all false
set_option maxRecDepth 100000
set_option maxHeartbeats 0
namespace L43
open PySem PySem.Spec PyProof.Rows L2 DX
set_option linter.all false in
theorem facts {l : PySem.W.OpenLaw} {w : World} {K : PySem.W.Frag} {h : Heap} {mg : Str → Option Value} {fa : Addr} (X : K.In h) (G : h.Ns mainGlobals mg) (hfa : mg "law" = some (.ref fa)) (c : DXH.look1 exs dfs tbs K = DXH.due1 dfs tbs w) :
    ∃ g : FuncData, (∀ (s : Shared) (v : Value), BindsTo s g ⟨[v], []⟩ [("_law_script", v)]) ∧ ∀ base : Heap, K.In base → base.Ns mainGlobals mg → FnOk l.prog w K mg base (L2N.CX l.prog w) 6 fa g ["_law_script"] (spLaw K []) := by
  exact all_mk (l := l) X G hfa (f_Watcher := (He.ga K "Watcher")) (f_law_bag := (He.ga K "_law_bag")) (oc_law_bag := (DXH.ocl K (He.ga K "_law_bag"))) (kV_law_bag := (DXH.fkv K (He.ga K "_law_bag"))) (dc_law_bag := (DXH.fdoc K (He.ga K "_law_bag"))) (pm_law_bag := (DXH.fpm K (He.ga K "_law_bag"))) (cd_law_bag := (DXH.fcd K (He.ga K "_law_bag"))) (ct_law_bag := (DXH.fct K (He.ga K "_law_bag"))) (od_law_bag := (DXH.odi K (He.ga K "_law_bag"))) (an_law_bag := (DXH.fan K (He.ga K "_law_bag"))) (sl_law_bag := (DXH.osl K (He.ga K "_law_bag"))) (f_law_pull := (He.ga K "_law_pull")) (oc_law_pull := (DXH.ocl K (He.ga K "_law_pull"))) (kV_law_pull := (DXH.fkv K (He.ga K "_law_pull"))) (dc_law_pull := (DXH.fdoc K (He.ga K "_law_pull"))) (pm_law_pull := (DXH.fpm K (He.ga K "_law_pull"))) (cd_law_pull := (DXH.fcd K (He.ga K "_law_pull"))) (ct_law_pull := (DXH.fct K (He.ga K "_law_pull"))) (od_law_pull := (DXH.odi K (He.ga K "_law_pull"))) (an_law_pull := (DXH.fan K (He.ga K "_law_pull"))) (sl_law_pull := (DXH.osl K (He.ga K "_law_pull"))) (f_law_watcher := (He.ga K "_law_watcher")) (oc_law_watcher := (DXH.ocl K (He.ga K "_law_watcher"))) (kV_law_watcher := (DXH.fkv K (He.ga K "_law_watcher"))) (dc_law_watcher := (DXH.fdoc K (He.ga K "_law_watcher"))) (pm_law_watcher := (DXH.fpm K (He.ga K "_law_watcher"))) (cd_law_watcher := (DXH.fcd K (He.ga K "_law_watcher"))) (ct_law_watcher := (DXH.fct K (He.ga K "_law_watcher"))) (od_law_watcher := (DXH.odi K (He.ga K "_law_watcher"))) (an_law_watcher := (DXH.fan K (He.ga K "_law_watcher"))) (sl_law_watcher := (DXH.osl K (He.ga K "_law_watcher"))) (f_is_number := (He.ga K "is_number")) (oc_is_number := (DXH.ocl K (He.ga K "is_number"))) (kV_is_number := (DXH.fkv K (He.ga K "is_number"))) (dc_is_number := (DXH.fdoc K (He.ga K "is_number"))) (pm_is_number := (DXH.fpm K (He.ga K "is_number"))) (cd_is_number := (DXH.fcd K (He.ga K "is_number"))) (ct_is_number := (DXH.fct K (He.ga K "is_number"))) (od_is_number := (DXH.odi K (He.ga K "is_number"))) (an_is_number := (DXH.fan K (He.ga K "is_number"))) (sl_is_number := (DXH.osl K (He.ga K "is_number"))) (dT_is_number := (DXH.adr (DXH.fdv K (He.ga K "is_number")))) (dc2_is_number := (DXH.ocl K (DXH.adr (DXH.fdv K (He.ga K "is_number"))))) (dd_is_number := (DXH.odi K (DXH.adr (DXH.fdv K (He.ga K "is_number"))))) (di_is_number := (DXH.sqi K (DXH.adr (DXH.fdv K (He.ga K "is_number"))))) (dn_is_number := (DXH.sqn K (DXH.adr (DXH.fdv K (He.ga K "is_number"))))) (ds_is_number := (DXH.osl K (DXH.adr (DXH.fdv K (He.ga K "is_number"))))) (f_is_name := (He.ga K "is_name")) (oc_is_name := (DXH.ocl K (He.ga K "is_name"))) (kV_is_name := (DXH.fkv K (He.ga K "is_name"))) (dc_is_name := (DXH.fdoc K (He.ga K "is_name"))) (pm_is_name := (DXH.fpm K (He.ga K "is_name"))) (cd_is_name := (DXH.fcd K (He.ga K "is_name"))) (ct_is_name := (DXH.fct K (He.ga K "is_name"))) (od_is_name := (DXH.odi K (He.ga K "is_name"))) (an_is_name := (DXH.fan K (He.ga K "is_name"))) (sl_is_name := (DXH.osl K (He.ga K "is_name"))) (f_is_state_row := (He.ga K "is_state_row")) (oc_is_state_row := (DXH.ocl K (He.ga K "is_state_row"))) (kV_is_state_row := (DXH.fkv K (He.ga K "is_state_row"))) (dc_is_state_row := (DXH.fdoc K (He.ga K "is_state_row"))) (pm_is_state_row := (DXH.fpm K (He.ga K "is_state_row"))) (cd_is_state_row := (DXH.fcd K (He.ga K "is_state_row"))) (ct_is_state_row := (DXH.fct K (He.ga K "is_state_row"))) (od_is_state_row := (DXH.odi K (He.ga K "is_state_row"))) (an_is_state_row := (DXH.fan K (He.ga K "is_state_row"))) (sl_is_state_row := (DXH.osl K (He.ga K "is_state_row"))) (f_Watcher_init := (He.ma K (He.ga K "Watcher") "__init__")) (oc_Watcher_init := (DXH.ocl K (He.ma K (He.ga K "Watcher") "__init__"))) (dc_Watcher_init := (DXH.fdoc K (He.ma K (He.ga K "Watcher") "__init__"))) (pm_Watcher_init := (DXH.fpm K (He.ma K (He.ga K "Watcher") "__init__"))) (cd_Watcher_init := (DXH.fcd K (He.ma K (He.ga K "Watcher") "__init__"))) (ct_Watcher_init := (DXH.fct K (He.ma K (He.ga K "Watcher") "__init__"))) (od_Watcher_init := (DXH.odi K (He.ma K (He.ga K "Watcher") "__init__"))) (an_Watcher_init := (DXH.fan K (He.ma K (He.ga K "Watcher") "__init__"))) (sl_Watcher_init := (DXH.osl K (He.ma K (He.ga K "Watcher") "__init__"))) (kD_Watcher_init := (DXH.adr (DXH.fkv K (He.ma K (He.ga K "Watcher") "__init__")))) (dkw_Watcher_init_0 := (DXH.tkn2 (PySem.W.nsIn K (DXH.adr (DXH.fkv K (He.ma K (He.ga K "Watcher") "__init__"))) "start"))) (dz_Watcher_init := (DXH.adr2 (PySem.W.nsIn K (DXH.adr (DXH.fkv K (He.ma K (He.ga K "Watcher") "__init__"))) "bad"))) (zc_Watcher_init := (DXH.ocl K (DXH.adr2 (PySem.W.nsIn K (DXH.adr (DXH.fkv K (He.ma K (He.ga K "Watcher") "__init__"))) "bad")))) (zd_Watcher_init := (DXH.odi K (DXH.adr2 (PySem.W.nsIn K (DXH.adr (DXH.fkv K (He.ma K (He.ga K "Watcher") "__init__"))) "bad")))) (zi_Watcher_init := (DXH.sqi K (DXH.adr2 (PySem.W.nsIn K (DXH.adr (DXH.fkv K (He.ma K (He.ga K "Watcher") "__init__"))) "bad")))) (zn_Watcher_init := (DXH.sqn K (DXH.adr2 (PySem.W.nsIn K (DXH.adr (DXH.fkv K (He.ma K (He.ga K "Watcher") "__init__"))) "bad")))) (zs_Watcher_init := (DXH.osl K (DXH.adr2 (PySem.W.nsIn K (DXH.adr (DXH.fkv K (He.ma K (He.ga K "Watcher") "__init__"))) "bad")))) (f_law_rule := (He.ga K "_law_rule")) (oc_law_rule := (DXH.ocl K (He.ga K "_law_rule"))) (kV_law_rule := (DXH.fkv K (He.ga K "_law_rule"))) (dc_law_rule := (DXH.fdoc K (He.ga K "_law_rule"))) (pm_law_rule := (DXH.fpm K (He.ga K "_law_rule"))) (cd_law_rule := (DXH.fcd K (He.ga K "_law_rule"))) (ct_law_rule := (DXH.fct K (He.ga K "_law_rule"))) (od_law_rule := (DXH.odi K (He.ga K "_law_rule"))) (an_law_rule := (DXH.fan K (He.ga K "_law_rule"))) (sl_law_rule := (DXH.osl K (He.ga K "_law_rule"))) (f_law_pick := (He.ga K "_law_pick")) (oc_law_pick := (DXH.ocl K (He.ga K "_law_pick"))) (kV_law_pick := (DXH.fkv K (He.ga K "_law_pick"))) (dc_law_pick := (DXH.fdoc K (He.ga K "_law_pick"))) (pm_law_pick := (DXH.fpm K (He.ga K "_law_pick"))) (cd_law_pick := (DXH.fcd K (He.ga K "_law_pick"))) (ct_law_pick := (DXH.fct K (He.ga K "_law_pick"))) (od_law_pick := (DXH.odi K (He.ga K "_law_pick"))) (an_law_pick := (DXH.fan K (He.ga K "_law_pick"))) (sl_law_pick := (DXH.osl K (He.ga K "_law_pick"))) (f_law_next := (He.ga K "_law_next")) (oc_law_next := (DXH.ocl K (He.ga K "_law_next"))) (kV_law_next := (DXH.fkv K (He.ga K "_law_next"))) (dc_law_next := (DXH.fdoc K (He.ga K "_law_next"))) (pm_law_next := (DXH.fpm K (He.ga K "_law_next"))) (cd_law_next := (DXH.fcd K (He.ga K "_law_next"))) (ct_law_next := (DXH.fct K (He.ga K "_law_next"))) (od_law_next := (DXH.odi K (He.ga K "_law_next"))) (an_law_next := (DXH.fan K (He.ga K "_law_next"))) (sl_law_next := (DXH.osl K (He.ga K "_law_next"))) (f_law_broken := (He.ga K "_law_broken")) (oc_law_broken := (DXH.ocl K (He.ga K "_law_broken"))) (kV_law_broken := (DXH.fkv K (He.ga K "_law_broken"))) (dc_law_broken := (DXH.fdoc K (He.ga K "_law_broken"))) (pm_law_broken := (DXH.fpm K (He.ga K "_law_broken"))) (cd_law_broken := (DXH.fcd K (He.ga K "_law_broken"))) (ct_law_broken := (DXH.fct K (He.ga K "_law_broken"))) (od_law_broken := (DXH.odi K (He.ga K "_law_broken"))) (an_law_broken := (DXH.fan K (He.ga K "_law_broken"))) (sl_law_broken := (DXH.osl K (He.ga K "_law_broken"))) (f_Watcher_step := (He.ma K (He.ga K "Watcher") "step")) (oc_Watcher_step := (DXH.ocl K (He.ma K (He.ga K "Watcher") "step"))) (kV_Watcher_step := (DXH.fkv K (He.ma K (He.ga K "Watcher") "step"))) (dc_Watcher_step := (DXH.fdoc K (He.ma K (He.ga K "Watcher") "step"))) (pm_Watcher_step := (DXH.fpm K (He.ma K (He.ga K "Watcher") "step"))) (cd_Watcher_step := (DXH.fcd K (He.ma K (He.ga K "Watcher") "step"))) (ct_Watcher_step := (DXH.fct K (He.ma K (He.ga K "Watcher") "step"))) (od_Watcher_step := (DXH.odi K (He.ma K (He.ga K "Watcher") "step"))) (an_Watcher_step := (DXH.fan K (He.ma K (He.ga K "Watcher") "step"))) (sl_Watcher_step := (DXH.osl K (He.ma K (He.ga K "Watcher") "step"))) (f_Watcher_breaks := (He.ma K (He.ga K "Watcher") "breaks")) (oc_Watcher_breaks := (DXH.ocl K (He.ma K (He.ga K "Watcher") "breaks"))) (kV_Watcher_breaks := (DXH.fkv K (He.ma K (He.ga K "Watcher") "breaks"))) (dc_Watcher_breaks := (DXH.fdoc K (He.ma K (He.ga K "Watcher") "breaks"))) (pm_Watcher_breaks := (DXH.fpm K (He.ma K (He.ga K "Watcher") "breaks"))) (cd_Watcher_breaks := (DXH.fcd K (He.ma K (He.ga K "Watcher") "breaks"))) (ct_Watcher_breaks := (DXH.fct K (He.ma K (He.ga K "Watcher") "breaks"))) (od_Watcher_breaks := (DXH.odi K (He.ma K (He.ga K "Watcher") "breaks"))) (an_Watcher_breaks := (DXH.fan K (He.ma K (He.ga K "Watcher") "breaks"))) (sl_Watcher_breaks := (DXH.osl K (He.ma K (He.ga K "Watcher") "breaks"))) (f_law_same := (He.ga K "_law_same")) (oc_law_same := (DXH.ocl K (He.ga K "_law_same"))) (kV_law_same := (DXH.fkv K (He.ga K "_law_same"))) (dc_law_same := (DXH.fdoc K (He.ga K "_law_same"))) (pm_law_same := (DXH.fpm K (He.ga K "_law_same"))) (cd_law_same := (DXH.fcd K (He.ga K "_law_same"))) (ct_law_same := (DXH.fct K (He.ga K "_law_same"))) (od_law_same := (DXH.odi K (He.ga K "_law_same"))) (an_law_same := (DXH.fan K (He.ga K "_law_same"))) (sl_law_same := (DXH.osl K (He.ga K "_law_same"))) (f_law := (He.ga K "law")) (oc_law := (DXH.ocl K (He.ga K "law"))) (kV_law := (DXH.fkv K (He.ga K "law"))) (dc_law := (DXH.fdoc K (He.ga K "law"))) (pm_law := (DXH.fpm K (He.ga K "law"))) (cd_law := (DXH.fcd K (He.ga K "law"))) (ct_law := (DXH.fct K (He.ga K "law"))) (od_law := (DXH.odi K (He.ga K "law"))) (an_law := (DXH.fan K (He.ga K "law"))) (sl_law := (DXH.osl K (He.ga K "law"))) (tk_MOST_NAME := (DXH.tkn2 (PySem.W.nsIn K mainGlobals "MOST_NAME"))) (tk_MOST_STATES := (DXH.tkn2 (PySem.W.nsIn K mainGlobals "MOST_STATES"))) (tk_SMALL := (DXH.tkn2 (PySem.W.nsIn K mainGlobals "SMALL")))
    (DXH.says c 0 rfl)
    (DXH.says c 1 rfl)
    (DXH.says c 2 rfl)
    (DXH.says c 3 rfl)
    (DXH.says c 4 rfl)
    (DXH.says c 5 rfl)
    (DXH.says c 6 rfl)
    (DXH.says c 7 rfl)
    (DXH.says c 8 rfl)
    (DXH.look (DXH.defs c 0 rfl) (DXH.says c 9 rfl) rfl)
    (DXH.says c 10 rfl)
    (DXH.says c 11 rfl)
    (DXH.says c 12 rfl)
    (DXH.look (DXH.defs c 1 rfl) (DXH.says c 13 rfl) rfl)
    (DXH.says c 14 rfl)
    (DXH.says c 15 rfl)
    (DXH.says c 16 rfl)
    (DXH.look (DXH.defs c 2 rfl) (DXH.says c 17 rfl) rfl)
    (DXH.says c 18 rfl)
    (DXH.says c 19 rfl)
    (DXH.says c 20 rfl)
    (DXH.look (DXH.defs c 3 rfl) (DXH.says c 21 rfl) rfl)
    (DXH.says c 22 rfl)
    (DXH.says c 23 rfl)
    (DXH.isSq_ok (DXH.tells c 24 rfl))
    (DXH.says c 25 rfl)
    (DXH.says c 26 rfl)
    (DXH.look (DXH.defs c 4 rfl) (DXH.says c 27 rfl) rfl)
    (DXH.says c 28 rfl)
    (DXH.says c 29 rfl)
    (DXH.says c 30 rfl)
    (DXH.look (DXH.defs c 5 rfl) (DXH.says c 31 rfl) rfl)
    (DXH.says c 32 rfl)
    (DXH.says c 33 rfl)
    (DXH.says c 34 rfl)
    (DXH.says c 35 rfl)
    (DXH.says c 36 rfl)
    (DXH.says c 37 rfl)
    (DXH.look (DXH.defs c 6 rfl) (DXH.says c 38 rfl) (DXH.says c 39 rfl))
    (DXH.says c 40 rfl)
    (DXH.says c 41 rfl)
    (DXH.says c 42 rfl)
    (DXH.isSq_ok (DXH.tells c 43 rfl))
    (DXH.says c 44 rfl)
    (DXH.says c 45 rfl)
    (DXH.says c 46 rfl)
    (DXH.says c 47 rfl)
    (DXH.look (DXH.defs c 7 rfl) (DXH.says c 48 rfl) rfl)
    (DXH.says c 49 rfl)
    (DXH.says c 50 rfl)
    (DXH.says c 51 rfl)
    (DXH.look (DXH.defs c 8 rfl) (DXH.says c 52 rfl) rfl)
    (DXH.says c 53 rfl)
    (DXH.says c 54 rfl)
    (DXH.says c 55 rfl)
    (DXH.look (DXH.defs c 9 rfl) (DXH.says c 56 rfl) rfl)
    (DXH.says c 57 rfl)
    (DXH.says c 58 rfl)
    (DXH.says c 59 rfl)
    (DXH.look (DXH.defs c 10 rfl) (DXH.says c 60 rfl) rfl)
    (DXH.says c 61 rfl)
    (DXH.says c 62 rfl)
    (DXH.says c 63 rfl)
    (DXH.says c 64 rfl)
    (DXH.look (DXH.defs c 11 rfl) (DXH.says c 65 rfl) rfl)
    (DXH.says c 66 rfl)
    (DXH.says c 67 rfl)
    (DXH.says c 68 rfl)
    (DXH.says c 69 rfl)
    (DXH.look (DXH.defs c 12 rfl) (DXH.says c 70 rfl) rfl)
    (DXH.says c 71 rfl)
    (DXH.says c 72 rfl)
    (DXH.says c 73 rfl)
    (DXH.look (DXH.defs c 13 rfl) (DXH.says c 74 rfl) rfl)
    (DXH.says c 75 rfl)
    (DXH.says c 76 rfl)
    (DXH.says c 77 rfl)
    (DXH.look (DXH.defs c 14 rfl) (DXH.says c 78 rfl) rfl)
    (DXH.says c 79 rfl)
    (DXH.says c 80 rfl)
    (DXH.says c 81 rfl)
    (DXH.says c 82 rfl)
    (DXH.says c 83 rfl)
    (DXH.says c 84 rfl)
    (DXH.says c 85 rfl)
    (DXH.says c 86 rfl)
    (DXH.says c 87 rfl)
    (DXH.says c 88 rfl)
    (DXH.says c 89 rfl)
    (DXH.says c 90 rfl)
    (DXH.says c 91 rfl)
    (DXH.says c 92 rfl)
    (DXH.says c 93 rfl)
    (DXH.says c 94 rfl)
    (DXH.says c 95 rfl)
    (DXH.says c 96 rfl)
    (DXH.says c 97 rfl)
end L43

set_option Elab.async false
set_option linter.all false
set_option maxRecDepth 100000
set_option maxHeartbeats 0
open PySem PySem.W PySem.Calls PyProof.Rows
theorem PySem.Challenge.cw_fooledtest_k43_watchers_that_break_holds : PySem.Challenge.rw_fooledtest_k43_watchers_that_break.Holds := by
  w_on; o_law
  refine HandSHeadRun.head_any (r := OpenLaw.row PySem.Challenge.rw_fooledtest_k43_watchers_that_break) (q := view (OpenLaw.row PySem.Challenge.rw_fooledtest_k43_watchers_that_break).prog [28]) (H := L43.hk) (ob := L43.ob) (M := 20000) (loose := L43.nms) (d := HandSHeadRun.topDef (OpenLaw.row PySem.Challenge.rw_fooledtest_k43_watchers_that_break).prog 28) (kwd := []) L43.ob_eq
    (by kernel_rfl) (fun s => by kernel_rfl) L43.run (by kernel_rfl) (by kernel_rfl) (by kernel_rfl) (by rfl) (by first | assumption | decide +kernel) (by decide +kernel) ⟨rfl, rfl, rfl, rfl, rfl, by decide +kernel⟩ ?hw ?hc
  case hw => w_witness2
  case hc =>
    refine DXH.walk_end (l := PySem.Challenge.rw_fooledtest_k43_watchers_that_break) (n := 63) (k := 6) (x := "_law_script") (CX := fun w => L2N.CX PySem.Challenge.rw_fooledtest_k43_watchers_that_break.prog w) rfl (by decide) (by kernel_rfl) ⟨rfl, by decide, by decide⟩ ?F (fun _ _ _ _ _ ⟨_, _, _, _, _, _, _, _, _, _, _, _, z⟩ => z)
    intro w mg fa h Y G hmg0
    obtain ⟨K, iK, c⟩ := Y
    have hmg : mg ("law" : PySem.Str) = some (.ref fa) := by
      have e : (HandSHeadRun.topDef (OpenLaw.row PySem.Challenge.rw_fooledtest_k43_watchers_that_break).prog 28).name = ("law" : PySem.Str) := by kernel_rfl
      rw [← e]
      exact hmg0
    obtain ⟨g, hb, hF⟩ := L43.facts (l := PySem.Challenge.rw_fooledtest_k43_watchers_that_break) (w := w) iK G hmg c
    exact ⟨K, g, DX.spLaw K [], iK, hb, fun H a ns hl _ hS => ⟨a, ns, rfl, hS, hl, fun _ => rfl, fun _ z => nomatch z⟩, hF⟩
