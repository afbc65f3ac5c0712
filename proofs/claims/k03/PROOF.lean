import PyProof.Rows.All
import HandS.ForMost
import HandS.ForExc
import HandS.Lambda
import HandS.ExcCtx
import HandS.Deep
import HandS.Wide
import HandS.IsInst
import HandS.Star
import HandS.RaiseMore
import HandS.Zip
import HandS.TupAny
import HandS.TupMul
import HandS.Small
import HandS.Flow
import HandS.Evl
import HandS.Words
import HandS.WordsExc
import HandS.ExcOwn
import HandS.Property
import HandS.Defaults
import HandS.MakeKwOnly
import HandS.Comp
import HandS.Iter
import PyProof.InstEq
import KE.KFmtOwn
import HandS.MethStar
import HandS.ClsMeth
import HandS.More
import HandS.Codes
import HandS.NamedTupGet
import OpenK.AllK
import KE.GoesEnum
import HandS.FStr
import HandS.Text
import KE.KxField
import PyProof.InstSpecial
import PyProof.Conv_bool
import HandS.TupSets
import HandS.SetFor
import HandS.Head0
import HandS.Head1
import HandS.Head2
import HandS.HeadEnd
import HandS.HeadHook1
import HandS.HeadHook2
import HandS.HeadHook3
import HandS.MakeKw
import HandS.Ends
import PySem.Challenge.RW_fooledtest_k03_regions_made
set_option Elab.async false
set_option linter.all false
set_option maxRecDepth 100000
namespace DX
open PySem L2

inductive D where
  | non | bl (b : Bool) | int (i : Int) | str (s : Str) | lst (l : List D) | tup (l : List D)
  | ins (C : String) (l : List (String × D)) | dct (l : List (Key × D)) | cls (C : String) | ty (n : String)
inductive W where
  | d (x : D) | ref (a : Addr) | tup (l : List W)
inductive Cell where
  | lst (l : List W) | obj (C : String) (l : List (String × W)) | dct (l : List (Key × W)) | dctT (l : List (List Key × W))
abbrev Store := Addr → Option Cell
abbrev Slots := List (Option W)
structure Exn where
  C : String
  fs : List (String × W)

noncomputable def clsAt (K : PySem.W.Frag) (C : String) : Addr := match PySem.W.nsIn K mainGlobals (Str.ofString C) with
  | some (some (.ref a)) => a
  | _ => 0

mutual
inductive DV (K : PySem.W.Frag) (G : Hp) : V → D → Prop
  | non : DV K G .non .non
  | bl (b : Bool) : DV K G (.bl b) (.bl b)
  | int (i : Int) : DV K G (.int i) (.int i)
  | str (s : Str) : DV K G (.str s) (.str s)
  | lst {a : Addr} {xs : List V} {ds : List D} : G a = some (.lst xs) → DVs K G xs ds → DV K G (.ref a) (.lst ds)
  | tup {a : Addr} {xs : List V} {ds : List D} : SqT K G a xs → DVs K G xs ds → DV K G (.ref a) (.tup ds)
  | ins {a dx : Addr} {C : String} {fs : List (Str × V)} {gs : List (String × D)} : G a = some (.ins (clsAt K C) dx fs) → DVf K G fs gs → DV K G (.ref a) (.ins C gs)
  | dct {a : Addr} {fs : List (Key × V)} {gs : List (Key × D)} : G a = some (.dK fs) → DVk K G fs gs → DV K G (.ref a) (.dct gs)
  | cls (C : String) : DV K G (.ref (clsAt K C)) (.cls C)
  | ty (n : String) : DV K G (.ty n) (.ty n)
inductive DVs (K : PySem.W.Frag) (G : Hp) : List V → List D → Prop
  | nil : DVs K G [] []
  | cons {v : V} {vs : List V} {d : D} {ds : List D} : DV K G v d → DVs K G vs ds → DVs K G (v :: vs) (d :: ds)
inductive DVf (K : PySem.W.Frag) (G : Hp) : List (Str × V) → List (String × D) → Prop
  | nil : DVf K G [] []
  | cons {f : String} {v : V} {vs : List (Str × V)} {d : D} {ds : List (String × D)} : DV K G v d → DVf K G vs ds → DVf K G ((Str.ofString f, v) :: vs) ((f, d) :: ds)
inductive DVk (K : PySem.W.Frag) (G : Hp) : List (Key × V) → List (Key × D) → Prop
  | nil : DVk K G [] []
  | cons {f : Key} {v : V} {vs : List (Key × V)} {d : D} {ds : List (Key × D)} : DV K G v d → DVk K G vs ds → DVk K G ((f, v) :: vs) ((f, d) :: ds)
end
mutual
inductive Wv (K : PySem.W.Frag) (G : Hp) : V → W → Prop
  | d {v : V} {x : D} : DV K G v x → Wv K G v (.d x)
  | ref (a : Addr) : Wv K G (.ref a) (.ref a)
  | tup {a : Addr} {xs : List V} {ws : List W} : SqT K G a xs → Wvs K G xs ws → Wv K G (.ref a) (.tup ws)
inductive Wvs (K : PySem.W.Frag) (G : Hp) : List V → List W → Prop
  | nil : Wvs K G [] []
  | cons {v : V} {vs : List V} {w : W} {ws : List W} : Wv K G v w → Wvs K G vs ws → Wvs K G (v :: vs) (w :: ws)
end
inductive Wvf (K : PySem.W.Frag) (G : Hp) : List (Str × V) → List (String × W) → Prop
  | nil : Wvf K G [] []
  | cons {f : String} {v : V} {vs : List (Str × V)} {w : W} {ws : List (String × W)} : Wv K G v w → Wvf K G vs ws → Wvf K G ((Str.ofString f, v) :: vs) ((f, w) :: ws)
inductive Wvk {κ : Type} (K : PySem.W.Frag) (G : Hp) : List (κ × V) → List (κ × W) → Prop
  | nil : Wvk K G [] []
  | cons {f : κ} {v : V} {vs : List (κ × V)} {w : W} {ws : List (κ × W)} : Wv K G v w → Wvk K G vs ws → Wvk K G ((f, v) :: vs) ((f, w) :: ws)

def Sub (G G' : Hp) : Prop := ∀ a o, G a = some o → G' a = some o
theorem Sub.refl (G : Hp) : Sub G G := fun _ _ h => h
theorem Sub.trans {G G1 G2 : Hp} (a : Sub G G1) (b : Sub G1 G2) : Sub G G2 := fun x o h => b x o (a x o h)
theorem Sub.rd {G G' : Hp} (s : Sub G G') {a : Addr} {u : HO} (h : Rd G a u) : Rd G' a u := by
  rcases h with h | ⟨o, h⟩
  · exact .inl (s _ _ h)
  · exact .inr ⟨o, s _ _ h⟩
theorem sqL {K : PySem.W.Frag} {H : Hp} {a : Addr} {xs : List V} (h : H a = some (.lst xs)) : SqL K H a xs := .inl (.inl h)
theorem sqT {K : PySem.W.Frag} {H : Hp} {a : Addr} {xs : List V} (h : H a = some (.tup xs)) : SqT K H a xs := .inl (.inl h)
theorem Sub.t {K : PySem.W.Frag} {G G' : Hp} (s : Sub G G') {a : Addr} {xs : List V} (h : SqT K G a xs) : SqT K G' a xs := by
  rcases h with h | h
  · exact .inl (s.rd h)
  · exact .inr h
mutual
theorem DV.mono {K : PySem.W.Frag} {G G' : Hp} (s : Sub G G') : ∀ {v : V} {d : D}, DV K G v d → DV K G' v d
  | _, _, .non => .non
  | _, _, .bl b => .bl b
  | _, _, .int i => .int i
  | _, _, .str i => .str i
  | _, _, .lst h r => .lst (s _ _ h) (DVs.mono s r)
  | _, _, .tup h r => .tup (s.t h) (DVs.mono s r)
  | _, _, .ins h r => .ins (s _ _ h) (DVf.mono s r)
  | _, _, .dct h r => .dct (s _ _ h) (DVk.mono s r)
  | _, _, .cls c => .cls c
  | _, _, .ty c => .ty c
theorem DVs.mono {K : PySem.W.Frag} {G G' : Hp} (s : Sub G G') : ∀ {v : List V} {d : List D}, DVs K G v d → DVs K G' v d
  | _, _, .nil => .nil
  | _, _, .cons h r => .cons (DV.mono s h) (DVs.mono s r)
theorem DVf.mono {K : PySem.W.Frag} {G G' : Hp} (s : Sub G G') : ∀ {v : List (Str × V)} {d : List (String × D)}, DVf K G v d → DVf K G' v d
  | _, _, .nil => .nil
  | _, _, .cons h r => .cons (DV.mono s h) (DVf.mono s r)
theorem DVk.mono {K : PySem.W.Frag} {G G' : Hp} (s : Sub G G') : ∀ {v : List (Key × V)} {d : List (Key × D)}, DVk K G v d → DVk K G' v d
  | _, _, .nil => .nil
  | _, _, .cons h r => .cons (DV.mono s h) (DVk.mono s r)
end
mutual
theorem Wv.mono {K : PySem.W.Frag} {G G' : Hp} (s : Sub G G') : ∀ {v : V} {d : W}, Wv K G v d → Wv K G' v d
  | _, _, .d h => .d (h.mono s)
  | _, _, .ref a => .ref a
  | _, _, .tup h r => .tup (s.t h) (Wvs.mono s r)
theorem Wvs.mono {K : PySem.W.Frag} {G G' : Hp} (s : Sub G G') : ∀ {v : List V} {d : List W}, Wvs K G v d → Wvs K G' v d
  | _, _, .nil => .nil
  | _, _, .cons h r => .cons (Wv.mono s h) (Wvs.mono s r)
end
theorem Wvf.mono {K : PySem.W.Frag} {G G' : Hp} (s : Sub G G') : ∀ {v : List (Str × V)} {d : List (String × W)}, Wvf K G v d → Wvf K G' v d
  | _, _, .nil => .nil
  | _, _, .cons h r => .cons (h.mono s) (Wvf.mono s r)
theorem Wvk.mono {κ : Type} {K : PySem.W.Frag} {G G' : Hp} (s : Sub G G') : ∀ {v : List (κ × V)} {d : List (κ × W)}, Wvk K G v d → Wvk K G' v d
  | _, _, .nil => .nil
  | _, _, .cons h r => .cons (h.mono s) (Wvk.mono s r)
section
variable {K : PySem.W.Frag} {G : Hp} {v : V}
theorem DV.to_int {i : Int} (h : DV K G v (.int i)) : v = .int i := by cases h; rfl
theorem DV.to_bl {b : Bool} (h : DV K G v (.bl b)) : v = .bl b := by cases h; rfl
theorem DV.to_str {s : Str} (h : DV K G v (.str s)) : v = .str s := by cases h; rfl
theorem DV.to_non (h : DV K G v .non) : v = .non := by cases h; rfl
theorem DV.to_lst {ds : List D} (h : DV K G v (.lst ds)) : ∃ a xs, v = .ref a ∧ G a = some (.lst xs) ∧ DVs K G xs ds := by
  cases h with | lst h r => exact ⟨_, _, rfl, h, r⟩
theorem DV.to_tup {ds : List D} (h : DV K G v (.tup ds)) : ∃ a xs, v = .ref a ∧ SqT K G a xs ∧ DVs K G xs ds := by
  cases h with | tup h r => exact ⟨_, _, rfl, h, r⟩
theorem DV.to_ins {C : String} {gs : List (String × D)} (h : DV K G v (.ins C gs)) : ∃ a dx fs, v = .ref a ∧ G a = some (.ins (clsAt K C) dx fs) ∧ DVf K G fs gs := by
  cases h with | ins h r => exact ⟨_, _, _, rfl, h, r⟩
theorem DV.to_dct {gs : List (Key × D)} (h : DV K G v (.dct gs)) : ∃ a fs, v = .ref a ∧ G a = some (.dK fs) ∧ DVk K G fs gs := by
  cases h with | dct h r => exact ⟨_, _, rfl, h, r⟩
theorem Wv.to_d {x : D} (h : Wv K G v (.d x)) : DV K G v x := by cases h; assumption
theorem Wv.to_ref {a : Addr} (h : Wv K G v (.ref a)) : v = .ref a := by cases h; rfl
theorem Wv.to_tup {ws : List W} (h : Wv K G v (.tup ws)) : ∃ a xs, v = .ref a ∧ SqT K G a xs ∧ Wvs K G xs ws := by
  cases h with | tup h r => exact ⟨_, _, rfl, h, r⟩
theorem DVs.length : ∀ {vs : List V} {ds : List D}, DVs K G vs ds → vs.length = ds.length
  | _, _, .nil => rfl
  | _, _, .cons _ r => congrArg (· + 1) (DVs.length r)
theorem Wvs.length : ∀ {vs : List V} {ds : List W}, Wvs K G vs ds → vs.length = ds.length
  | _, _, .nil => rfl
  | _, _, .cons _ r => congrArg (· + 1) (Wvs.length r)
theorem DVs.w : ∀ {vs : List V} {ds : List D}, DVs K G vs ds → Wvs K G vs (ds.map .d)
  | _, _, .nil => .nil
  | _, _, .cons h r => .cons (.d h) (DVs.w r)
theorem Wvs.ds : ∀ {vs : List V} {ds : List D}, Wvs K G vs (ds.map .d) → DVs K G vs ds
  | _, [], .nil => .nil
  | _, _ :: _, .cons h r => .cons h.to_d (Wvs.ds r)
theorem DVs.get : ∀ {vs : List V} {ds : List D} {i : Nat} {d : D}, DVs K G vs ds → ds[i]? = some d → ∃ v, vs[i]? = some v ∧ DV K G v d
  | _, _, _, _, .nil, e => by simp at e
  | _, _, 0, _, .cons h _, e => by
    simp at e
    subst e
    exact ⟨_, rfl, h⟩
  | _, _, i + 1, _, .cons _ r, e => by
    obtain ⟨v, h1, h2⟩ := DVs.get (i := i) r (by simpa using e)
    exact ⟨v, by simpa using h1, h2⟩
theorem Wvs.get : ∀ {vs : List V} {ds : List W} {i : Nat} {d : W}, Wvs K G vs ds → ds[i]? = some d → ∃ v, vs[i]? = some v ∧ Wv K G v d
  | _, _, _, _, .nil, e => by simp at e
  | _, _, 0, _, .cons h _, e => by
    simp at e
    subst e
    exact ⟨_, rfl, h⟩
  | _, _, i + 1, _, .cons _ r, e => by
    obtain ⟨v, h1, h2⟩ := Wvs.get (i := i) r (by simpa using e)
    exact ⟨v, by simpa using h1, h2⟩
theorem Wvs.append : ∀ {vs ws : List V} {ds es : List W}, Wvs K G vs ds → Wvs K G ws es → Wvs K G (vs ++ ws) (ds ++ es)
  | _, _, _, _, .nil, s => s
  | _, _, _, _, .cons h r, s => .cons h (Wvs.append r s)
theorem Wvs.set {v : V} {d : W} (h : Wv K G v d) : ∀ {vs : List V} {ds : List W} (i : Nat), Wvs K G vs ds → Wvs K G (vs.set i v) (ds.set i d)
  | _, _, _, .nil => .nil
  | _, _, 0, .cons _ r => .cons h r
  | _, _, i + 1, .cons q r => .cons q (Wvs.set h i r)
theorem Wvs.take : ∀ {vs : List V} {ds : List W} (n : Nat), Wvs K G vs ds → Wvs K G (vs.take n) (ds.take n)
  | _, _, 0, _ => .nil
  | _, _, _ + 1, .nil => .nil
  | _, _, n + 1, .cons h r => .cons h (Wvs.take n r)
theorem Wvs.drop : ∀ {vs : List V} {ds : List W} (n : Nat), Wvs K G vs ds → Wvs K G (vs.drop n) (ds.drop n)
  | _, _, 0, r => r
  | _, _, _ + 1, .nil => .nil
  | _, _, n + 1, .cons _ r => Wvs.drop n r
theorem Wvs.eraseIdx {vs : List V} {ds : List W} (n : Nat) (h : Wvs K G vs ds) : Wvs K G (vs.eraseIdx n) (ds.eraseIdx n) := by
  rw [List.eraseIdx_eq_take_drop_succ, List.eraseIdx_eq_take_drop_succ]
  exact (h.take n).append (h.drop (n + 1))
theorem Wvs.flat {vs : List V} {ds : List W} (h : Wvs K G vs ds) : ∀ n, Wvs K G (List.replicate n vs).flatten (List.replicate n ds).flatten
  | 0 => .nil
  | n + 1 => by
    rw [List.replicate_succ, List.replicate_succ, List.flatten_cons, List.flatten_cons]
    exact h.append (Wvs.flat h n)
theorem Wvs.ints : ∀ {vs : List V} {ns : List Int}, Wvs K G vs (ns.map fun i => .d (.int i)) → vs = ns.map V.int
  | _, [], .nil => rfl
  | _, n :: ns, .cons h r => by
    rw [Wvs.ints r, h.to_d.to_int]
    rfl
theorem Wvs.bls : ∀ {vs : List V} {ns : List Bool}, Wvs K G vs (ns.map fun i => .d (.bl i)) → vs = ns.map V.bl
  | _, [], .nil => rfl
  | _, n :: ns, .cons h r => by
    rw [Wvs.bls r, h.to_d.to_bl]
    rfl
end
theorem ofString_inj {a b : String} (h : Str.ofString a = Str.ofString b) : a = b := by
  rw [Str.ofString_eq_toList, Str.ofString_eq_toList] at h
  have h1 : (a.toList.map Char.toNat).toArray = (b.toList.map Char.toNat).toArray := by injection h
  have h2 : a.toList.map Char.toNat = b.toList.map Char.toNat := by
    have := congrArg Array.toList h1
    simpa using this
  have inj : ∀ l m : List Char, l.map Char.toNat = m.map Char.toNat → l = m := by
    intro l
    induction l with
    | nil => intro m e; cases m with
      | nil => rfl
      | cons c m => cases e
    | cons c l ih => intro m e; cases m with
      | nil => cases e
      | cons d m =>
        simp only [List.map_cons, List.cons.injEq] at e
        rw [ih m e.2, Char.toNat_inj.mp e.1]
  have h3 := inj _ _ h2
  rw [← String.ofList_toList (s := a), ← String.ofList_toList (s := b), h3]
theorem ofString_eq (a b : String) : (Str.ofString a = Str.ofString b) = (a = b) := propext ⟨ofString_inj, fun h => by rw [h]⟩
theorem ofString_beq (a b : String) : (Str.ofString a == Str.ofString b) = (a == b) := by
  by_cases h : a = b
  · subst h; simp
  · have h2 : Str.ofString a ≠ Str.ofString b := fun z => h (ofString_inj z)
    rw [beq_eq_false_iff_ne.mpr h, beq_eq_false_iff_ne.mpr h2]
end DX

set_option Elab.async false
set_option linter.all false
set_option maxRecDepth 100000
namespace DX
open PySem L2

def upS (S : Store) (a : Addr) (c : Cell) : Store := fun b => if b = a then some c else S b
def erS (S : Store) (a : Addr) : Store := fun b => if b = a then none else S b
theorem upS_same {S : Store} {a : Addr} {c : Cell} : upS S a c a = some c := if_pos rfl
theorem upS_ne {S : Store} {a b : Addr} {c : Cell} (h : b ≠ a) : upS S a c b = S b := if_neg h
theorem erS_same {S : Store} {a : Addr} : erS S a a = none := if_pos rfl
theorem erS_ne {S : Store} {a b : Addr} (h : b ≠ a) : erS S a b = S b := if_neg h
theorem upS_upS {S : Store} {a : Addr} {c e : Cell} : upS (upS S a c) a e = upS S a e := by
  funext b
  unfold upS
  split <;> rfl
theorem neS {S : Store} {a b : Addr} {c : Cell} (h : S b = some c) (h' : S a = none) : b ≠ a := fun e => by rw [e, h'] at h; cases h
def cutS (S T : Store) : Store := fun a => if (S a).isSome then T a else none
abbrev Hid := Addr → Prop
open Classical in
noncomputable def gS (M : Hid) (S : Store) (H : Hp) : Hp := fun a => if M a then none else match S a with
  | some _ => none
  | none => match H a with
    | some (.tbl _) => none
    | o => o
def NoT (o : HO) : Prop := ∀ ps, o ≠ .tbl ps
theorem gS_some {M : Hid} {S : Store} {H : Hp} {a : Addr} {o : HO} : gS M S H a = some o ↔ ¬ M a ∧ S a = none ∧ H a = some o ∧ NoT o := by
  unfold gS
  by_cases hm : M a
  · rw [if_pos hm]
    constructor
    · intro e; cases e
    · rintro ⟨n, _⟩; exact absurd hm n
  rw [if_neg hm]
  cases hs : S a with
  | some c => simp
  | none =>
    cases h : H a with
    | none => simp
    | some u =>
      cases u with
      | tbl ps =>
        constructor
        · intro e; cases e
        · rintro ⟨_, _, e, n⟩
          cases e
          exact absurd rfl (n ps)
      | _ =>
        constructor
        · intro e; cases e; exact ⟨hm, rfl, rfl, fun ps z => by cases z⟩
        · rintro ⟨_, _, e, n⟩; exact e
theorem gS_sub {M : Hid} {S : Store} {H : Hp} : Sub (gS M S H) H := fun _ _ h => (gS_some.mp h).2.2.1
theorem gS_mono {M : Hid} {S : Store} {H H' : Hp} (e : Sub H H') : Sub (gS M S H) (gS M S H') := fun a o h => by
  obtain ⟨h0, h1, h2, h3⟩ := gS_some.mp h
  exact gS_some.mpr ⟨h0, h1, e a o h2, h3⟩
theorem gS_drop {M : Hid} {S S' : Store} {H : Hp} (h : ∀ a, S a = none → S' a = none) : Sub (gS M S H) (gS M S' H) := fun a o e => by
  obtain ⟨h0, h1, h2, h3⟩ := gS_some.mp e
  exact gS_some.mpr ⟨h0, h a h1, h2, h3⟩
theorem Sub.upd {H : Hp} {p : Addr} {o : HO} (h : H p = none) : Sub H (upd H p o) := fun a u e => by
  rw [upd_ne (ne_of_none e h)]
  exact e
inductive CellV (K : PySem.W.Frag) (G H : Hp) (a : Addr) : Cell → Prop
  | lst {vs : List V} {ws : List W} : H a = some (.lst vs) → Wvs K G vs ws → CellV K G H a (.lst ws)
  | obj {C : String} {dx : Addr} {vs : List (Str × V)} {ws : List (String × W)} : H a = some (.ins (clsAt K C) dx vs) → Wvf K G vs ws → CellV K G H a (.obj C ws)
  | dct {vs : List (Key × V)} {ws : List (Key × W)} : H a = some (.dK vs) → Wvk K G vs ws → CellV K G H a (.dct ws)
  | dctT {vs : List (List Key × V)} {ws : List (List Key × W)} : H a = some (.dT vs) → Wvk K G vs ws → CellV K G H a (.dctT ws)
theorem CellV.mono {K : PySem.W.Frag} {G G' H H' : Hp} {a : Addr} {c : Cell} (s : Sub G G') (e : H' a = H a) (h : CellV K G H a c) : CellV K G' H' a c := by
  cases h with
  | lst h r => exact .lst (by rw [e]; exact h) (r.mono s)
  | obj h r => exact .obj (by rw [e]; exact h) (r.mono s)
  | dct h r => exact .dct (by rw [e]; exact h) (r.mono s)
  | dctT h r => exact .dctT (by rw [e]; exact h) (r.mono s)
theorem CellV.there {K : PySem.W.Frag} {G H : Hp} {a : Addr} {c : Cell} (h : CellV K G H a c) : H a ≠ none := by
  cases h with
  | lst h r => rw [h]; simp
  | obj h r => rw [h]; simp
  | dct h r => rw [h]; simp
  | dctT h r => rw [h]; simp
def OkC (K : PySem.W.Frag) (M : Hid) (S : Store) (H : Hp) : Prop := ∀ a c, S a = some c → CellV K (gS M S H) H a c
structure SlotsOk (K : PySem.W.Frag) (M : Hid) (S : Store) (H : Hp) (σ : L2.St) (δ : Slots) : Prop where
  at_ : ∀ (i : Nat) (w : W), δ[i]? = some (some w) → ∃ v, σ[i]? = some (some v) ∧ Wv K (gS M S H) v w
  len : δ.length ≤ σ.length
def XdV (K : PySem.W.Frag) (G H : Hp) (d : Option Addr) (fs : List (String × W)) : Prop := fs = [] ∨ ∃ a vs, d = some a ∧ H a = some (.xd vs) ∧ Wvf K G vs fs
structure Fr where
  G : Hp
  Wx : WX
  X : Exn → Slots → Store → Prop
  T : List (Addr × Str) := []
  M0 : Hid := fun _ => False
  Hm : Hp := fun _ => none
def TabG (M : Hid) (S : Store) (H : Hp) (P : Addr) (q : Str) : Prop := ∃ ps : Array Value, H P = some (.tbl ps) ∧ TriplesOk ps.toList ∧ ∀ (pos : Pos) (cv : Value), codeAmong pos ps.toList = some cv → ∃ c, cv = .ref c ∧ gS M S H c = some (LamX.CodeO c q)
theorem TabG.mono {M M' : Hid} {S S' : Store} {H H' : Hp} {P : Addr} {q : Str} (h : TabG M S H P q) (e : H' P = H P) (s : Sub (gS M S H) (gS M' S' H')) : TabG M' S' H' P q := by
  obtain ⟨ps, h1, h2, h3⟩ := h
  refine ⟨ps, e.trans h1, h2, fun pos cv hc => ?_⟩
  obtain ⟨c, e1, e2⟩ := h3 pos cv hc
  exact ⟨c, e1, s _ _ e2⟩
def NoX (u : HO) : Prop := NoT u ∧ (∀ φ, u ≠ .ext φ) ∧ ∀ fs, u ≠ .xd fs
def HdN (o : Option HO) : Prop := ∃ u, o = some u ∧ NoX u
theorem HdN.ne {o : Option HO} (h : HdN o) : o ≠ none := by
  obtain ⟨u, e, _⟩ := h
  rw [e]
  simp
structure OkB (K : PySem.W.Frag) (F : Fr) (M : Hid) (S : Store) (H : Hp) : Prop where
  hid : ∀ a, M a → S a = none ∧ HdN (H a)
  cell : OkC K M S H
  sub : Sub F.G (gS M S H)
  tabs : ∀ p ∈ F.T, TabG M S H p.1 p.2 ∧ S p.1 = none ∧ ¬ M p.1
  keep : ∀ a, F.M0 a → M a ∧ H a = F.Hm a
structure Ok (K : PySem.W.Frag) (F : Fr) (M : Hid) (S : Store) (H : Hp) : Prop extends OkB K F M S H where
  hX : ∀ C d fs δ S' σ H', F.X ⟨C, fs⟩ δ S' → OkB K F M S' H' → SlotsOk K M S' H' σ δ → XdV K (gS M S' H') H' d fs → F.Wx (.ref (clsAt K C)) d σ H'
section
variable {K : PySem.W.Frag} {F : Fr} {M : Hid} {S S' : Store} {H H' : Hp} {σ : L2.St} {δ : Slots}
theorem OkC.none (k : OkC K M S H) {p : Addr} (h : H p = none) : S p = none := by
  cases e : S p with
  | none => rfl
  | some c => exact absurd h (k p c e).there
theorem SlotsOk.mono (x : SlotsOk K M S H σ δ) (s : Sub (gS M S H) (gS M S' H')) : SlotsOk K M S' H' σ δ :=
  ⟨fun i w e => let ⟨v, h1, h2⟩ := x.at_ i w e; ⟨v, h1, h2.mono s⟩, x.len⟩
theorem TabG.at_ {P : Addr} {q : Str} (h : TabG M S H P q) : ∃ ps, H P = some (.tbl ps) := let ⟨ps, h, _⟩ := h; ⟨ps, h⟩
theorem Ok.grow (k : Ok K F M S H) (e : Sub H H') : Ok K F M S H' :=
  ⟨⟨fun a h => ⟨(k.hid a h).1, let ⟨u, e1, n⟩ := (k.hid a h).2; ⟨u, e a u e1, n⟩⟩, fun a c h => by
    have z := k.cell a c h
    refine z.mono (gS_mono e) ?_
    cases q : H a with
    | none => exact absurd q z.there
    | some o => exact e a o q, k.sub.trans (gS_mono e), fun p hp => by
    obtain ⟨t, t2⟩ := k.tabs p hp
    obtain ⟨ps, et⟩ := t.at_
    exact ⟨t.mono ((e _ _ et).trans et.symm) (gS_mono e), t2⟩, fun a h => by
    obtain ⟨m, q⟩ := k.keep a h
    refine ⟨m, ?_⟩
    rw [← q]
    cases z : H a with
    | none => exact absurd z (k.hid a m).2.ne
    | some o => exact e a o z⟩, k.hX⟩
theorem Ok.new (k : Ok K F M S H) {p : Addr} {o : HO} (h : H p = none) : Ok K F M S (upd H p o) := k.grow (.upd h)
theorem Ok.notM (k : Ok K F M S H) {p : Addr} (h : H p = none) : ¬ M p := fun m => (k.hid p m).2.ne h
theorem gS_new (k : Ok K F M S H) {p : Addr} {o : HO} (h : H p = none) (n : NoT o) : gS M S (upd H p o) p = some o := gS_some.mpr ⟨k.notM h, k.cell.none h, upd_same, n⟩
theorem gS_cell {p : Addr} {c : Cell} {o : HO} (h : gS M S H p = none) : gS M (upS S p c) (upd H p o) = gS M S H := by
  funext a
  by_cases e : a = p
  · subst e
    rw [h]
    unfold gS
    rw [upS_same]
    split <;> rfl
  · unfold gS
    rw [upS_ne e, upd_ne e]
theorem Ok.cellM (k : Ok K F M S H) {p : Addr} {c : Cell} (h : S p = some c) : ¬ M p := fun m => by rw [(k.hid p m).1] at h; cases h
theorem gS_free {p : Addr} (h : H p = none) : gS M S H p = none := by
  cases e : gS M S H p with
  | none => rfl
  | some o => rw [(gS_some.mp e).2.2.1] at h; cases h
theorem gS_at {p : Addr} {c : Cell} (h : S p = some c) : gS M S H p = none := by
  unfold gS
  rw [h]
  split <;> rfl
theorem Ok.put (k : Ok K F M S H) {p : Addr} {c : Cell} {o : HO} (h : gS M S H p = none) (hm : ¬ M p) (ht : ∀ q ∈ F.T, q.1 ≠ p) (hc : CellV K (gS M S H) (upd H p o) p c) : Ok K F M (upS S p c) (upd H p o) := by
  refine ⟨⟨fun a h => ?_, fun a e he => ?_, by rw [gS_cell h]; exact k.sub, fun q hq => ?_, fun a q => ?_⟩, k.hX⟩
  rotate_right 2
  · obtain ⟨t, t1, t2⟩ := k.tabs q hq
    exact ⟨t.mono (upd_ne (ht q hq)) (by rw [gS_cell h]; exact Sub.refl _), by rw [upS_ne (ht q hq)]; exact t1, t2⟩
  · obtain ⟨m, e⟩ := k.keep a q
    have ne : a ≠ p := fun z => hm (by rw [← z]; exact m)
    exact ⟨m, by rw [upd_ne ne]; exact e⟩
  · have ne : a ≠ p := fun z => hm (z ▸ h)
    rw [upS_ne ne, upd_ne ne]
    exact k.hid a h
  rw [gS_cell h]
  by_cases z : a = p
  · subst z
    rw [upS_same] at he
    cases he
    exact hc
  · rw [upS_ne z] at he
    exact (k.cell a e he).mono (Sub.refl _) (upd_ne z)
theorem Ok.cut (k : Ok K F M S H) (h : ∀ a c, S' a = some c → S a = some c) : Ok K F M S' H := by
  have sb : Sub (gS M S H) (gS M S' H) := gS_drop fun a e => by
    cases q : S' a with
    | none => rfl
    | some c => rw [h a c q] at e; cases e
  exact ⟨⟨fun a m => ⟨(by
    cases q : S' a with
    | none => rfl
    | some c => have := h a c q; rw [(k.hid a m).1] at this; cases this), (k.hid a m).2⟩, fun a c e => (k.cell a c (h a c e)).mono sb rfl, k.sub.trans sb, fun p hp => (by
    obtain ⟨t, t1, t2⟩ := k.tabs p hp
    exact ⟨t.mono rfl sb, (by
      cases q : S' p.1 with
      | none => rfl
      | some c => have := h _ c q; rw [t1] at this; cases this), t2⟩), k.keep⟩, k.hX⟩
theorem OkC.cut (k : OkC K M S H) (h : ∀ a c, S' a = some c → S a = some c) : OkC K M S' H := by
  have sb : Sub (gS M S H) (gS M S' H) := gS_drop fun a e => by
    cases q : S' a with
    | none => rfl
    | some c => rw [h a c q] at e; cases e
  exact fun a c e => (k a c (h a c e)).mono sb rfl
theorem sub_cut (h : ∀ a c, S' a = some c → S a = some c) : Sub (gS M S H) (gS M S' H) := gS_drop fun a e => by
    cases q : S' a with
    | none => rfl
    | some c => rw [h a c q] at e; cases e
theorem er_le {p : Addr} : ∀ a c, erS S p a = some c → S a = some c := fun a c e => by
  unfold erS at e
  split at e
  · cases e
  · exact e
theorem SlotsOk.set {i : Nat} {v : V} {w : W} (x : SlotsOk K M S H σ δ) (h : Wv K (gS M S H) v w) : SlotsOk K M S H (σ.set i (some v)) (δ.set i (some w)) := by
  refine ⟨fun j u e => ?_, by simpa using x.len⟩
  by_cases z : i = j
  · subst z
    have hl : i < δ.length := by
      have := (List.getElem?_eq_some_iff.mp e).1
      simpa using this
    rw [List.getElem?_set_self hl] at e
    cases e
    exact ⟨v, List.getElem?_set_self (Nat.lt_of_lt_of_le hl x.len), h⟩
  · rw [List.getElem?_set_ne z] at e ⊢
    exact x.at_ j u e
theorem SlotsOk.drop {i : Nat} (x : SlotsOk K M S H σ δ) : SlotsOk K M S H σ (δ.set i none) := by
  refine ⟨fun j u e => ?_, by simpa using x.len⟩
  by_cases z : i = j
  · subst z
    have hl : i < δ.length := by
      have := (List.getElem?_eq_some_iff.mp e).1
      simpa using this
    rw [List.getElem?_set_self hl] at e
    cases e
  · rw [List.getElem?_set_ne z] at e
    exact x.at_ j u e
theorem SlotsOk.dropV {i : Nat} {ov : Option V} (x : SlotsOk K M S H σ δ) : SlotsOk K M S H (σ.set i ov) (δ.set i none) := by
  refine ⟨fun j u e => ?_, by simpa using x.len⟩
  by_cases z : i = j
  · subst z
    have hl : i < δ.length := by
      have := (List.getElem?_eq_some_iff.mp e).1
      simpa using this
    rw [List.getElem?_set_self hl] at e
    cases e
  · rw [List.getElem?_set_ne z] at e ⊢
    exact x.at_ j u e
end

abbrev XP := Exn → Store → Prop
abbrev EM := Slots → Store → (W → Store → Prop) → XP → Prop
abbrev AM := Slots → Store → (List W → Store → Prop) → XP → Prop
abbrev TM := Slots → Store → (Bool → Store → Prop) → XP → Prop
structure Ct where
  nx : Slots → Store → Prop
  rt : W → Store → Prop
  bk : Slots → Store → Prop := fun _ _ => False
  ct : Slots → Store → Prop := fun _ _ => False
  X : Exn → Slots → Store → Prop
abbrev SM := Ct → Slots → Store → Prop
section
variable (K : PySem.W.Frag) (F : Fr)
structure St (M : Hid) (S : Store) (H : Hp) (S' : Store) (H' : Hp) : Prop where
  ok : Ok K F M S' H'
  sub : Sub (gS M S H) (gS M S' H')
  stay : ∀ a, M a → H' a = H a
def WE (te : TE) (δ : Slots) (S : Store) (P : W → Store → Prop) : Prop := ∀ (M : Hid) (σ : L2.St) (H : Hp), Ok K F M S H → SlotsOk K M S H σ δ → ∀ Q : VK,
  (∀ v H' w S', P w S' → St K F M S H S' H' → Wv K (gS M S' H') v w → Q v H') → te σ H Q
def WA (ta : TA) (δ : Slots) (S : Store) (P : List W → Store → Prop) : Prop := ∀ (M : Hid) (σ : L2.St) (H : Hp), Ok K F M S H → SlotsOk K M S H σ δ → ∀ Q : List V → Hp → Prop,
  (∀ vs H' ws S', P ws S' → St K F M S H S' H' → Wvs K (gS M S' H') vs ws → Q vs H') → ta σ H Q
def WT (tt : TT) (δ : Slots) (S : Store) (P : Bool → Store → Prop) : Prop := ∀ (M : Hid) (σ : L2.St) (H : Hp), Ok K F M S H → SlotsOk K M S H σ δ → ∀ Q : Bool → Hp → Prop,
  (∀ b H' S', P b S' → St K F M S H S' H' → Q b H') → tt σ H Q
structure EndsOk (M : Hid) (G0 H0 : Hp) (E : Ends) (C : Ct) : Prop where
  nx : ∀ S σ H δ, C.nx δ S → Ok K F M S H → SlotsOk K M S H σ δ → Sub G0 (gS M S H) → (∀ a, M a → H a = H0 a) → E.nx σ H
  rt : ∀ S v H w, C.rt w S → Ok K F M S H → Wv K (gS M S H) v w → Sub G0 (gS M S H) → (∀ a, M a → H a = H0 a) → E.rt v H
  bk : ∀ S σ H δ, C.bk δ S → Ok K F M S H → SlotsOk K M S H σ δ → Sub G0 (gS M S H) → (∀ a, M a → H a = H0 a) → E.bk σ H
  ct : ∀ S σ H δ, C.ct δ S → Ok K F M S H → SlotsOk K M S H σ δ → Sub G0 (gS M S H) → (∀ a, M a → H a = H0 a) → E.ct σ H
def WS (ts : TS) (δ : Slots) (S : Store) (C : Ct) : Prop := ∀ (M : Hid) (E : Ends) (σ : L2.St) (H : Hp), Ok K F M S H → SlotsOk K M S H σ δ → EndsOk K F M (gS M S H) H E C → ts E σ H
end
section
variable {K : PySem.W.Frag} {F : Fr} {M : Hid} {S S1 S2 : Store} {H H1 H2 : Hp} {σ : L2.St} {δ : Slots}
theorem St.refl (k : Ok K F M S H) : St K F M S H S H := ⟨k, Sub.refl _, fun _ _ => rfl⟩
theorem St.trans (a : St K F M S H S1 H1) (b : St K F M S1 H1 S2 H2) : St K F M S H S2 H2 := ⟨b.ok, a.sub.trans b.sub, fun x m => (b.stay x m).trans (a.stay x m)⟩
theorem St.grow (k : Ok K F M S H) (e : Sub H H1) : St K F M S H S H1 := ⟨k.grow e, gS_mono e, fun a m => by
  cases q : H a with
  | none => exact absurd q (k.hid a m).2.ne
  | some o => exact e a o q⟩
theorem St.new (k : Ok K F M S H) {p : Addr} {o : HO} (h : H p = none) : St K F M S H S (upd H p o) := .grow k (.upd h)
theorem Ok.tabNew (k : Ok K F M S H) {p : Addr} (h : H p = none) : ∀ q ∈ F.T, q.1 ≠ p := fun q hq z => by
  obtain ⟨ps, e⟩ := (k.tabs q hq).1.at_
  rw [z, h] at e
  cases e
theorem Ok.tabCell (k : Ok K F M S H) {p : Addr} {c : Cell} (h : S p = some c) : ∀ q ∈ F.T, q.1 ≠ p := fun q hq z => by
  have := (k.tabs q hq).2.1
  rw [z, h] at this
  cases this
theorem St.put (k : Ok K F M S H) {p : Addr} {c : Cell} {o : HO} (h : gS M S H p = none) (hm : ¬ M p) (ht : ∀ q ∈ F.T, q.1 ≠ p) (hc : CellV K (gS M S H) (upd H p o) p c) : St K F M S H (upS S p c) (upd H p o) := ⟨k.put h hm ht hc, by rw [gS_cell h]; exact Sub.refl _, fun a m => upd_ne fun z => hm (z ▸ m)⟩
theorem St.newC (k : Ok K F M S H) {p : Addr} {c : Cell} {o : HO} (h : H p = none) (hc : CellV K (gS M S H) (upd H p o) p c) : St K F M S H (upS S p c) (upd H p o) := .put k (gS_free h) (k.notM h) (k.tabNew h) hc
theorem St.write (k : Ok K F M S H) {p : Addr} {c c' : Cell} {o : HO} (h : S p = some c') (hc : CellV K (gS M S H) (upd H p o) p c) : St K F M S H (upS S p c) (upd H p o) := .put k (gS_at h) (k.cellM h) (k.tabCell h) hc
theorem St.cut (k : Ok K F M S H) (h : ∀ a c, S1 a = some c → S a = some c) : St K F M S H S1 H := ⟨k.cut h, sub_cut h, fun _ _ => rfl⟩
theorem St.slots (s : St K F M S H S1 H1) (x : SlotsOk K M S H σ δ) : SlotsOk K M S1 H1 σ δ := x.mono s.sub
theorem EndsOk.on {E : Ends} {C : Ct} (e : EndsOk K F M (gS M S H) H E C) (s : St K F M S H S1 H1) : EndsOk K F M (gS M S1 H1) H1 E C :=
  ⟨fun T σ I δ a b c d f => e.nx T σ I δ a b c (s.sub.trans d) fun x m => (f x m).trans (s.stay x m), fun T v I w a b c d f => e.rt T v I w a b c (s.sub.trans d) fun x m => (f x m).trans (s.stay x m),
   fun T σ I δ a b c d f => e.bk T σ I δ a b c (s.sub.trans d) fun x m => (f x m).trans (s.stay x m), fun T σ I δ a b c d f => e.ct T σ I δ a b c (s.sub.trans d) fun x m => (f x m).trans (s.stay x m)⟩
end
end DX

set_option Elab.async false
set_option linter.all false
set_option maxRecDepth 100000
namespace DX
open PySem L2
variable {K : PySem.W.Frag} {F : Fr} {X : Cx}

def allD : List W → Option (List D)
  | [] => some []
  | .d x :: ws => (allD ws).map (x :: ·)
  | _ :: _ => none
theorem allD_map : ∀ ds : List D, allD (ds.map .d) = some ds
  | [] => rfl
  | d :: ds => by rw [List.map_cons, allD, allD_map ds]; rfl
theorem allD_inv : ∀ {ws : List W} {ds : List D}, allD ws = some ds → ws = ds.map .d
  | [], ds, h => by cases h; rfl
  | .d x :: ws, ds, h => by
    rw [allD] at h
    cases q : allD ws with
    | none => rw [q] at h; cases h
    | some es =>
      rw [q] at h
      cases h
      rw [allD_inv q]
      rfl
  | .ref a :: ws, ds, h => by cases h
  | .tup l :: ws, ds, h => by cases h
def mkT (ws : List W) : W := match allD ws with
  | some ds => .d (.tup ds)
  | none => .tup ws
theorem mkT_map (ds : List D) : mkT (ds.map .d) = .d (.tup ds) := by unfold mkT; rw [allD_map]
theorem Wv.mkT {G : Hp} {a : Addr} {vs : List V} {ws : List W} (h : SqT K G a vs) (r : Wvs K G vs ws) : Wv K G (.ref a) (mkT ws) := by
  unfold DX.mkT
  cases q : allD ws with
  | none => exact .tup h r
  | some ds =>
    rw [allD_inv q] at r
    exact .d (.tup h r.ds)
def lseq (S : Store) : W → Option (List W)
  | .d (.lst ds) => some (ds.map .d)
  | .ref a => match S a with
    | some (.lst ws) => some ws
    | _ => none
  | _ => none
def tseq : W → Option (List W)
  | .d (.tup ds) => some (ds.map .d)
  | .tup ws => some ws
  | _ => none
def seqW (S : Store) (w : W) : Option (List W) := match lseq S w with
  | some ws => some ws
  | none => tseq w
theorem lseq_ok {M : Hid} {S : Store} {H : Hp} {v : V} {w : W} {ws : List W} (k : OkC K M S H) (h : Wv K (gS M S H) v w) (e : lseq S w = some ws) : ∃ a vs, v = .ref a ∧ H a = some (.lst vs) ∧ Wvs K (gS M S H) vs ws := by
  cases w with
  | d x =>
    cases x with
    | lst ds =>
      cases e
      obtain ⟨a, vs, rfl, h1, h2⟩ := h.to_d.to_lst
      exact ⟨a, vs, rfl, gS_sub _ _ h1, h2.w⟩
    | _ => cases e
  | ref a =>
    cases h.to_ref
    cases q : S a with
    | none => simp [lseq, q] at e
    | some c =>
      cases c with
      | lst l =>
        simp only [lseq, q, Option.some.injEq] at e
        subst e
        cases k a _ q with
        | lst h1 h2 => exact ⟨a, _, rfl, h1, h2⟩
      | _ => simp [lseq, q] at e
  | tup l => cases e
theorem tseq_ok {G : Hp} {v : V} {w : W} {ws : List W} (h : Wv K G v w) (e : tseq w = some ws) : ∃ a vs, v = .ref a ∧ SqT K G a vs ∧ Wvs K G vs ws := by
  cases w with
  | d x =>
    cases x with
    | tup ds =>
      cases e
      obtain ⟨a, vs, rfl, h1, h2⟩ := h.to_d.to_tup
      exact ⟨a, vs, rfl, h1, h2.w⟩
    | _ => cases e
  | ref a => cases e
  | tup l =>
    cases e
    obtain ⟨a, vs, rfl, h1, h2⟩ := h.to_tup
    exact ⟨a, vs, rfl, h1, h2⟩
theorem seqW_ok {M : Hid} {S : Store} {H : Hp} {v : V} {w : W} {ws : List W} (k : OkC K M S H) (h : Wv K (gS M S H) v w) (e : seqW S w = some ws) : ∃ a vs, v = .ref a ∧ (SqL K H a vs ∨ SqT K H a vs) ∧ Wvs K (gS M S H) vs ws := by
  unfold seqW at e
  cases q : lseq S w with
  | some l =>
    rw [q] at e
    cases e
    obtain ⟨a, vs, h1, h2, h3⟩ := lseq_ok k h q
    exact ⟨a, vs, h1, .inl (sqL h2), h3⟩
  | none =>
    rw [q] at e
    obtain ⟨a, vs, h1, h2, h3⟩ := tseq_ok h e
    exact ⟨a, vs, h1, .inr (gS_sub.t h2), h3⟩
def newLC (c : Bool) (ws : List W) (S : Store) (P : W → Store → Prop) : Prop :=
  if c then ∀ a, S a = none → P (.ref a) (upS S a (.lst ws)) else match allD ws with
    | some ds => P (.d (.lst ds)) S
    | none => False
theorem new_lst {c : Bool} {M : Hid} {S : Store} {H : Hp} {vs : List V} {ws : List W} {P : W → Store → Prop} {Q : VK} {l : Addr} (k : Ok K F M S H) (hw : Wvs K (gS M S H) vs ws) (hn : H l = none) (p : newLC c ws S P)
    (q : ∀ z H' w S', P w S' → St K F M S H S' H' → Wv K (gS M S' H') z w → Q z H') : Q (.ref l) (upd H l (.lst vs)) := by
  unfold newLC at p
  cases c with
  | true =>
    rw [if_pos rfl] at p
    exact q _ _ _ _ (p l (k.cell.none hn)) (St.newC k hn (.lst upd_same hw)) (.ref l)
  | false =>
    rw [if_neg (by decide)] at p
    cases e : allD ws with
    | none => rw [e] at p; exact p.elim
    | some ds =>
      rw [e] at p
      rw [allD_inv e] at hw
      have s : St K F M S H S (upd H l (.lst vs)) := .new k hn
      exact q _ _ _ _ p s (.d (.lst (gS_new k hn (fun ps z => by cases z)) (hw.ds.mono s.sub)))
theorem new_tup {M : Hid} {S : Store} {H : Hp} {vs : List V} {ws : List W} {P : W → Store → Prop} {Q : VK} {l : Addr} (k : Ok K F M S H) (hw : Wvs K (gS M S H) vs ws) (hn : H l = none) (p : P (mkT ws) S)
    (q : ∀ z H' w S', P w S' → St K F M S H S' H' → Wv K (gS M S' H') z w → Q z H') : Q (.ref l) (upd H l (.tup vs)) := by
  have s : St K F M S H S (upd H l (.tup vs)) := .new k hn
  exact q _ _ _ _ p s (.mkT (sqT (gS_new k hn (fun ps z => by cases z))) (hw.mono s.sub))

def mapO {α β : Type} (f : α → Option β) : List α → Option (List β)
  | [] => some []
  | x :: l => match f x with
    | some y => (mapO f l).map (y :: ·)
    | none => none
def rdW : Nat → Store → W → Option D
  | _, _, .d x => some x
  | 0, _, _ => none
  | n + 1, S, .ref a => match S a with
    | some (.lst ws) => (mapO (rdW n S) ws).map D.lst
    | some (.obj C fs) => (mapO (fun p => (rdW n S p.2).map fun d => (p.1, d)) fs).map (D.ins C)
    | some (.dct fs) => (mapO (fun p => (rdW n S p.2).map fun d => (p.1, d)) fs).map D.dct
    | _ => none
  | n + 1, S, .tup ws => (mapO (rdW n S) ws).map D.tup
abbrev rd (S : Store) (w : W) : Option D := rdW 4 S w
theorem mapO_d {n : Nat} {S : Store} : ∀ ds : List D, mapO (rdW n S) (ds.map .d) = some ds
  | [] => rfl
  | d :: ds => by
    have h : rdW n S (.d d) = some d := by cases n <;> rfl
    rw [List.map_cons, mapO, h, mapO_d ds]
    rfl
theorem mapO_ws {n : Nat} {S : Store} {G H : Hp} (ih : ∀ {v : V} {w : W} {d : D}, Wv K G v w → rdW n S w = some d → DV K H v d) : ∀ {ws : List W} {vs : List V} {ds : List D}, Wvs K G vs ws → mapO (rdW n S) ws = some ds → DVs K H vs ds
  | [], _, _, .nil, e => by cases e; exact .nil
  | w :: ws, _, ds, .cons h r, e => by
    rw [mapO] at e
    cases q : rdW n S w with
    | none => rw [q] at e; cases e
    | some y =>
      rw [q] at e
      cases q2 : mapO (rdW n S) ws with
      | none => rw [q2] at e; cases e
      | some ys =>
        rw [q2] at e
        cases e
        exact .cons (ih h q) (mapO_ws ih r q2)
theorem mapO_fs {n : Nat} {S : Store} {G H : Hp} (ih : ∀ {v : V} {w : W} {d : D}, Wv K G v w → rdW n S w = some d → DV K H v d) : ∀ {ws : List (String × W)} {vs : List (Str × V)} {ds : List (String × D)}, Wvf K G vs ws → mapO (fun p => (rdW n S p.2).map fun d => (p.1, d)) ws = some ds → DVf K H vs ds
  | [], _, _, .nil, e => by cases e; exact .nil
  | (f, w) :: ws, _, ds, .cons h r, e => by
    rw [mapO] at e
    cases q : rdW n S w with
    | none => simp only [q] at e; cases e
    | some y =>
      simp only [q] at e
      cases q2 : mapO (fun p : String × W => (rdW n S p.2).map fun d => (p.1, d)) ws with
      | none => rw [q2] at e; cases e
      | some ys =>
        rw [q2] at e
        cases e
        exact .cons (ih h q) (mapO_fs ih r q2)
theorem mapO_ks {n : Nat} {S : Store} {G H : Hp} (ih : ∀ {v : V} {w : W} {d : D}, Wv K G v w → rdW n S w = some d → DV K H v d) : ∀ {ws : List (Key × W)} {vs : List (Key × V)} {ds : List (Key × D)}, Wvk K G vs ws → mapO (fun p => (rdW n S p.2).map fun d => (p.1, d)) ws = some ds → DVk K H vs ds
  | [], _, _, .nil, e => by cases e; exact .nil
  | (f, w) :: ws, _, ds, .cons h r, e => by
    rw [mapO] at e
    cases q : rdW n S w with
    | none => simp only [q] at e; cases e
    | some y =>
      simp only [q] at e
      cases q2 : mapO (fun p : Key × W => (rdW n S p.2).map fun d => (p.1, d)) ws with
      | none => rw [q2] at e; cases e
      | some ys =>
        rw [q2] at e
        cases e
        exact .cons (ih h q) (mapO_ks ih r q2)
theorem rdW_ok {M : Hid} {S : Store} {H : Hp} (k : OkC K M S H) : ∀ (n : Nat) {v : V} {w : W} {d : D}, Wv K (gS M S H) v w → rdW n S w = some d → DV K H v d
  | 0, v, .d x, d, h, e => by cases e; exact h.to_d.mono gS_sub
  | n + 1, v, .d x, d, h, e => by cases e; exact h.to_d.mono gS_sub
  | 0, v, .ref a, d, h, e => by cases e
  | 0, v, .tup a, d, h, e => by cases e
  | n + 1, v, .tup ws, d, h, e => by
    obtain ⟨a, vs, rfl, h1, h2⟩ := h.to_tup
    rw [rdW] at e
    cases q : mapO (rdW n S) ws with
    | none => rw [q] at e; cases e
    | some ds =>
      rw [q] at e
      cases e
      exact .tup (gS_sub.t h1) (mapO_ws (rdW_ok k n) h2 q)
  | n + 1, v, .ref a, d, h, e => by
    cases h.to_ref
    rw [rdW] at e
    cases q : S a with
    | none => rw [q] at e; cases e
    | some c =>
      rw [q] at e
      cases k a c q with
      | lst h1 h2 =>
        rename_i vs ws
        dsimp only at e
        cases q2 : mapO (rdW n S) ws with
        | none => rw [q2] at e; cases e
        | some ds =>
          rw [q2] at e
          cases e
          exact .lst h1 (mapO_ws (rdW_ok k n) h2 q2)
      | obj h1 h2 =>
        rename_i C dx vs ws
        dsimp only at e
        cases q2 : mapO (fun p : String × W => (rdW n S p.2).map fun d => (p.1, d)) ws with
        | none => rw [q2] at e; cases e
        | some ds =>
          rw [q2] at e
          cases e
          exact .ins h1 (mapO_fs (rdW_ok k n) h2 q2)
      | dct h1 h2 =>
        rename_i vs ws
        dsimp only at e
        cases q2 : mapO (fun p : Key × W => (rdW n S p.2).map fun d => (p.1, d)) ws with
        | none => rw [q2] at e; cases e
        | some ds =>
          rw [q2] at e
          cases e
          exact .dct h1 (mapO_ks (rdW_ok k n) h2 q2)
      | dctT h1 h2 => cases e

abbrev O1 := W → Store → (W → Store → Prop) → Prop
abbrev O2 := W → W → Store → (W → Store → Prop) → Prop
abbrev ON := List W → Store → (W → Store → Prop) → Prop
def RO2 (K : PySem.W.Frag) (F : Fr) (r : R2) (o : O2) : Prop := ∀ M S H x y v u P, Ok K F M S H → Wv K (gS M S H) v x → Wv K (gS M S H) u y → o x y S P → ∀ Q : VK,
  (∀ z H' w S', P w S' → St K F M S H S' H' → Wv K (gS M S' H') z w → Q z H') → r v u H Q
def RO1 (K : PySem.W.Frag) (F : Fr) (r : V → Hp → VK → Prop) (o : O1) : Prop := ∀ M S H x v P, Ok K F M S H → Wv K (gS M S H) v x → o x S P → ∀ Q : VK,
  (∀ z H' w S', P w S' → St K F M S H S' H' → Wv K (gS M S' H') z w → Q z H') → r v H Q
def RON (K : PySem.W.Frag) (F : Fr) (r : List V → Hp → VK → Prop) (o : ON) : Prop := ∀ M S H xs vs P, Ok K F M S H → Wvs K (gS M S H) vs xs → o xs S P → ∀ Q : VK,
  (∀ z H' w S', P w S' → St K F M S H S' H' → Wv K (gS M S' H') z w → Q z H') → r vs H Q
abbrev none0 : Hp := fun _ => none
theorem sub0 {G : Hp} : Sub none0 G := fun a o h => by cases h
def RS2 (K : PySem.W.Frag) (r : R2) (f : D → D → (D → Prop) → Prop) : Prop := ∀ H v u x y p, DV K H v x → DV K H u y → f x y p → ∀ Q : VK, (∀ z d, p d → DV K none0 z d → Q z H) → r v u H Q
def RS1 (K : PySem.W.Frag) (r : V → Hp → VK → Prop) (f : D → (D → Prop) → Prop) : Prop := ∀ H v x p, DV K H v x → f x p → ∀ Q : VK, (∀ z d, p d → DV K none0 z d → Q z H) → r v H Q
def RSN (K : PySem.W.Frag) (r : List V → Hp → VK → Prop) (f : D → (D → Prop) → Prop) : Prop := ∀ H v x p, DV K H v x → f x p → ∀ Q : VK, (∀ z d, p d → DV K none0 z d → Q z H) → r [v] H Q
def rd2 (f : D → D → (D → Prop) → Prop) : O2 := fun x y S P => match rd S x, rd S y with
  | some a, some b => f a b fun d => P (.d d) S
  | _, _ => False
def rd1 (f : D → (D → Prop) → Prop) : O1 := fun x S P => match rd S x with
  | some a => f a fun d => P (.d d) S
  | _ => False
def rdN (f : D → (D → Prop) → Prop) : ON := fun xs S P => match xs with
  | [x] => rd1 f x S P
  | _ => False
theorem RS2.ro {r : R2} {f : D → D → (D → Prop) → Prop} (h : RS2 K r f) : RO2 K F r (rd2 f) := fun M S H x y v u P k a b p Q q => by
  unfold rd2 at p
  cases e1 : rd S x with
  | none => rw [e1] at p; exact p.elim
  | some d1 =>
    cases e2 : rd S y with
    | none => rw [e1, e2] at p; exact p.elim
    | some d2 =>
      rw [e1, e2] at p
      exact h H v u d1 d2 _ (rdW_ok k.cell 4 a e1) (rdW_ok k.cell 4 b e2) p Q fun z d pd dv => q z H _ S pd (.refl k) (.d (dv.mono sub0))
theorem RS1.ro {r : V → Hp → VK → Prop} {f : D → (D → Prop) → Prop} (h : RS1 K r f) : RO1 K F r (rd1 f) := fun M S H x v P k a p Q q => by
  unfold rd1 at p
  cases e1 : rd S x with
  | none => rw [e1] at p; exact p.elim
  | some d1 =>
    rw [e1] at p
    exact h H v d1 _ (rdW_ok k.cell 4 a e1) p Q fun z d pd dv => q z H _ S pd (.refl k) (.d (dv.mono sub0))
theorem RSN.ro {r : List V → Hp → VK → Prop} {f : D → (D → Prop) → Prop} (h : RSN K r f) : RON K F r (rdN f) := fun M S H xs vs P k a p Q q => by
  unfold rdN at p
  cases a with
  | nil => exact p.elim
  | cons a r =>
    cases r with
    | nil => exact RS1.ro (r := fun v H Q => _) h M S H _ _ P k a p Q q
    | cons _ _ => exact p.elim
def OB (X : Cx) (K : PySem.W.Frag) (F : Fr) (f : Value → Value → Sem Value) (o : O2) : Prop := ∃ r, OpR X f r ∧ RO2 K F r o
def OC (X : Cx) (K : PySem.W.Frag) (F : Fr) (f : Value) (o : ON) : Prop := ∃ r, CallR X f r ∧ RON K F r o

def rAddS : R2 := fun x y H Q => ∃ i j, x = .str i ∧ y = .str j ∧ i.length + j.length ≤ sizeLine ∧ Q (.str (i ++ j)) H
def rAddA (K : PySem.W.Frag) : R2 := fun x y H Q => ((rI0 fun i j => .int (i + j)) x y H Q ∨ rAddS x y H Q) ∨ (rCat x y H Q ∨ rCatA K x y H Q)
def catO (c : Bool) : O2 := fun x y S P => match lseq S x, lseq S y with
  | some a, some b => a.length + b.length ≤ 100000 ∧ newLC c (a ++ b) S P
  | _, _ => match tseq x, tseq y with
    | some a, some b => a.length + b.length ≤ 100000 ∧ P (mkT (a ++ b)) S
    | _, _ => False
def oAdd (c : Bool) : O2 := fun x y S P => match x, y with
  | .d (.int a), .d (.int b) => P (.d (.int (a + b))) S
  | .d (.str a), .d (.str b) => a.length + b.length ≤ 1000000 ∧ P (.d (.str (a ++ b))) S
  | x, y => catO c x y S P
theorem Wv.retup {G : Hp} {v : V} {w : W} {ws : List W} (h : Wv K G v w) (e : tseq w = some ws) : Wv K G v (DX.mkT ws) := by
  obtain ⟨a, vs, rfl, h1, h2⟩ := tseq_ok h e
  exact .mkT h1 h2
theorem ro_cat {c : Bool} : RO2 K F (rAddA K) (catO c) := fun M S H x y v u P k a b p Q q => by
  unfold catO at p
  split at p
  · rename_i la lb ea eb
    obtain ⟨hl, p⟩ := p
    obtain ⟨p1, vs, rfl, h1, h2⟩ := lseq_ok k.cell a ea
    obtain ⟨p2, us, rfl, h3, h4⟩ := lseq_ok k.cell b eb
    exact .inr (.inl ⟨p1, p2, vs, us, rfl, rfl, h1, h3, Nat.le_trans (by rw [h2.length, h4.length]; exact hl) (by decide), fun n hn => new_lst k (h2.append h4) hn p q⟩)
  · split at p
    · rename_i ta tb ea eb
      obtain ⟨hl, p⟩ := p
      obtain ⟨p1, vs, rfl, h1, h2⟩ := tseq_ok a ea
      obtain ⟨p2, us, rfl, h3, h4⟩ := tseq_ok b eb
      refine .inr (.inr ⟨p1, p2, vs, us, rfl, rfl, gS_sub.t h1, gS_sub.t h3, Nat.le_trans (by rw [h2.length, h4.length]; exact hl) (by decide), fun e => ?_, fun _ e => ?_, fun _ _ n hn => new_tup k (h2.append h4) hn p q⟩)
      · subst e
        have e0 : ta = [] := List.eq_nil_of_length_eq_zero h2.length.symm
        subst e0
        exact q _ H _ S p (.refl k) (b.retup eb)
      · subst e
        have e0 : tb = [] := List.eq_nil_of_length_eq_zero h4.length.symm
        subst e0
        rw [List.append_nil] at p
        exact q _ H _ S p (.refl k) (a.retup ea)
    · exact p.elim
theorem ob_add {c : Bool} (eK : X.K = K) : OB X K F (binaryOp .Add) (oAdd c) := by
  subst eK
  refine ⟨rAddA X.K, OpR.or (OpR.or op_add op_add_str) (OpR.or op_cat op_catA), fun M S H x y v u P k a b p Q q => ?_⟩
  unfold oAdd at p
  split at p
  · cases a.to_d.to_int
    cases b.to_d.to_int
    exact .inl (.inl ⟨_, _, rfl, rfl, q _ H _ S p (.refl k) (.d (.int _))⟩)
  · cases a.to_d.to_str
    cases b.to_d.to_str
    exact .inl (.inr ⟨_, _, rfl, rfl, Nat.le_trans p.1 (by decide), q _ H _ S p.2 (.refl k) (.d (.str _))⟩)
  · exact ro_cat M S H x y v u P k a b p Q q
def i2 (f : Int → Int → (D → Prop) → Prop) : O2 := fun x y S P => match x, y with
  | .d (.int a), .d (.int b) => f a b fun d => P (.d d) S
  | _, _ => False
theorem ro_i2 {r : R2} {f : Int → Int → (D → Prop) → Prop} (h : ∀ H a b p, f a b p → ∀ Q : VK, (∀ z d, p d → DV K none0 z d → Q z H) → r (.int a) (.int b) H Q) : RO2 K F r (i2 f) := fun M S H x y v u P k a b p Q q => by
  unfold i2 at p
  split at p
  · cases a.to_d.to_int
    cases b.to_d.to_int
    exact h H _ _ _ p Q fun z d pd dv => q z H _ S pd (.refl k) (.d (dv.mono sub0))
  · exact p.elim
def oSub : O2 := i2 fun a b p => p (.int (a - b))
theorem ob_sub : OB X K F (binaryOp .Sub) oSub := ⟨_, op_sub, ro_i2 fun H a b p h Q q => ⟨a, b, rfl, rfl, q _ _ h (.int _)⟩⟩
def oMod : O2 := i2 fun a b p => 0 < b ∧ p (.int (a % b))
theorem ob_mod : OB X K F (binaryOp .Mod) oMod := ⟨_, op_mod, ro_i2 fun H a b p h Q q => ⟨a, b, rfl, rfl, h.1, q _ _ h.2 (.int _)⟩⟩
def oLt : O2 := i2 fun a b p => p (.bl (decide (a < b)))
def oLe : O2 := i2 fun a b p => p (.bl (decide (a ≤ b)))
def oGt : O2 := i2 fun a b p => p (.bl (decide (b < a)))
def oGe : O2 := i2 fun a b p => p (.bl (decide (b ≤ a)))
theorem ob_lt : OB X K F (compareOp .Lt) oLt := ⟨_, op_lt, ro_i2 fun H a b p h Q q => ⟨a, b, rfl, rfl, q _ _ h (.bl _)⟩⟩
theorem ob_le : OB X K F (compareOp .LtE) oLe := ⟨_, op_le, ro_i2 fun H a b p h Q q => ⟨a, b, rfl, rfl, q _ _ h (.bl _)⟩⟩
theorem ob_gt : OB X K F (compareOp .Gt) oGt := ⟨_, op_gt, ro_i2 fun H a b p h Q q => ⟨a, b, rfl, rfl, q _ _ h (.bl _)⟩⟩
theorem ob_ge : OB X K F (compareOp .GtE) oGe := ⟨_, op_ge, ro_i2 fun H a b p h Q q => ⟨a, b, rfl, rfl, q _ _ h (.bl _)⟩⟩
end DX

set_option Elab.async false
set_option linter.all false
set_option maxRecDepth 100000
namespace DXS
open PySem PySem.Spec PyProof.Rows L2
theorem tuple_mulOne (l : Addr) (items : Array Value) (n : Nat) (dd : Option Addr) (sl : Array (Option Value)) (u : Tok) :
    Meets (Builtin.«tuple.__mul__» ⟨[.ref l, .int 1 u], []⟩) (fun _ R s => s.heap.get? l = some { cls := .type "tuple", dict := dd, data := .seq items n, slots := sl } ∧ R (.ok (.ret (Value.ref l))) s) :=
  .of_wp fun prog w A R s h => by
    obtain ⟨hp, g, d, tk, os⟩ := s
    obtain ⟨hl, h⟩ := h
    have f1 := AutoSeq1.idx_int
    have c0 : (decide ((1 : Int) < -(2 ^ 63)) || decide ((1 : Int) ≥ 2 ^ 63)) = false := by decide
    have c1 : (items.isEmpty || (1 : Int) == 1) = true := by simp
    wp_walk using wpAny_loadPart' hl
    repeat (first
      | (refine wpAny_ite_false (decide_eq_false (by rw [c0]; exact Bool.false_ne_true)) ?_; wp_walk using wpAny_loadPart' hl)
      | (refine wpAny_ite_true (decide_eq_true (by rw [c1])) ?_; wp_walk using wpAny_loadPart' hl))
    exact ⟨_, rfl, h⟩
def rRepT1 (K : PySem.W.Frag) : R2 := fun x y H Q => ∃ l xs, x = .ref l ∧ y = .int 1 ∧ SqT K H l xs ∧ Q (.ref l) H
variable {X : Cx}
theorem op_repT1 : OpR X (binaryOp .Mult) (rRepT1 X.K) := by
  intro pins s σ H x y v u Q I rx ry h
  obtain ⟨l, xs, rfl, rfl, hT, q⟩ := h
  cases rx
  obtain ⟨t, rfl⟩ := ry
  obtain ⟨its, r, ⟨⟨cls, dd, data, sl⟩, ho, hc, n, hd⟩, hs⟩ := I.tuple hT
  simp only at hc hd
  subst hc hd
  exact wpAny_binaryOp_repeat_ref (T := "tuple") (U := "int") (by decide) ⟨_, ho, rfl⟩ (fun s' => typeIs_int s' 1 t) noFill_tuple_mul F.fills_int_mul F.slot_int_rmul repeat_tuple F.slot_int_index.lookup
    (call_meets F.slot_int_rmul (typeIs_int s 1 t) F.entry_int_rmul (F.args_int_rmul_2 _ _) (int_rmul_tuple 1 t l its.toArray n dd sl)
      ⟨ho, rfl, ⟨_, ho, rfl⟩, call_meets F.slot_tuple_mul ⟨_, ho, rfl⟩ F.entry_tuple_mul (F.args_tuple_mul_2 _ _) (tuple_mulOne l its.toArray n dd sl t) ⟨ho, .ref l, H, I, rfl, q⟩⟩)
theorem tuple_mulZero (l : Addr) (items : Array Value) (n : Nat) (dd : Option Addr) (sl : Array (Option Value)) (u : Tok) (hi : items.isEmpty = false) :
    Meets (Builtin.«tuple.__mul__» ⟨[.ref l, .int 0 u], []⟩) (fun _ R s => s.heap.get? l = some { cls := .type "tuple", dict := dd, data := .seq items n, slots := sl } ∧
      R (.ok (.ret (Value.ref s.heap.objs.size))) { s with heap := s.heap.push { cls := Value.type "tuple", data := Data.seq #[] }, toks := s.toks }) :=
  .of_wp fun prog w A R s h => by
    obtain ⟨hp, g, d, tk, os⟩ := s
    obtain ⟨hl, h⟩ := h
    have f1 := AutoSeq1.idx_int
    have c0 : (decide ((0 : Int) < -(2 ^ 63)) || decide ((0 : Int) ≥ 2 ^ 63)) = false := by decide
    have c1 : (items.isEmpty || (0 : Int) == 1) = false := by rw [hi]; rfl
    have c2 : (decide ((0 : Int) ≤ 0) || items.isEmpty) = true := by simp
    wp_walk using wpAny_loadPart' hl
    repeat (first
      | (refine wpAny_ite_false (decide_eq_false (by rw [c0]; exact Bool.false_ne_true)) ?_; wp_walk using wpAny_loadPart' hl)
      | (refine wpAny_ite_false (decide_eq_false (by rw [c1]; exact Bool.false_ne_true)) ?_; wp_walk using wpAny_loadPart' hl)
      | (refine wpAny_ite_true (decide_eq_true (by rw [c2])) ?_; wp_walk using wpAny_loadPart' hl))
    exact ⟨_, rfl, h⟩
def rRepT0 (K : PySem.W.Frag) : R2 := fun x y H Q => ∃ l xs, x = .ref l ∧ y = .int 0 ∧ SqT K H l xs ∧ xs ≠ [] ∧ ∀ p, H p = none → Q (.ref p) (upd H p (.tup []))
theorem op_repT0 : OpR X (binaryOp .Mult) (rRepT0 X.K) := by
  intro pins s σ H x y v u Q I rx ry h
  obtain ⟨l, xs, rfl, rfl, hT, hne, q⟩ := h
  cases rx
  obtain ⟨t, rfl⟩ := ry
  obtain ⟨its, r, ⟨⟨cls, dd, data, sl⟩, ho, hc, n, hd⟩, hs⟩ := I.tuple hT
  simp only at hc hd
  subst hc hd
  have hle : its.length = xs.length := r.length.symm
  have hn : its ≠ [] := fun e => hne (by
    rw [e] at hle
    exact List.eq_nil_of_length_eq_zero hle.symm)
  have hi : its.toArray.isEmpty = false := by
    cases its with
    | nil => exact absurd rfl hn
    | cons a b => rfl
  refine wpAny_binaryOp_repeat_ref (T := "tuple") (U := "int") (by decide) ⟨_, ho, rfl⟩ (fun s' => typeIs_int s' 0 t) noFill_tuple_mul F.fills_int_mul F.slot_int_rmul repeat_tuple F.slot_int_index.lookup
    (call_meets F.slot_int_rmul (typeIs_int s 0 t) F.entry_int_rmul (F.args_int_rmul_2 _ _) (int_rmul_tuple 0 t l its.toArray n dd sl)
      ⟨ho, rfl, ⟨_, ho, rfl⟩, call_meets F.slot_tuple_mul ⟨_, ho, rfl⟩ F.entry_tuple_mul (F.args_tuple_mul_2 _ _) (tuple_mulZero l its.toArray n dd sl t hi) ⟨ho, ?_⟩⟩)
  refine ⟨.ref s.heap.objs.size, _, I.laid (t' := s.toks) (o := .tup []) (fun b ob q => Heap.get?_push_of_some _ q) (Nat.le_refl _) ?_, rfl, q _ (I.hok.fresh (Nat.le_refl _))⟩
  exact ⟨by decide, [], .nil, IsTup.new _ _⟩
end DXS
namespace DX
open PySem L2
variable {K : PySem.W.Frag} {F : Fr} {X : Cx}

def rMulA (K : PySem.W.Frag) : R2 := fun x y H Q => ((rI CMul fun i j => .int (i * j)) x y H Q ∨ rRep x y H Q) ∨ (rRepT K x y H Q ∨ (DXS.rRepT1 K x y H Q ∨ DXS.rRepT0 K x y H Q))
def repO (c : Bool) (x : W) (n : Int) (S : Store) (P : W → Store → Prop) : Prop := match lseq S x with
  | some a => -10000 ≤ n ∧ n ≤ 10000 ∧ a.length ≤ 1000 ∧ newLC c (List.replicate n.toNat a).flatten S P
  | none => match tseq x with
    | some a => a ≠ [] ∧ 0 ≤ n ∧ n ≤ 1000 ∧ a.length ≤ 1000 ∧ P (mkT (List.replicate n.toNat a).flatten) S
    | none => False
def oMul (c : Bool) : O2 := fun x y S P => match x, y with
  | .d (.int a), .d (.int b) => CMul a b ∧ P (.d (.int (a * b))) S
  | x, .d (.int b) => repO c x b S P
  | _, _ => False
theorem flat_one {α : Type} (l : List α) : (List.replicate (1 : Int).toNat l).flatten = l := by simp
theorem ob_mul {c : Bool} (eK : X.K = K) : OB X K F (binaryOp .Mult) (oMul c) := by
  subst eK
  refine ⟨rMulA X.K, OpR.or (OpR.or op_mul op_rep) (OpR.or op_repT (OpR.or DXS.op_repT1 DXS.op_repT0)), fun M S H x y v u P k a b p Q q => ?_⟩
  unfold oMul at p
  split at p
  · cases a.to_d.to_int
    cases b.to_d.to_int
    exact .inl (.inl ⟨_, _, rfl, rfl, p.1, q _ H _ S p.2 (.refl k) (.d (.int _))⟩)
  · rename_i n _
    cases b.to_d.to_int
    unfold repO at p
    split at p
    · rename_i l el
      obtain ⟨h0, h1, h2, p⟩ := p
      obtain ⟨p1, vs, rfl, h3, h4⟩ := lseq_ok k.cell a el
      refine .inl (.inr ⟨p1, n, vs, rfl, rfl, h3, by omega, by omega, ?_, fun m hm => new_lst k (h4.flat _) hm p q⟩)
      rw [h4.length]
      have : l.length * n.toNat ≤ 1000 * 10000 := Nat.mul_le_mul h2 (by omega)
      exact Nat.le_trans this (by decide)
    · split at p
      · rename_i l el
        obtain ⟨hne, h0, h1, h2, p⟩ := p
        obtain ⟨p1, vs, rfl, h3, h4⟩ := tseq_ok a el
        by_cases e : n = 1
        · subst e
          refine .inr (.inr (.inl ⟨p1, vs, rfl, rfl, gS_sub.t h3, ?_⟩))
          rw [flat_one] at p
          exact q _ H _ S p (.refl k) (a.retup el)
        · by_cases e0 : n = 0
          · subst e0
            exact .inr (.inr (.inr ⟨p1, vs, rfl, rfl, gS_sub.t h3, fun z => hne (List.eq_nil_of_length_eq_zero (by rw [← h4.length, z]; rfl)), fun m hm => new_tup k .nil hm p q⟩))
          refine .inr (.inl ⟨p1, n, vs, rfl, rfl, gS_sub.t h3, fun z => hne (List.eq_nil_of_length_eq_zero (by rw [← h4.length, z]; rfl)), by omega, h1, by rw [h4.length]; exact h2, fun m hm => new_tup k (h4.flat _) hm p q⟩)
      · exact p.elim
  · exact p.elim
def oDiv : O2 := i2 fun a b p => (0 < b ∧ b < 2 ^ 64) ∧ p (.int (a / b))
theorem ob_div : OB X K F (binaryOp .FloorDiv) oDiv := ⟨_, op_fdivW, ro_i2 fun H a b p h Q q => ⟨a, b, rfl, rfl, wide_div h.1.1 (b := 64) (by have := h.1; omega) (by decide) (by decide), q _ _ h.2 (.int _)⟩⟩
def oPow : O2 := i2 fun a b p => (0 ≤ b ∧ b ≤ 100 ∧ a.natAbs < 2 ^ 64) ∧ p (.int (a ^ b.toNat))
theorem ob_pow : OB X K F (binaryOp .Pow) oPow := ⟨_, op_pow, ro_i2 fun H a b p h Q q => ⟨a, b, rfl, rfl, ⟨h.1.1, by have := h.1.2.1; omega, h.1.2.2⟩, q _ _ h.2 (.int _)⟩⟩

def D.sc : D → Option V
  | .non => some .non
  | .bl b => some (.bl b)
  | .int i => some (.int i)
  | .str s => some (.str s)
  | _ => none
theorem DV.of_sc {G : Hp} {v u : V} {d : D} (h : DV K G v d) (e : d.sc = some u) : v = u := by
  cases h with
  | non => exact Option.some.inj e
  | bl b => exact Option.some.inj e
  | int i => exact Option.some.inj e
  | str i => exact Option.some.inj e
  | _ => cases e
mutual
def D.plain : D → Bool
  | .non => true
  | .bl _ => true
  | .int _ => true
  | .str _ => true
  | .lst l => D.plains l
  | .tup l => D.plains l
  | _ => false
def D.plains : List D → Bool
  | [] => true
  | d :: ds => d.plain && D.plains ds
end
mutual
def D.toP : D → PyData
  | .bl b => .bool b
  | .int i => .int i
  | .str s => .str s
  | .lst l => .list (D.toPs l)
  | .tup l => .tuple (D.toPs l)
  | _ => .none
def D.toPs : List D → List PyData
  | [] => []
  | d :: ds => d.toP :: D.toPs ds
end
theorem D.toPs_map : ∀ l : List D, D.toPs l = l.map D.toP
  | [] => rfl
  | d :: ds => by rw [D.toPs, D.toPs_map ds]; rfl
mutual
theorem DV.toP {H : Hp} : ∀ {v : V} {d : D}, DV K H v d → d.plain = true → Dp K H v d.toP
  | _, _, .non, _ => .non
  | _, _, .bl b, _ => .bl b
  | _, _, .int b, _ => .int b
  | _, _, .str b, _ => .str b
  | _, _, .lst h r, e => .lst (sqL h) (DVs.toP r e)
  | _, _, .tup h r, e => .tup h (DVs.toP r e)
  | _, _, .ins _ _, e => by cases e
  | _, _, .dct _ _, e => by cases e
  | _, _, .cls _, e => by cases e
  | _, _, .ty _, e => by cases e
theorem DVs.toP {H : Hp} : ∀ {v : List V} {d : List D}, DVs K H v d → D.plains d = true → DpAll K H v (D.toPs d)
  | _, _, .nil, _ => .nil
  | _, _, .cons h r, e => by
    rw [D.plains, Bool.and_eq_true] at e
    exact .cons (DV.toP h e.1) (DVs.toP r e.2)
end
def D.ok (d : D) : Prop := d.plain = true ∧ SeqAt.shaped d.toP = true
def eqD (x y : D) : Bool := PyData.eqv x.toP y.toP
def okN : Nat → D → Bool
  | _, .non => true
  | _, .bl _ => true
  | _, .int _ => true
  | _, .str s => PyData.strOk s
  | n + 1, .lst l => l.all (okN n)
  | n + 1, .tup l => l.all (okN n)
  | _, _ => false
theorem okN_all {n : Nat} (ih : ∀ d, okN n d = true → d.plain = true ∧ d.toP.canLay0 = true ∧ d.toP.depth ≤ n) : ∀ l : List D, l.all (okN n) = true → D.plains l = true ∧ PyData.canLayAll0 (D.toPs l) = true ∧ PyData.depthAll (D.toPs l) ≤ n
  | [], _ => ⟨rfl, rfl, Nat.zero_le _⟩
  | d :: l, h => by
    rw [List.all_cons, Bool.and_eq_true] at h
    obtain ⟨a1, a2, a3⟩ := ih d h.1
    obtain ⟨b1, b2, b3⟩ := okN_all ih l h.2
    refine ⟨by rw [D.plains, a1, b1]; rfl, ?_, ?_⟩
    · rw [D.toPs, PyData.canLayAll0, a2, b2]
      rfl
    · rw [D.toPs, PyData.depthAll]
      omega
theorem okN_ok : ∀ (n : Nat) (d : D), okN n d = true → d.plain = true ∧ d.toP.canLay0 = true ∧ d.toP.depth ≤ n
  | n, .non, _ => ⟨rfl, by simp [D.toP, PyData.canLay0], by simp [D.toP, PyData.depth]⟩
  | n, .bl _, _ => ⟨rfl, by simp [D.toP, PyData.canLay0], by simp [D.toP, PyData.depth]⟩
  | n, .int _, _ => ⟨rfl, by simp [D.toP, PyData.canLay0], by simp [D.toP, PyData.depth]⟩
  | n, .str s, h => ⟨rfl, by simp [D.toP, PyData.canLay0]; simpa [okN] using h, by simp [D.toP, PyData.depth]⟩
  | n + 1, .lst l, h => by
    obtain ⟨a1, a2, a3⟩ := okN_all (okN_ok n) l (by simpa [okN] using h)
    exact ⟨by rw [D.plain]; exact a1, by rw [D.toP, PyData.canLay0]; exact a2, by rw [D.toP, PyData.depth]; omega⟩
  | n + 1, .tup l, h => by
    obtain ⟨a1, a2, a3⟩ := okN_all (okN_ok n) l (by simpa [okN] using h)
    exact ⟨by rw [D.plain]; exact a1, by rw [D.toP, PyData.canLay0]; exact a2, by rw [D.toP, PyData.depth]; omega⟩
  | n, .ins _ _, h => by simp [okN] at h
  | n, .dct _, h => by simp [okN] at h
  | n, .cls _, h => by simp [okN] at h
  | n, .ty _, h => by simp [okN] at h
  | 0, .lst _, h => by simp [okN] at h
  | 0, .tup _, h => by simp [okN] at h
abbrev okD (d : D) : Bool := okN 60 d
theorem ok_of {d : D} (h : okD d = true) : d.ok := by
  obtain ⟨a1, a2, a3⟩ := okN_ok 60 d h
  refine ⟨a1, ?_⟩
  unfold SeqAt.shaped
  rw [a2, Bool.true_and, decide_eq_true_eq]
  omega
def rEqA (K : PySem.W.Frag) : R2 := fun x y H Q => rEq x y H Q ∨ rEqD K x y H Q
def rNeA (K : PySem.W.Frag) : R2 := fun x y H Q => rNe x y H Q ∨ rNeD K x y H Q
def fEq (g : Bool → Bool) (a b : D) (p : D → Prop) : Prop := match a, b with
  | .int i, .int j => p (.bl (g (decide (i = j))))
  | .str i, .str j => p (.bl (g (decide (i = j))))
  | .bl i, .bl j => p (.bl (g (decide (i = j))))
  | .non, .str _ => p (.bl (g false))
  | .str _, .non => p (.bl (g false))
  | .int _, .str _ => p (.bl (g false))
  | .str _, .int _ => p (.bl (g false))
  | a, b => (okD a = true ∧ okD b = true) ∧ p (.bl (g (eqD a b)))
def oEq : O2 := rd2 (fEq id)
def oNe : O2 := rd2 (fEq not)
theorem fEq_rs {r : R2} {g : Bool → Bool} (h1 : ∀ x y H Q, scal x y = true → Q (.bl (g (decide (x = y)))) H → r x y H Q) (h2 : ∀ x y H Q d e, Dp K H x d → Dp K H y e → SeqAt.shaped d = true → SeqAt.shaped e = true → Q (.bl (g (PyData.eqv d e))) H → r x y H Q) : RS2 K r (fEq g) := fun H v u x y p a b h Q q => by
  unfold fEq at h
  split at h
  · cases a.to_int
    cases b.to_int
    rename_i i j
    refine h1 _ _ H Q rfl (q _ _ h ?_)
    rw [show decide (V.int i = V.int j) = decide (i = j) by simp]
    exact .bl _
  · cases a.to_str
    cases b.to_str
    rename_i i j
    refine h1 _ _ H Q rfl (q _ _ h ?_)
    rw [show decide (V.str i = V.str j) = decide (i = j) by simp]
    exact .bl _
  · cases a.to_bl
    cases b.to_bl
    rename_i i j
    refine h1 _ _ H Q rfl (q _ _ h ?_)
    rw [show decide (V.bl i = V.bl j) = decide (i = j) by simp]
    exact .bl _
  · cases a.to_non
    cases b.to_str
    exact h1 _ _ H Q rfl (q _ _ h (.bl _))
  · cases a.to_str
    cases b.to_non
    exact h1 _ _ H Q rfl (q _ _ h (.bl _))
  · cases a.to_int
    cases b.to_str
    exact h1 _ _ H Q rfl (q _ _ h (.bl _))
  · cases a.to_str
    cases b.to_int
    exact h1 _ _ H Q rfl (q _ _ h (.bl _))
  · obtain ⟨⟨ha, hb⟩, h⟩ := h
    have ha := ok_of ha
    have hb := ok_of hb
    exact h2 _ _ H Q _ _ (a.toP ha.1) (b.toP hb.1) ha.2 hb.2 (q _ _ h (.bl _))
theorem ob_eq (eK : X.K = K) (hu : X.A.units + 64 < cLine) : OB X K F (compareOp .Eq) oEq := by
  subst eK
  exact ⟨rEqA X.K, OpR.or op_eq (op_eqD hu), (fEq_rs (fun x y H Q s q => .inl ⟨s, q⟩) (fun x y H Q d e h1 h2 h3 h4 q => .inr ⟨d, e, h1, h2, h3, h4, q⟩)).ro⟩
theorem ob_ne (eK : X.K = K) (hu : X.A.units + 64 < cLine) : OB X K F (compareOp .NotEq) oNe := by
  subst eK
  exact ⟨rNeA X.K, OpR.or op_ne (op_neD hu), (fEq_rs (g := not) (fun x y H Q s q => .inl ⟨s, q⟩) (fun x y H Q d e h1 h2 h3 h4 q => .inr ⟨d, e, h1, h2, h3, h4, q⟩)).ro⟩
def W.isN : W → Bool
  | .d .non => true
  | _ => false
def oIsN : O2 := fun x y S P => match y with
  | .d .non => P (.d (.bl x.isN)) S
  | _ => False
def oNotN : O2 := fun x y S P => match y with
  | .d .non => P (.d (.bl (!x.isN))) S
  | _ => False
theorem Wv.isN {G : Hp} {v : V} {w : W} (h : Wv K G v w) : decide (v = .non) = w.isN := by
  cases h with
  | d h => cases h <;> rfl
  | ref a => rfl
  | tup _ _ => rfl
theorem ob_isN : OB X K F (compareOp .Is) oIsN := ⟨fun x y H Q => y = .non ∧ Q (.bl (decide (x = .non))) H, op_isN, fun M S H x y v u P k a b p Q q => by
  unfold oIsN at p
  split at p
  · cases b.to_d.to_non
    exact ⟨rfl, by rw [a.isN]; exact q _ H _ S p (.refl k) (.d (.bl _))⟩
  · exact p.elim⟩
def rNinX (K : PySem.W.Frag) : R2 := fun x y H Q => (rIn K true x y H Q ∨ rNotInD K x y H Q) ∨ ∃ i j, x = .str i ∧ y = .str j ∧ Q (.bl (!(!(Builtin.Str.occurrences j i 0 j.length 1).isEmpty))) H
def mapSc : List D → Option (List V)
  | [] => some []
  | d :: ds => match d.sc with
    | some v => (mapSc ds).map (v :: ·)
    | none => none
theorem DVs.of_sc {G : Hp} : ∀ {vs us : List V} {ds : List D}, DVs K G vs ds → mapSc ds = some us → vs = us
  | _, _, _, .nil, e => by cases e; rfl
  | _, us, d :: ds, .cons h r, e => by
    rw [mapSc] at e
    cases q : d.sc with
    | none => rw [q] at e; cases e
    | some v =>
      rw [q] at e
      cases q2 : mapSc ds with
      | none => rw [q2] at e; cases e
      | some ws =>
        rw [q2] at e
        cases e
        rw [h.of_sc q, DVs.of_sc r q2]
theorem flat_sc {d : D} {v : V} (h : d.sc = some v) : flatV v = true := by
  cases d <;> cases h <;> rfl
theorem flat_scs : ∀ {ds : List D} {vs : List V}, mapSc ds = some vs → vs.all flatV = true
  | [], _, e => by cases e; rfl
  | d :: ds, vs, e => by
    rw [mapSc] at e
    cases q : d.sc with
    | none => rw [q] at e; cases e
    | some v =>
      rw [q] at e
      cases q2 : mapSc ds with
      | none => rw [q2] at e; cases e
      | some ws =>
        rw [q2] at e
        cases e
        rw [List.all_cons, flat_sc q, flat_scs q2]
        rfl
def oneSign (s : Str) : Option Nat := match s.cps.toList with
  | [c] => some c
  | _ => none
def fIn (g : Bool → Bool) (a b : D) (p : D → Prop) : Prop := match b with
  | .str t => match a with
    | .str s => match oneSign s with
      | some c => p (.bl (g (decide (c ∈ t.cps.toList))))
      | none => False
    | _ => False
  | .lst ds => match a.sc, mapSc ds with
    | some u, some us => p (.bl (g (inV u us)))
    | _, _ => (okD a = true ∧ okD (.lst ds) = true) ∧ p (.bl (g (ds.any fun z => eqD z a)))
  | .tup ds => match a.sc, mapSc ds with
    | some u, some us => p (.bl (g (inV u us)))
    | _, _ => False
  | _ => False
theorem oneSign_eq {s : Str} {c : Nat} (h : oneSign s = some c) : s = ⟨#[c]⟩ := by
  unfold oneSign at h
  split at h
  · rename_i d e
    cases h
    cases s with
    | mk cps =>
      have e : cps.toList = [c] := e
      rw [show cps = #[c] from Array.toList_inj.mp (by simpa using e)]
  · cases h
theorem fIn_rs {r : R2} {g : Bool → Bool} (h1 : ∀ x y H Q (p : Addr) (xs : List V), y = .ref p → (SqL K H p xs ∨ SqT K H p xs) → flatV x = true → xs.all flatV = true → Q (.bl (g (inV x xs))) H → r x y H Q)
    (h2 : ∀ x y H Q d ds, Dp K H x d → Dp K H y (.list ds) → SeqAt.shaped d = true → SeqAt.shaped (.list ds) = true → Q (.bl (g (ds.any fun z => PyData.eqv z d))) H → r x y H Q)
    (h3 : ∀ H Q (c : Nat) (t : Str), Q (.bl (g (decide (c ∈ t.cps.toList)))) H → r (.str ⟨#[c]⟩) (.str t) H Q) : RS2 K r (fIn g) := fun H v u x y p a b h Q q => by
  unfold fIn at h
  split at h
  · cases b.to_str
    split at h
    · cases a.to_str
      split at h
      · rename_i c e
        rw [oneSign_eq e]
        exact h3 H Q c _ (q _ _ h (.bl _))
      · exact h.elim
    · exact h.elim
  · rename_i ds
    obtain ⟨l, vs, rfl, e1, e2⟩ := id b.to_lst
    split at h
    · rename_i w ws ew ews
      cases a.of_sc ew
      cases e2.of_sc ews
      exact h1 _ _ H Q l _ rfl (.inl (sqL e1)) (flat_sc ew) (flat_scs ews) (q _ _ h (.bl _))
    · obtain ⟨⟨ha, hb⟩, h⟩ := h
      have ha := ok_of ha
      have hb := ok_of hb
      refine h2 _ _ H Q _ (D.toPs ds) (a.toP ha.1) (b.toP hb.1) ha.2 hb.2 (q _ _ h ?_)
      rw [D.toPs_map, List.any_map]
      exact .bl _
  · obtain ⟨l, vs, rfl, e1, e2⟩ := b.to_tup
    split at h
    · rename_i w ws ew ews
      cases a.of_sc ew
      cases e2.of_sc ews
      exact h1 _ _ H Q l _ rfl (.inr e1) (flat_sc ew) (flat_scs ews) (q _ _ h (.bl _))
    · exact h.elim
  · exact h.elim
def oIn : O2 := rd2 (fIn id)
def oNin : O2 := rd2 (fIn not)
theorem ob_nin (eK : X.K = K) (hu : X.A.units + 65 < cLine) : OB X K F (compareOp .NotIn) oNin := by
  subst eK
  refine ⟨rNinX X.K, OpR.or (OpR.or op_notIn_seq (op_notInD hu)) op_notIn_str, (fIn_rs (g := not) (fun x y H Q p xs e1 e2 e3 e4 q => .inl (.inl ⟨p, xs, e1, e2, e3, e4, ?_⟩)) (fun x y H Q d ds e1 e2 e3 e4 q => .inl (.inr ⟨d, ds, e1, e2, e3, e4, q⟩)) (fun H Q c t q => .inr ⟨_, _, rfl, rfl, ?_⟩)).ro⟩
  · rw [if_pos rfl]; exact q
  · rw [PySem.StrLaws.found_one]; exact q

theorem Wvs.atI {G : Hp} {vs : List V} {ds : List W} {i : Int} {d : W} (h : Wvs K G vs ds) (e : L2.atI ds i = some d) : ∃ v, L2.atI vs i = some v ∧ Wv K G v d := by
  unfold L2.atI at e ⊢
  rw [h.length]
  cases q : ixN ds.length i with
  | none =>
    rw [q] at e
    cases e
  | some j =>
    rw [q] at e
    exact h.get e
def oIx : O2 := fun x y S P => match y with
  | .d (.int i) => match lseq S x with
    | some ws => match L2.atI ws i with
      | some w => P w S
      | none => False
    | none => match tseq x with
      | some ws => match L2.atI ws i with
        | some w => P w S
        | none => False
      | none => match x with
        | .d (.str z) => match L2.atI z.cps.toList i with
          | some c => z.length ≤ 100000 ∧ P (.d (.str ⟨#[c]⟩)) S
          | none => False
        | _ => False
  | _ => False
theorem ro_ix : RO2 K F (rIx K) oIx := fun M S H x y v u P k a b p Q q => by
  unfold oIx at p
  split at p
  · cases b.to_d.to_int
    split at p
    · rename_i ws e
      obtain ⟨l, vs, rfl, h1, h2⟩ := lseq_ok k.cell a e
      split at p
      · rename_i w ew
        obtain ⟨z, g1, g2⟩ := h2.atI ew
        exact .inl ⟨l, vs, _, z, rfl, rfl, sqL h1, g1, q _ H _ S p (.refl k) g2⟩
      · exact p.elim
    · split at p
      · rename_i ws e
        obtain ⟨l, vs, rfl, h1, h2⟩ := tseq_ok a e
        split at p
        · rename_i w ew
          obtain ⟨z, g1, g2⟩ := h2.atI ew
          exact .inr (.inl ⟨l, vs, _, z, rfl, rfl, gS_sub.t h1, g1, q _ H _ S p (.refl k) g2⟩)
        · exact p.elim
      · split at p
        · cases a.to_d.to_str
          split at p
          · rename_i c ec
            exact .inr (.inr ⟨_, _, c, rfl, rfl, Nat.le_trans p.1 (by decide), ec, q _ H _ S p.2 (.refl k) (.d (.str _))⟩)
          · exact p.elim
        · exact p.elim
  · exact p.elim
def cutW {α : Type} (xs : List α) (lo hi : Option Int) : List α := (xs.drop (HT.sIx xs.length 0 lo)).take (HT.sIx xs.length xs.length hi - HT.sIx xs.length 0 lo)
theorem Wvs.cut {G : Hp} {vs : List V} {ds : List W} (h : Wvs K G vs ds) (lo hi : Option Int) : Wvs K G (cutV vs lo hi) (cutW ds lo hi) := by
  unfold cutV cutW
  rw [h.length]
  exact (h.drop _).take _
end DX

set_option Elab.async false
set_option linter.all false
set_option maxRecDepth 100000
namespace DX
open PySem L2
variable {K : PySem.W.Frag} {F : Fr} {X : Cx}
theorem Wvs.one {G : Hp} {vs : List V} {w : W} (h : Wvs K G vs [w]) : ∃ v, vs = [v] ∧ Wv K G v w := by
  cases h with
  | cons a r => cases r; exact ⟨_, rfl, a⟩
theorem Wvs.two {G : Hp} {vs : List V} {w u : W} (h : Wvs K G vs [w, u]) : ∃ v z, vs = [v, z] ∧ Wv K G v w ∧ Wv K G z u := by
  cases h with
  | cons a r => cases r with
    | cons b r => cases r; exact ⟨_, _, rfl, a, b⟩
def bLen : ON := fun xs S P => match xs with
  | [x] => match seqW S x with
    | some ws => P (.d (.int ws.length)) S
    | none => match x with
      | .d (.str z) => z.length ≤ 100000 ∧ P (.d (.int z.length)) S
      | _ => False
  | _ => False
theorem oc_len (eK : X.K = K) : OC X K F (.builtin "len") bLen := by
  subst eK
  refine ⟨_, call_len, fun M S H xs vs P k a p Q q => ?_⟩
  unfold bLen at p
  split at p
  · obtain ⟨v, rfl, a1⟩ := a.one
    split at p
    · rename_i x ws e
      obtain ⟨l, us, rfl, h1, h2⟩ := seqW_ok k.cell a1 e
      refine ⟨_, us.length, rfl, ?_, ?_⟩
      · rcases h1 with h1 | h1
        · exact .inl ⟨us, h1, rfl⟩
        · exact .inr ⟨us, h1, rfl⟩
      · rw [h2.length]
        exact q _ H _ S p (.refl k) (.d (.int _))
    · split at p
      · cases a1.to_d.to_str
        exact ⟨_, _, rfl, ⟨Nat.le_trans p.1 (by decide), rfl⟩, q _ H _ S p.2 (.refl k) (.d (.int _))⟩
      · exact p.elim
  · exact p.elim
def bInt : ON := fun xs S P => match xs with
  | [.d (.int i)] => P (.d (.int i)) S
  | [.d (.bl b)] => P (.d (.int (if b then 1 else 0))) S
  | _ => False
theorem oc_int : OC X K F (.type "int") bInt := ⟨_, call_int1, fun M S H xs vs P k a p Q q => by
  unfold bInt at p
  split at p
  · obtain ⟨v, rfl, a1⟩ := a.one
    cases a1.to_d.to_int
    exact .inl ⟨_, rfl, q _ H _ S p (.refl k) (.d (.int _))⟩
  · obtain ⟨v, rfl, a1⟩ := a.one
    cases a1.to_d.to_bl
    exact .inr ⟨_, rfl, q _ H _ S p (.refl k) (.d (.int _))⟩
  · exact p.elim⟩
def allB : List W → Option (List Bool)
  | [] => some []
  | .d (.bl b) :: ws => (allB ws).map (b :: ·)
  | _ => none
theorem allB_inv : ∀ {ws : List W} {bs : List Bool}, allB ws = some bs → ws = bs.map fun b => .d (.bl b)
  | [], _, h => by cases h; rfl
  | w :: ws, bs, h => by
    unfold allB at h
    split at h
    · rename_i e
      cases e
    · rename_i b l e
      cases e
      cases q : allB ws with
      | none => rw [q] at h; cases h
      | some es =>
        rw [q] at h
        cases h
        rw [allB_inv q]
        rfl
    · cases h
theorem allB_map : ∀ bs : List Bool, allB (bs.map fun b => .d (.bl b)) = some bs
  | [] => rfl
  | b :: bs => by rw [List.map_cons, allB, allB_map bs]; rfl
def bAll : ON := fun xs S P => match xs with
  | [x] => match lseq S x with
    | some ws => match allB ws with
      | some bs => P (.d (.bl (bs.all id))) S
      | none => False
    | none => False
  | _ => False
def bAny : ON := fun xs S P => match xs with
  | [x] => match lseq S x with
    | some ws => match allB ws with
      | some bs => P (.d (.bl (bs.any id))) S
      | none => False
    | none => False
  | _ => False
theorem oc_all (eK : X.K = K) (hc : X.calm = true) : OC X K F (.builtin "all") bAll := by
  subst eK
  refine ⟨rAll X.K, cr_all hc, fun M S H xs vs P k a p Q q => ?_⟩
  unfold bAll at p
  split at p
  · obtain ⟨v, rfl, a1⟩ := a.one
    split at p
    · rename_i x ws e
      obtain ⟨l, us, rfl, h1, h2⟩ := lseq_ok k.cell a1 e
      split at p
      · rename_i bs eb
        rw [allB_inv eb] at h2
        cases h2.bls
        exact ⟨l, bs, rfl, sqL h1, q _ H _ S p (.refl k) (.d (.bl _))⟩
      · exact p.elim
    · exact p.elim
  · exact p.elim
theorem oc_any (eK : X.K = K) (hc : X.calm = true) : OC X K F (.builtin "any") bAny := by
  subst eK
  refine ⟨rAny X.K, cr_any hc, fun M S H xs vs P k a p Q q => ?_⟩
  unfold bAny at p
  split at p
  · obtain ⟨v, rfl, a1⟩ := a.one
    split at p
    · rename_i x ws e
      obtain ⟨l, us, rfl, h1, h2⟩ := lseq_ok k.cell a1 e
      split at p
      · rename_i bs eb
        rw [allB_inv eb] at h2
        cases h2.bls
        exact ⟨l, bs, rfl, sqL h1, q _ H _ S p (.refl k) (.d (.bl _))⟩
      · exact p.elim
    · exact p.elim
  · exact p.elim
def mx : List Int → Int
  | [] => 0
  | [a] => a
  | a :: b :: l => max a (mx (b :: l))
def mn (l : List Int) : Int := -(mx (l.map fun x => -x))
def bList (c : Bool) : ON := fun xs S P => match xs with
  | [x] => match seqW S x with
    | some ws => newLC c ws S P
    | none => False
  | _ => False
theorem oc_list {c : Bool} (eK : X.K = K) : OC X K F (.type "list") (bList c) := by
  subst eK
  refine ⟨_, call_list_of, fun M S H xs vs P k a p Q q => ?_⟩
  unfold bList at p
  split at p
  · obtain ⟨v, rfl, a1⟩ := a.one
    split at p
    · rename_i x ws e
      obtain ⟨l, us, rfl, h1, h2⟩ := seqW_ok k.cell a1 e
      exact ⟨l, us, rfl, h1, fun n hn => new_lst k h2 hn p q⟩
    · exact p.elim
  · exact p.elim
def bTup : ON := fun xs S P => match xs with
  | [x] => match seqW S x with
    | some ws => P (mkT ws) S
    | none => False
  | _ => False
theorem oc_tup (eK : X.K = K) : OC X K F (.type "tuple") bTup := by
  subst eK
  refine ⟨_, call_tuple_of, fun M S H xs vs P k a p Q q => ?_⟩
  unfold bTup at p
  split at p
  · obtain ⟨v, rfl, a1⟩ := a.one
    split at p
    · rename_i y x ws e
      unfold seqW at e
      cases q1 : lseq S y with
      | some l =>
        rw [q1] at e
        cases e
        obtain ⟨l, us, rfl, h1, h2⟩ := lseq_ok k.cell a1 q1
        exact ⟨l, us, rfl, .inl ⟨sqL h1, fun n hn => new_tup k h2 hn p q⟩⟩
      | none =>
        rw [q1] at e
        obtain ⟨l, us, rfl, h1, h2⟩ := tseq_ok a1 e
        exact ⟨l, us, rfl, .inr ⟨gS_sub.t h1, q _ H _ S p (.refl k) (a1.retup e)⟩⟩
    · exact p.elim
  · exact p.elim
def bStr : ON := fun xs S P => match xs with
  | [.d (.int i)] => i.natAbs < 2 ^ 60 ∧ P (.d (.str (toString i))) S
  | [.d (.str s)] => P (.d (.str s)) S
  | _ => False
theorem oc_str : OC X K F (.type "str") bStr := ⟨_, CallR.or call_str_int SkE.call_str_str, fun M S H xs vs P k a p Q q => by
  unfold bStr at p
  split at p
  · obtain ⟨v, rfl, a1⟩ := a.one
    cases a1.to_d.to_int
    exact .inl ⟨_, rfl, Nat.lt_of_lt_of_le (PySem.Flt.log2_lt_of (by decide) p.1) (by decide), q _ H _ S p.2 (.refl k) (.d (.str _))⟩
  · obtain ⟨v, rfl, a1⟩ := a.one
    cases a1.to_d.to_str
    exact .inr ⟨_, rfl, q _ H _ S p (.refl k) (.d (.str _))⟩
  · exact p.elim⟩

inductive Tg where
  | non | bl | int | str | lst | tup | dct | own (C : String)
def Tg.bname : Tg → String
  | .non => "NoneType" | .bl => "bool" | .int => "int" | .str => "str" | .lst => "list" | .tup => "tuple" | .dct => "dict" | .own _ => ""
noncomputable def Tg.val (K : PySem.W.Frag) : Tg → Value
  | .own C => .ref (clsAt K C)
  | t => .type t.bname
def D.tg : D → Option Tg
  | .non => some .non | .bl _ => some .bl | .int _ => some .int | .str _ => some .str | .lst _ => some .lst | .tup _ => some .tup | .dct _ => some .dct | .ins C _ => some (.own C)
  | _ => none
def W.tg (S : Store) : W → Option Tg
  | .d x => x.tg
  | .tup _ => some .tup
  | .ref a => match S a with
    | some (.lst _) => some .lst
    | some (.dct _) => some .dct
    | some (.dctT _) => some .dct
    | some (.obj C _) => some (.own C)
    | none => none
def D.ctg : D → Option Tg
  | .ty n => if n = "bool" then some .bl else if n = "int" then some .int else if n = "str" then some .str else if n = "list" then some .lst else if n = "tuple" then some .tup else if n = "dict" then some .dct else none
  | .cls C => some (.own C)
  | _ => none
structure TyC (K : PySem.W.Frag) (C : Addr) : Prop where
  cl : Cls K C
  ha : PySem.W.findIn K (.ref C) "__class__" = some (some (.builtin "object.__class__"))
  hn : PySem.W.specialIn K (.builtin "object.__class__") "__get__" = some (some (.builtin "getset_descriptor.__get__"))
  ht : PySem.W.takesIn K (.builtin "object.__class__") = some true
  hm : PySem.W.mroIn K C (.type "object") = some true
structure IsiT (K : PySem.W.Frag) (cs : List String) (sub : String → String → Bool) : Prop where
  ty : ∀ C ∈ cs, TyC K (clsAt K C)
  own : ∀ C ∈ cs, ∀ E ∈ cs, PySem.W.kitOne K (.ref (clsAt K C)) (.ref (clsAt K E)) = some (sub C E)
  up : ∀ C ∈ cs, ∀ n ∈ ["bool", "int", "str", "list", "tuple", "dict"], PySem.W.kitOne K (.ref (clsAt K C)) (.type n) = some false
  dn : ∀ C ∈ cs, ∀ n ∈ ["NoneType", "bool", "int", "str", "list", "tuple", "dict"], PySem.W.kitOne K (.type n) (.ref (clsAt K C)) = some false
def isI (cs : List String) (sub : String → String → Bool) : Tg → Tg → Option Bool
  | .own C, .own E => if C ∈ cs ∧ E ∈ cs then some (sub C E) else none
  | .own C, .non => none
  | .own C, _ => if C ∈ cs then some false else none
  | _, .own C => if C ∈ cs then some false else none
  | .non, .non => some true | .bl, .bl => some true | .int, .int => some true | .str, .str => some true | .lst, .lst => some true | .tup, .tup => some true | .dct, .dct => some true
  | .bl, .int => some true
  | _, .non => none
  | _, _ => some false
theorem kit_isI {cs : List String} {sub : String → String → Bool} (T : IsiT K cs sub) : ∀ (t u : Tg) (b : Bool), isI cs sub t u = some b → PySem.W.kitOne K (t.val K) (u.val K) = some b := fun t u b h => by
  have bb : ∀ {t u : Tg}, isI cs sub t u = some b → (∀ C, t ≠ .own C) → (∀ C, u ≠ .own C) → kitB t.bname u.bname = some b := by
    intro t u h h1 h2
    rcases t with _ | _ | _ | _ | _ | _ | _ | C
    case own => exact absurd rfl (h1 C)
    all_goals
      rcases u with _ | _ | _ | _ | _ | _ | _ | E
      case own => exact absurd rfl (h2 E)
      all_goals (simp only [isI, Option.some.injEq, reduceCtorEq] at h)
      all_goals (subst h; decide +kernel)
  cases t with
  | own C =>
    cases u with
    | own E =>
      simp only [isI] at h
      split at h
      · rename_i hh
        cases h
        exact T.own C hh.1 E hh.2
      · cases h
    | non => cases h
    | _ =>
      simp only [isI] at h
      split at h
      · rename_i hh
        cases h
        exact T.up C hh _ (by simp [Tg.bname])
      · cases h
  | _ =>
    cases u with
    | own E =>
      simp only [isI] at h
      split at h
      · rename_i hh
        cases h
        exact T.dn E hh _ (by simp [Tg.bname])
      · cases h
    | _ => exact kit_ty (bb h (fun C z => by cases z) (fun C z => by cases z))
theorem tyx_ins {H : Hp} {a dx C : Addr} {fs : List (Str × V)} (e : H a = some (.ins C dx fs)) (t : TyC K C) : TyX K H (.ref a) (.ref C) := .base (.ins e t.cl t.ha t.hn t.ht t.hm)
theorem tyx_tup {H : Hp} {a : Addr} {xs : List V} (h : SqT K H a xs) : TyX K H (.ref a) (.type "tuple") := by
  rcases h with (h | ⟨o, h⟩) | ⟨o, its, n, h1, h2, _⟩
  · exact .base (.tup h)
  · exact .fTuple h
  · exact .kTuple h1 h2
def Tg.inC (cs : List String) : Tg → Prop
  | .own C => C ∈ cs
  | _ => True
theorem Wv.tyX {cs : List String} {sub : String → String → Bool} (T : IsiT K cs sub) {M : Hid} {S : Store} {H : Hp} (k : OkC K M S H) {v : V} {w : W} {t : Tg} (h : Wv K (gS M S H) v w) (e : w.tg S = some t) (hc : t.inC cs) : TyX K H v (t.val K) := by
  cases h with
  | d h =>
    cases h with
    | non => cases e; exact .base .non
    | bl b => cases e; exact .base (.bl b)
    | int b => cases e; exact .base (.int b)
    | str b => cases e; exact .base (.str b)
    | lst h r => cases e; exact .base (.lst (gS_sub _ _ h))
    | tup h r => cases e; exact tyx_tup (gS_sub.t h)
    | dct h r => cases e; exact .base (.dK (gS_sub _ _ h))
    | ins h r => cases e; exact tyx_ins (gS_sub _ _ h) (T.ty _ hc)
    | cls c => cases e
    | ty c => cases e
  | tup h r => cases e; exact tyx_tup (gS_sub.t h)
  | ref a =>
    simp only [W.tg] at e
    cases q : S a with
    | none => rw [q] at e; cases e
    | some c =>
      rw [q] at e
      cases k a c q with
      | lst h r => cases e; exact .base (.lst h)
      | obj h r => cases e; exact tyx_ins h (T.ty _ hc)
      | dct h r => cases e; exact .base (.dK h)
      | dctT h r => cases e; exact .base (.dT h)
theorem isI_in {cs : List String} {sub : String → String → Bool} {t u : Tg} {b : Bool} (h : isI cs sub t u = some b) : t.inC cs := by
  cases t with
  | own C =>
    cases u with
    | own E =>
      simp only [isI] at h
      split at h
      · rename_i hh; exact hh.1
      · cases h
    | non => cases h
    | _ =>
      simp only [isI] at h
      split at h
      · rename_i hh; exact hh
      · cases h
  | _ => trivial
theorem ctg_v {G : Hp} {v : V} {d : D} {u : Tg} (h : DV K G v d) (e : d.ctg = some u) : ClsV v (u.val K) := by
  cases h with
  | cls C => cases e; exact .own _
  | ty n =>
    simp only [D.ctg] at e
    split at e
    · cases e; rename_i h; subst h; exact .ty _
    split at e
    · cases e; rename_i h; subst h; exact .ty _
    split at e
    · cases e; rename_i h; subst h; exact .ty _
    split at e
    · cases e; rename_i h; subst h; exact .ty _
    split at e
    · cases e; rename_i h; subst h; exact .ty _
    split at e
    · cases e; rename_i h; subst h; exact .ty _
    · cases e
  | _ => cases e
def isAny (cs : List String) (sub : String → String → Bool) (t : Tg) : List D → Option Bool
  | [] => some false
  | d :: ds => match d.ctg with
    | some u => match isI cs sub t u with
      | some true => some true
      | some false => isAny cs sub t ds
      | none => none
    | none => none
def bIsi (cs : List String) (sub : String → String → Bool) : ON := fun xs S P => match xs with
  | [x, .d c] => match x.tg S, c.ctg with
    | some t, some u => match isI cs sub t u with
      | some b => P (.d (.bl b)) S
      | none => False
    | _, _ => False
  | _ => False
theorem ctgs_v {G : Hp} : ∀ {vs : List V} {ds : List D}, DVs K G vs ds → ds.all (fun d => d.ctg.isSome) = true → ∃ us, Paired ClsV vs us ∧ us = ds.map fun d => (d.ctg.getD .non).val K
  | _, _, .nil, _ => ⟨[], .nil, rfl⟩
  | _, d :: ds, .cons h r, e => by
    rw [List.all_cons, Bool.and_eq_true] at e
    obtain ⟨us, h1, h2⟩ := ctgs_v r e.2
    cases q : d.ctg with
    | none => rw [q] at e; exact absurd e.1 (by decide)
    | some u => exact ⟨_, .cons (ctg_v h q) h1, by rw [List.map_cons, q, h2]; rfl⟩
theorem kit_any {cs : List String} {sub : String → String → Bool} (T : IsiT K cs sub) {t : Tg} : ∀ {ds : List D} {b : Bool}, isAny cs sub t ds = some b → PySem.W.kitAny K (t.val K) (ds.map fun d => (d.ctg.getD .non).val K) = some b
  | [], b, h => by cases h; exact kitAny_nil
  | d :: ds, b, h => by
    rw [isAny] at h
    cases q : d.ctg with
    | none => rw [q] at h; cases h
    | some u =>
      rw [q] at h
      rw [List.map_cons, q]
      dsimp only at h
      cases q2 : isI cs sub t u with
      | none => rw [q2] at h; cases h
      | some c =>
        rw [q2] at h
        refine kitAny_cons (kit_isI T t u c q2) (fun e => ?_) (fun e => ?_)
        · subst e; exact kit_any T h
        · subst e; cases h; rfl
theorem oc_isi {cs : List String} {sub : String → String → Bool} (eK : X.K = K) (T : IsiT K cs sub) : OC X K F (.builtin "isinstance") (bIsi cs sub) := by
  subst eK
  refine ⟨_, call_isi, fun M S H xs vs P k a p Q q => ?_⟩
  unfold bIsi at p
  split at p
  · obtain ⟨v, z, rfl, a1, b1⟩ := a.two
    split at p
    · rename_i t u et eu
      split at p
      · rename_i r er
        exact ⟨v, z, _, _, r, rfl, ctg_v b1.to_d eu, a1.tyX T k.cell et (isI_in er), kit_isI T t u r er, q _ H _ S p (.refl k) (.d (.bl _))⟩
      · exact p.elim
    · exact p.elim
  · exact p.elim
def fIsiT (cs : List String) (sub : String → String → Bool) (x : W) (ws : List W) (S : Store) (P : W → Store → Prop) : Prop := match allD ws with
  | some ds => match x.tg S with
    | some t => match isAny cs sub t ds with
      | some b => Tg.inC cs t ∧ ds.all (fun d => d.ctg.isSome) = true ∧ P (.d (.bl b)) S
      | none => False
    | none => False
  | none => False
theorem isiT_ok {cs : List String} {sub : String → String → Bool} (T : IsiT K cs sub) {M : Hid} {S : Store} {H : Hp} {x : W} {ws : List W} {v : V} {vs : List V} {P : W → Store → Prop} {l : Addr} (k : Ok K F M S H) (hn : H l = none) (a : Wv K (gS M S H) v x) (b : Wvs K (gS M S H) vs ws) (p : fIsiT cs sub x ws S P)
    (Q : VK) (q : ∀ z H' w S', P w S' → St K F M S H S' H' → Wv K (gS M S' H') z w → Q z H') : rIsiT K [v, .ref l] (upd H l (.tup vs)) Q := by
  unfold fIsiT at p
  split at p
  · rename_i ds ed
    rw [allD_inv ed] at b
    split at p
    · rename_i t et
      split at p
      · rename_i r er
        obtain ⟨hc, hall, p⟩ := p
        obtain ⟨cs', c1, c2⟩ := ctgs_v b.ds hall
        have s : St K F M S H S (upd H l (.tup vs)) := .new k hn
        have kk := kit_any T er
        rw [← c2] at kk
        exact ⟨v, l, vs, _, cs', r, rfl, upd_same, c1, (a.mono s.sub).tyX T s.ok.cell et hc, kk, q _ _ _ S p s (.d (.bl _))⟩
      · exact p.elim
    · exact p.elim
  · exact p.elim
end DX

set_option Elab.async false
set_option linter.all false
set_option maxRecDepth 100000
namespace DX
open PySem L2

section
variable (X : Cx)
def tW (e : Expr) : TE := fun σ H Q => ∀ (pins : List (Addr × Obj)) (s : Shared), Inv X pins σ H s → wpAny (model X.prog X.w) X.A (eval e X.env) (EP X pins σ Q) X.xe s
def tWT (e : Expr) : TT := fun σ H Q => ∀ (pins : List (Addr × Obj)) (s : Shared), Inv X pins σ H s → wpAny (model X.prog X.w) X.A (isTrue e X.env (eval e X.env)) (TP X pins σ Q) X.xe s
def tWW (e : Expr) : TT := fun σ H Q => ∀ (whole : Sem Value) (pins : List (Addr × Obj)) (s : Shared), Inv X pins σ H s → wpAny (model X.prog X.w) X.A (isTrue e X.env whole) (TP X pins σ Q) X.xe s
def tWA (es : List Expr) : TA := fun σ H Q => ∀ (pos : Pos) (pins : List (Addr × Obj)) (s : Shared), Inv X pins σ H s → wpAny (model X.prog X.w) X.A (spliced (backTo pos (starEach es X.env))) (AP X pins σ Q) X.xe s
def tWS (st : Stmt) : TS := fun D σ H => ∀ (pins : List (Addr × Obj)) (s : Shared), Inv X pins σ H s → wpAny (model X.prog X.w) X.A (exec st X.env) (SP X pins D) X.xe s
def tWSs (st : List Stmt) : TS := fun D σ H => ∀ (pins : List (Addr × Obj)) (s : Shared), Inv X pins σ H s → wpAny (model X.prog X.w) X.A (execs st X.env) (SP X pins D) X.xe s
def tWG (tg : Expr) : TG := fun v σ H Q => ∀ (pins : List (Addr × Obj)) (s : Shared) (u : Value), Inv X pins σ H s → RelV v u → wpAny (model X.prog X.w) X.A (assign tg X.env u) (fun _ s' => ∃ σ' H', Inv X pins σ' H' s' ∧ Q σ' H') X.xe s
def tWGs (ts : List Expr) : TGs := fun vs σ H Q => ∀ (pins : List (Addr × Obj)) (s : Shared) (us : List Value), Inv X pins σ H s → Vals vs us → wpAny (model X.prog X.w) X.A (assignInOrder ((assignEach ts X.env).map (·.2)) us) (fun _ s' => ∃ σ' H', Inv X pins σ' H' s' ∧ Q σ' H') X.xe s
end
section
variable {X : Cx} {e : Expr} {es : List Expr} {st : Stmt} {sts : List Stmt}
theorem pe : PE X e (tW X e) := ⟨fun pins s σ H Q I h => h pins s I⟩
theorem pt : PT X e (tWT X e) := ⟨fun pins s σ H Q I h => h pins s I⟩
theorem pw : PW X e (tWW X e) := ⟨fun wh pins s σ H Q I h => h wh pins s I⟩
theorem pa : PA X es (tWA X es) := ⟨fun pos pins s σ H Q I h => h pos pins s I⟩
theorem ps : PS X st (tWS X st) := ⟨fun pins s σ H D I h => h pins s I⟩
theorem pss : PSs X sts (tWSs X sts) := ⟨fun pins s σ H D I h => h pins s I⟩
theorem pg : PG X e (tWG X e) := ⟨fun pins s σ H v u Q I r h => h pins s u I r⟩
theorem pgs : PGs X es (tWGs X es) := ⟨fun pins s σ H v u Q I r h => h pins s u I r⟩
end
section
variable (X : Cx) (K : PySem.W.Frag) (F : Fr)
def JE (e : Expr) (m : EM) : Prop := ∀ δ S P, m δ S P (fun x T => F.X x δ T) → WE K F (tW X e) δ S P
def JT (e : Expr) (m : TM) : Prop := ∀ δ S P, m δ S P (fun x T => F.X x δ T) → WT K F (tWT X e) δ S P
def JW (e : Expr) (m : TM) : Prop := ∀ δ S P, m δ S P (fun x T => F.X x δ T) → WT K F (tWW X e) δ S P
def JA (es : List Expr) (m : AM) : Prop := ∀ δ S P, m δ S P (fun x T => F.X x δ T) → WA K F (tWA X es) δ S P
end
section
variable {X : Cx} {K : PySem.W.Frag} {F : Fr} {S : Store} {δ : Slots} {a b c e : Expr} {es rest : List Expr} {ma mb mc m : EM} {pos : Pos}
theorem WE.imp {te : TE} {P P' : W → Store → Prop} (h : WE K F te δ S P) (i : ∀ w T, P w T → P' w T) : WE K F te δ S P' := fun M σ H k x Q q => h M σ H k x Q fun v H' w S' p => q v H' w S' (i w S' p)
theorem WT.imp {te : TT} {P P' : Bool → Store → Prop} (h : WT K F te δ S P) (i : ∀ w T, P w T → P' w T) : WT K F te δ S P' := fun M σ H k x Q q => h M σ H k x Q fun v H' S' p => q v H' S' (i v S' p)
theorem WA.imp {te : TA} {P P' : List W → Store → Prop} (h : WA K F te δ S P) (i : ∀ w T, P w T → P' w T) : WA K F te δ S P' := fun M σ H k x Q q => h M σ H k x Q fun v H' w S' p => q v H' w S' (i w S' p)
theorem JE.of {t : TE} (h : PE X e t) (w : ∀ δ S P, m δ S P (fun x T => F.X x δ T) → WE K F t δ S P) : JE X K F e m := fun δ S P q M σ H k x Q c pins s I => h.run pins s σ H Q I (w δ S P q M σ H k x Q c)
theorem JT.of {t : TT} {m : TM} (h : PT X e t) (w : ∀ δ S P, m δ S P (fun x T => F.X x δ T) → WT K F t δ S P) : JT X K F e m := fun δ S P q M σ H k x Q c pins s I => h.run pins s σ H Q I (w δ S P q M σ H k x Q c)
theorem JW.of {t : TT} {m : TM} (h : PW X e t) (w : ∀ δ S P, m δ S P (fun x T => F.X x δ T) → WT K F t δ S P) : JW X K F e m := fun δ S P q M σ H k x Q c wh pins s I => h.run wh pins s σ H Q I (w δ S P q M σ H k x Q c)
theorem JA.of {t : TA} {m : AM} (h : PA X es t) (w : ∀ δ S P, m δ S P (fun x T => F.X x δ T) → WA K F t δ S P) : JA X K F es m := fun δ S P q M σ H k x Q c ps pins s I => h.run ps pins s σ H Q I (w δ S P q M σ H k x Q c)

def mC (d : D) : EM := fun δ S P X => P (.d d) S
def mVar (i : Nat) : EM := fun δ S P X => match δ[i]? with
  | some (some w) => P w S
  | _ => False
theorem we_c {v : V} {d : D} {P : W → Store → Prop} (hv : ∀ G, DV K G v d) (q : P (.d d) S) : WE K F (tC v) δ S P := fun M σ H k x Q c => c v H _ S q (.refl k) (.d (hv _))
theorem je_var (i : Nat) (h : PE X e (tVar i)) : JE X K F e (mVar i) := .of h fun δ S P q M σ H k x Q c => by
  unfold mVar at q
  split at q
  · rename_i w ew
    obtain ⟨v, h1, h2⟩ := x.at_ i w ew
    exact ⟨v, h1, c v H w S q (.refl k) h2⟩
  · exact q.elim
theorem je_int {i : Int} {j p} : JE X K F (.Constant (.int i) j p) (mC (.int i)) := .of pe_int fun δ S P q => we_c (fun _ => .int i) q
theorem je_bl {i : Bool} {j p} : JE X K F (.Constant (.bool i) j p) (mC (.bl i)) := .of pe_bl fun δ S P q => we_c (fun _ => .bl i) q
theorem je_non {j p} : JE X K F (.Constant .none j p) (mC .non) := .of pe_non fun δ S P q => we_c (fun _ => .non) q
theorem je_str {i : Str} {j p} : JE X K F (.Constant (.str i) j p) (mC (.str i)) := .of pe_str fun δ S P q => we_c (fun _ => .str i) q
theorem je_con {v : V} {d : D} (h : PE X e (tC v)) (hv : ∀ G, DV K G v d) : JE X K F e (mC d) := .of h fun δ S P q => we_c hv q

def mOp (o : O2) (ma mb : EM) : EM := fun δ S P X => ma δ S (fun x S1 => mb δ S1 (fun y S2 => o x y S2 P) X) X
def mUn (o : O1) (ma : EM) : EM := fun δ S P X => ma δ S (fun x S1 => o x S1 P) X
theorem we_op {r : R2} {o : O2} {ta tb : TE} {P : W → Store → Prop} (hr : RO2 K F r o) (h : WE K F ta δ S fun x S1 => WE K F tb δ S1 fun y S2 => o x y S2 P) : WE K F (tOp r ta tb) δ S P := fun M σ H k x Q c =>
  h M σ H k x _ fun v H1 w1 S1 p1 s1 v1 => p1 M σ H1 s1.ok (s1.slots x) _ fun u H2 w2 S2 p2 s2 v2 => hr M S2 H2 w1 w2 v u P s2.ok (v1.mono s2.sub) v2 p2 Q fun z H3 w3 S3 p3 s3 v3 => c z H3 w3 S3 p3 ((s1.trans s2).trans s3) v3
theorem je_op {op : Operator} {o : O2} (ho : OB X K F (binaryOp op) o) (ja : JE X K F a ma) (jb : JE X K F b mb) : JE X K F (.BinOp a op b pos) (mOp o ma mb) := by
  obtain ⟨r, h1, h2⟩ := ho
  exact .of (pe_op h1 pe pe) fun δ S P q => we_op h2 ((ja δ S _ q).imp fun w T q => jb δ T _ q)
theorem je_cmp {op : CmpOp} {o : O2} (ho : OB X K F (compareOp op) o) (hm : behindInMarks op b = false) (ja : JE X K F a ma) (jb : JE X K F b mb) : JE X K F (.Compare a [op] [b] pos) (mOp o ma mb) := by
  obtain ⟨r, h1, h2⟩ := ho
  exact .of (pe_cmpR h1 pe pe hm) fun δ S P q => we_op h2 ((ja δ S _ q).imp fun w T q => jb δ T _ q)
def mChain (o o' : O2) (ma mb mc : EM) : EM := fun δ S P X => ma δ S (fun x S1 => mb δ S1 (fun y S2 => o x y S2 fun z S3 => match z with
  | .d (.bl true) => mc δ S3 (fun w S4 => o' y w S4 P) X
  | .d (.bl false) => P (.d (.bl false)) S3
  | _ => False) X) X
def truW (S : Store) (w : W) : Option Bool := match w with
  | .d .non => some false
  | .d (.bl b) => some b
  | .d (.int i) => some (i != 0)
  | .d (.str s) => if s.length ≤ 100000 then some ((s.length : Int) != 0) else none
  | .d (.dct l) => some (!l.isEmpty)
  | w => match seqW S w with
    | some ws => some (!ws.isEmpty)
    | none => match w with
      | .ref a => match S a with
        | some (.dct l) => some (!l.isEmpty)
        | _ => none
      | _ => none
theorem Wvs.isEmpty {G : Hp} {vs : List V} {ws : List W} (h : Wvs K G vs ws) : vs.isEmpty = ws.isEmpty := by cases h <;> rfl
theorem DVk.isEmpty {G : Hp} {vs : List (Key × V)} {ws : List (Key × D)} (h : DVk K G vs ws) : vs.isEmpty = ws.isEmpty := by cases h <;> rfl
theorem Wvk.isEmpty {G : Hp} {vs : List (Key × V)} {ws : List (Key × W)} (h : Wvk K G vs ws) : vs.isEmpty = ws.isEmpty := by cases h <;> rfl
theorem truW_ok {M : Hid} {H : Hp} (k : OkC K M S H) {v : V} {w : W} {b : Bool} (h : Wv K (gS M S H) v w) (e : truW S w = some b) : TruV K v H b := by
  unfold truW at e
  split at e
  · cases h.to_d.to_non; cases e; rfl
  · cases h.to_d.to_bl; cases e; rfl
  · cases h.to_d.to_int; cases e; rfl
  · cases h.to_d.to_str
    split at e
    · rename_i hl
      cases e
      exact ⟨Nat.le_trans hl (by decide), rfl⟩
    · cases e
  · obtain ⟨a, fs, rfl, h1, h2⟩ := h.to_d.to_dct
    cases e
    exact .inr (.inr ⟨fs, gS_sub _ _ h1, by rw [h2.isEmpty]⟩)
  · split at e
    · rename_i ws es
      cases e
      obtain ⟨a, vs, rfl, h1, h2⟩ := seqW_ok k h es
      rcases h1 with h1 | h1
      · exact .inl ⟨vs, h1, by rw [h2.isEmpty]⟩
      · exact .inr (.inl ⟨vs, h1, by rw [h2.isEmpty]⟩)
    · split at e
      · rename_i a0 hq
        split at e
        · rename_i l el
          cases e
          cases h.to_ref
          cases k _ _ el with
          | dct h1 h2 => exact .inr (.inr ⟨_, h1, by rw [h2.isEmpty]⟩)
        · cases e
      · cases e
def mTru (ma : EM) : TM := fun δ S P X => ma δ S (fun w S1 => match truW S1 w with
  | some b => P b S1
  | none => False) X
theorem jt_tru (ja : JE X K F a ma) (eK : X.K = K) (he : ∀ whole, isTrue a X.env whole = (do let v ← whole; standAt a.pos; holding [v] (truthy v))) : JT X K F a (mTru ma) := by
  subst eK
  refine .of (pt_truth pe he) fun δ S P q M σ H k x Q c => ja δ S _ q M σ H k x _ fun v H1 w1 S1 p1 s1 v1 => ?_
  split at p1
  · rename_i b eb
    exact ⟨b, truW_ok s1.ok.cell v1 eb, c b H1 S1 p1 s1⟩
  · exact p1.elim
def mBl (ma : EM) : TM := fun δ S P X => ma δ S (fun w S1 => match w with
  | .d (.bl b) => P b S1
  | _ => False) X
theorem wt_bl {te : TE} {P : Bool → Store → Prop} (h : WE K F te δ S fun w S1 => match w with
  | .d (.bl b) => P b S1
  | _ => False) : WT K F (tTest te) δ S P := fun M σ H k x Q c => h M σ H k x _ fun v H1 w1 S1 p1 s1 v1 => by
  dsimp only at p1
  split at p1
  · cases v1.to_d.to_bl
    exact ⟨_, rfl, c _ H1 S1 p1 s1⟩
  · exact p1.elim
theorem jt_cmp {op : CmpOp} {o : O2} (ho : OB X K F (compareOp op) o) (hm : behindInMarks op b = false) (ja : JE X K F a ma) (jb : JE X K F b mb) : JT X K F (.Compare a [op] [b] pos) (mBl (mOp o ma mb)) := by
  obtain ⟨r, h1, h2⟩ := ho
  exact .of (pt_cmpR h1 pe pe hm) fun δ S P q => wt_bl (we_op h2 ((ja δ S _ q).imp fun w T q => jb δ T _ q))
def mAnd (t u : TM) : TM := fun δ S P X => t δ S (fun b S1 => if b = true then u δ S1 P X else P false S1) X
def mOr (t u : TM) : TM := fun δ S P X => t δ S (fun b S1 => if b = true then P true S1 else u δ S1 P X) X
def mNot (t : TM) : TM := fun δ S P X => t δ S (fun b S1 => P (!b) S1) X
theorem jw_and1 {t : TM} (h : JT X K F a t) : JW X K F (.BoolOp .And [a] pos) t := .of (pw_and1 pt) fun δ S P q => h δ S P q
theorem jw_or1 {t : TM} (h : JT X K F a t) : JW X K F (.BoolOp .Or [a] pos) t := .of (pw_or1 pt) fun δ S P q => h δ S P q
theorem jw_and {t u : TM} (h : JT X K F a t) (g : JW X K F (.BoolOp .And (b :: rest) pos) u) : JW X K F (.BoolOp .And (a :: b :: rest) pos) (mAnd t u) := .of (pw_and pt pw) fun δ S P q M σ H k x Q c =>
  h δ S _ q M σ H k x _ fun t H1 S1 p1 s1 => by
    cases t with
    | true => exact g δ S1 P p1 M σ H1 s1.ok (s1.slots x) Q fun t H2 S2 p2 s2 => c t H2 S2 p2 (s1.trans s2)
    | false => exact c false H1 S1 p1 s1
theorem jw_or {t u : TM} (h : JT X K F a t) (g : JW X K F (.BoolOp .Or (b :: rest) pos) u) : JW X K F (.BoolOp .Or (a :: b :: rest) pos) (mOr t u) := .of (pw_or pt pw) fun δ S P q M σ H k x Q c =>
  h δ S _ q M σ H k x _ fun t H1 S1 p1 s1 => by
    cases t with
    | false => exact g δ S1 P p1 M σ H1 s1.ok (s1.slots x) Q fun t H2 S2 p2 s2 => c t H2 S2 p2 (s1.trans s2)
    | true => exact c true H1 S1 p1 s1
theorem JW.jt {t : TM} (h : JW X K F a t) : JT X K F a t := .of pw.pt fun δ S P q => h δ S P q
theorem jt_not {t : TM} (h : JT X K F a t) : JT X K F (.UnaryOp .Not a pos) (mNot t) := .of (pt_not pt) fun δ S P q M σ H k x Q c => h δ S _ q M σ H k x _ fun t H1 S1 p1 s1 => c _ H1 S1 p1 s1
def mAndV (ma mb : EM) : EM := fun δ S P X => ma δ S (fun w S1 => match truW S1 w with
  | some true => mb δ S1 P X
  | some false => P w S1
  | none => False) X
def mOrV (ma mb : EM) : EM := fun δ S P X => ma δ S (fun w S1 => match truW S1 w with
  | some true => P w S1
  | some false => mb δ S1 P X
  | none => False) X
def mNotV (ma : EM) : EM := fun δ S P X => ma δ S (fun w S1 => match truW S1 w with
  | some b => P (.d (.bl (!b))) S1
  | none => False) X
theorem je_one {op} (h : JE X K F a m) : JE X K F (.BoolOp op [a] pos) m := .of (pe_one pe) fun δ S P q => h δ S P q
theorem je_and (eK : X.K = K) (ja : JE X K F a ma) (jb : JE X K F (.BoolOp .And (b :: rest) pos) mb) : JE X K F (.BoolOp .And (a :: b :: rest) pos) (mAndV ma mb) := by
  subst eK
  refine .of (pe_andT pe pe) fun δ S P q M σ H k x Q c => ja δ S _ q M σ H k x _ fun v H1 w1 S1 p1 s1 v1 => ?_
  split at p1
  · rename_i eb
    exact ⟨true, truW_ok s1.ok.cell v1 eb, jb δ S1 P p1 M σ H1 s1.ok (s1.slots x) Q fun z H2 w2 S2 p2 s2 v2 => c z H2 w2 S2 p2 (s1.trans s2) v2⟩
  · rename_i eb
    exact ⟨false, truW_ok s1.ok.cell v1 eb, c v H1 w1 S1 p1 s1 v1⟩
  · exact p1.elim
theorem je_or (eK : X.K = K) (ja : JE X K F a ma) (jb : JE X K F (.BoolOp .Or (b :: rest) pos) mb) : JE X K F (.BoolOp .Or (a :: b :: rest) pos) (mOrV ma mb) := by
  subst eK
  refine .of (pe_orT pe pe) fun δ S P q M σ H k x Q c => ja δ S _ q M σ H k x _ fun v H1 w1 S1 p1 s1 v1 => ?_
  split at p1
  · rename_i eb
    exact ⟨true, truW_ok s1.ok.cell v1 eb, c v H1 w1 S1 p1 s1 v1⟩
  · rename_i eb
    exact ⟨false, truW_ok s1.ok.cell v1 eb, jb δ S1 P p1 M σ H1 s1.ok (s1.slots x) Q fun z H2 w2 S2 p2 s2 v2 => c z H2 w2 S2 p2 (s1.trans s2) v2⟩
  · exact p1.elim
def mIf (t : TM) (ma mb : EM) : EM := fun δ S P X => t δ S (fun b S1 => if b = true then ma δ S1 P X else mb δ S1 P X) X
def aNil : AM := fun δ S P X => P [] S
def aCons (ma : EM) (mr : AM) : AM := fun δ S P X => ma δ S (fun w S1 => mr δ S1 (fun ws S2 => P (w :: ws) S2) X) X
def aStar (ma : EM) (mr : AM) : AM := fun δ S P X => ma δ S (fun w S1 => match seqW S1 w with
  | some us => mr δ S1 (fun ws S2 => P (us ++ ws) S2) X
  | none => False) X
theorem ja_nil : JA X K F [] aNil := .of pa_nil fun δ S P q M σ H k x Q c => c [] H [] S q (.refl k) .nil
theorem ja_cons {mr : AM} (ja : JE X K F e m) (jr : JA X K F es mr) (hs : starEach (e :: es) X.env = (false, eval e X.env) :: starEach es X.env := by rfl) : JA X K F (e :: es) (aCons m mr) := .of (pa_cons pe pa hs) fun δ S P q M σ H k x Q c =>
  ja δ S _ q M σ H k x _ fun v H1 w1 S1 p1 s1 v1 => jr δ S1 _ p1 M σ H1 s1.ok (s1.slots x) _ fun vs H2 ws S2 p2 s2 v2 => c (v :: vs) H2 (w1 :: ws) S2 p2 (s1.trans s2) (.cons (v1.mono s2.sub) v2)
def mTup (ma : AM) : EM := fun δ S P X => ma δ S (fun ws S1 => ws.length ≤ 1000 ∧ P (mkT ws) S1) X
def mLst (c : Bool) (ma : AM) : EM := fun δ S P X => ma δ S (fun ws S1 => ws.length ≤ 1000 ∧ newLC c ws S1 P) X
theorem je_tup {ma : AM} {k} (ja : JA X K F es ma) : JE X K F (.Tuple es k pos) (mTup ma) := .of (pe_tup pa) fun δ S P q M σ H kk x Q c =>
  ja δ S _ q M σ H kk x _ fun vs H1 ws S1 p1 s1 v1 => ⟨Nat.le_trans (by rw [v1.length]; exact p1.1) (by decide), fun n hn => new_tup s1.ok v1 hn p1.2 fun z H2 w S2 p2 s2 v2 => c z H2 w S2 p2 (s1.trans s2) v2⟩
theorem je_lst {ma : AM} {cc : Bool} (ja : JA X K F es ma) : JE X K F (.List es pos) (mLst cc ma) := .of (pe_lst pa) fun δ S P q M σ H kk x Q c =>
  ja δ S _ q M σ H kk x _ fun vs H1 ws S1 p1 s1 v1 => ⟨Nat.le_trans (by rw [v1.length]; exact p1.1) (by decide), fun n hn => new_lst s1.ok v1 hn p1.2 fun z H2 w S2 p2 s2 v2 => c z H2 w S2 p2 (s1.trans s2) v2⟩
def frzW : Nat → Store → W → Option (D × Store)
  | _, S, .d x => some (x, S)
  | 0, _, _ => none
  | n + 1, S, .ref a => match S a with
    | some (.lst ws) => (frzs (frzW n) (erS S a) ws).map fun p => (.lst p.1, p.2)
    | some (.obj C fs) => (frzf (frzW n) (erS S a) fs).map fun p => (.ins C p.1, p.2)
    | some (.dct fs) => (frzk (frzW n) (erS S a) fs).map fun p => (.dct p.1, p.2)
    | _ => none
  | n + 1, S, .tup ws => (frzs (frzW n) S ws).map fun p => (.tup p.1, p.2)
where
  frzs (f : Store → W → Option (D × Store)) (S : Store) : List W → Option (List D × Store)
    | [] => some ([], S)
    | w :: ws => match f S w with
      | some (d, S1) => (frzs f S1 ws).map fun p => (d :: p.1, p.2)
      | none => none
  frzf (f : Store → W → Option (D × Store)) (S : Store) : List (String × W) → Option (List (String × D) × Store)
    | [] => some ([], S)
    | (n, w) :: ws => match f S w with
      | some (d, S1) => (frzf f S1 ws).map fun p => ((n, d) :: p.1, p.2)
      | none => none
  frzk (f : Store → W → Option (D × Store)) (S : Store) : List (Key × W) → Option (List (Key × D) × Store)
    | [] => some ([], S)
    | (n, w) :: ws => match f S w with
      | some (d, S1) => (frzk f S1 ws).map fun p => ((n, d) :: p.1, p.2)
      | none => none
theorem noneLe {M : Hid} {S S' : Store} (hm : ∀ a, M a → S a = none) (h : ∀ a c, S' a = some c → S a = some c) : ∀ a, M a → S' a = none := fun a m => by
  cases q : S' a with
  | none => rfl
  | some c => have := h a c q; rw [hm a m] at this; cases this
def FrzOk (K : PySem.W.Frag) (M : Hid) (H : Hp) (f : Store → W → Option (D × Store)) : Prop := ∀ S w d S', f S w = some (d, S') → OkC K M S H → (∀ a, M a → S a = none) → (∀ a c, S' a = some c → S a = some c) ∧ ∀ S0 v, (∀ a c, S a = some c → S0 a = some c) → Wv K (gS M S0 H) v w → DV K (gS M S' H) v d
theorem frzs_ok {M : Hid} {H : Hp} {f : Store → W → Option (D × Store)} (hf : FrzOk K M H f) : ∀ (ws : List W) (S : Store) (ds : List D) (S' : Store), frzW.frzs f S ws = some (ds, S') → OkC K M S H → (∀ a, M a → S a = none) → (∀ a c, S' a = some c → S a = some c) ∧ ∀ S0 vs, (∀ a c, S a = some c → S0 a = some c) → Wvs K (gS M S0 H) vs ws → DVs K (gS M S' H) vs ds
  | [], S, ds, S', h, k, hm => by
    cases h
    exact ⟨fun _ _ h => h, fun S0 vs _ r => by cases r; exact .nil⟩
  | w :: ws, S, ds, S', h, k, hm => by
    rw [frzW.frzs] at h
    cases q : f S w with
    | none => rw [q] at h; cases h
    | some p =>
      obtain ⟨d, S1⟩ := p
      rw [q] at h
      dsimp only at h
      cases q2 : frzW.frzs f S1 ws with
      | none => rw [q2] at h; cases h
      | some p =>
        rw [q2] at h
        cases h
        obtain ⟨a1, a2⟩ := hf S w d S1 q k hm
        obtain ⟨b1, b2⟩ := frzs_ok hf ws S1 p.1 p.2 q2 (k.cut a1) (noneLe hm a1)
        refine ⟨fun a c h => a1 a c (b1 a c h), fun S0 vs h r => ?_⟩
        cases r with
        | cons r t => exact .cons ((a2 S0 _ h r).mono (sub_cut b1)) (b2 S0 _ (fun a c z => h a c (a1 a c z)) t)
theorem frzf_ok {M : Hid} {H : Hp} {f : Store → W → Option (D × Store)} (hf : FrzOk K M H f) : ∀ (ws : List (String × W)) (S : Store) (ds : List (String × D)) (S' : Store), frzW.frzf f S ws = some (ds, S') → OkC K M S H → (∀ a, M a → S a = none) → (∀ a c, S' a = some c → S a = some c) ∧ ∀ S0 vs, (∀ a c, S a = some c → S0 a = some c) → Wvf K (gS M S0 H) vs ws → DVf K (gS M S' H) vs ds
  | [], S, ds, S', h, k, hm => by
    cases h
    exact ⟨fun _ _ h => h, fun S0 vs _ r => by cases r; exact .nil⟩
  | (n, w) :: ws, S, ds, S', h, k, hm => by
    rw [frzW.frzf] at h
    cases q : f S w with
    | none => rw [q] at h; cases h
    | some p =>
      obtain ⟨d, S1⟩ := p
      rw [q] at h
      dsimp only at h
      cases q2 : frzW.frzf f S1 ws with
      | none => rw [q2] at h; cases h
      | some p =>
        rw [q2] at h
        cases h
        obtain ⟨a1, a2⟩ := hf S w d S1 q k hm
        obtain ⟨b1, b2⟩ := frzf_ok hf ws S1 p.1 p.2 q2 (k.cut a1) (noneLe hm a1)
        refine ⟨fun a c h => a1 a c (b1 a c h), fun S0 vs h r => ?_⟩
        cases r with
        | cons r t => exact .cons ((a2 S0 _ h r).mono (sub_cut b1)) (b2 S0 _ (fun a c z => h a c (a1 a c z)) t)
theorem frzk_ok {M : Hid} {H : Hp} {f : Store → W → Option (D × Store)} (hf : FrzOk K M H f) : ∀ (ws : List (Key × W)) (S : Store) (ds : List (Key × D)) (S' : Store), frzW.frzk f S ws = some (ds, S') → OkC K M S H → (∀ a, M a → S a = none) → (∀ a c, S' a = some c → S a = some c) ∧ ∀ S0 vs, (∀ a c, S a = some c → S0 a = some c) → Wvk K (gS M S0 H) vs ws → DVk K (gS M S' H) vs ds
  | [], S, ds, S', h, k, hm => by
    cases h
    exact ⟨fun _ _ h => h, fun S0 vs _ r => by cases r; exact .nil⟩
  | (n, w) :: ws, S, ds, S', h, k, hm => by
    rw [frzW.frzk] at h
    cases q : f S w with
    | none => rw [q] at h; cases h
    | some p =>
      obtain ⟨d, S1⟩ := p
      rw [q] at h
      dsimp only at h
      cases q2 : frzW.frzk f S1 ws with
      | none => rw [q2] at h; cases h
      | some p =>
        rw [q2] at h
        cases h
        obtain ⟨a1, a2⟩ := hf S w d S1 q k hm
        obtain ⟨b1, b2⟩ := frzk_ok hf ws S1 p.1 p.2 q2 (k.cut a1) (noneLe hm a1)
        refine ⟨fun a c h => a1 a c (b1 a c h), fun S0 vs h r => ?_⟩
        cases r with
        | cons r t => exact .cons ((a2 S0 _ h r).mono (sub_cut b1)) (b2 S0 _ (fun a c z => h a c (a1 a c z)) t)
theorem frz_ok {M : Hid} {H : Hp} : ∀ n, FrzOk K M H (frzW n) := by
  intro n
  induction n with
  | zero =>
    intro S w d S' h k hm
    cases w with
    | d x => cases h; exact ⟨fun _ _ h => h, fun S0 v hs r => r.to_d.mono (sub_cut hs)⟩
    | ref a => cases h
    | tup l => cases h
  | succ n ih =>
    intro S w d S' h k hm
    cases w with
    | d x => cases h; exact ⟨fun _ _ h => h, fun S0 v hs r => r.to_d.mono (sub_cut hs)⟩
    | tup l =>
      rw [frzW] at h
      cases q : frzW.frzs (frzW n) S l with
      | none => rw [q] at h; cases h
      | some p =>
        rw [q] at h
        cases h
        obtain ⟨a1, a2⟩ := frzs_ok ih l S p.1 p.2 q k hm
        refine ⟨a1, fun S0 v hs r => ?_⟩
        obtain ⟨a, vs, rfl, h1, h2⟩ := r.to_tup
        exact .tup (((sub_cut hs).trans (sub_cut a1)).t h1) (a2 S0 vs hs h2)
    | ref a =>
      rw [frzW] at h
      cases q : S a with
      | none => rw [q] at h; cases h
      | some c =>
        rw [q] at h
        have there : ∀ {S1 : Store} {o : HO}, (∀ b c, S1 b = some c → erS S a b = some c) → H a = some o → NoT o → gS M S1 H a = some o := fun {S1 o} hle ho hn => gS_some.mpr ⟨(fun m => by rw [hm a m] at q; cases q), (by
          cases z : S1 a with
          | none => rfl
          | some c => have := hle a c z; rw [erS_same] at this; cases this), ho, hn⟩
        cases k a c q with
        | lst h1 h2 =>
          dsimp only at h
          rename_i vs ws
          cases q2 : frzW.frzs (frzW n) (erS S a) ws with
          | none => rw [q2] at h; cases h
          | some p =>
            rw [q2] at h
            cases h
            obtain ⟨a1, a2⟩ := frzs_ok ih ws _ p.1 p.2 q2 (k.cut er_le) (noneLe hm er_le)
            refine ⟨fun b c z => er_le b c (a1 b c z), fun S0 v hs r => ?_⟩
            cases r.to_ref
            exact .lst (there a1 h1 (fun ps z => by cases z)) (a2 S vs er_le h2)
        | obj h1 h2 =>
          dsimp only at h
          rename_i C dx vs ws
          cases q2 : frzW.frzf (frzW n) (erS S a) ws with
          | none => rw [q2] at h; cases h
          | some p =>
            rw [q2] at h
            cases h
            obtain ⟨a1, a2⟩ := frzf_ok ih ws _ p.1 p.2 q2 (k.cut er_le) (noneLe hm er_le)
            refine ⟨fun b c z => er_le b c (a1 b c z), fun S0 v hs r => ?_⟩
            cases r.to_ref
            exact .ins (there a1 h1 (fun ps z => by cases z)) (a2 S vs er_le h2)
        | dct h1 h2 =>
          dsimp only at h
          rename_i vs ws
          cases q2 : frzW.frzk (frzW n) (erS S a) ws with
          | none => rw [q2] at h; cases h
          | some p =>
            rw [q2] at h
            cases h
            obtain ⟨a1, a2⟩ := frzk_ok ih ws _ p.1 p.2 q2 (k.cut er_le) (noneLe hm er_le)
            refine ⟨fun b c z => er_le b c (a1 b c z), fun S0 v hs r => ?_⟩
            cases r.to_ref
            exact .dct (there a1 h1 (fun ps z => by cases z)) (a2 S vs er_le h2)
        | dctT h1 h2 => cases h
def mFrz (ma : EM) : EM := fun δ S P X => ma δ S (fun w S1 => match frzW 4 S1 w with
  | some (d, S2) => P (.d d) S2
  | none => False) X
theorem je_frz (ja : JE X K F a ma) : JE X K F a (mFrz ma) := fun δ S P q M σ H k x Q c => ja δ S _ q M σ H k x Q fun v H1 w S1 p1 s1 v1 => by
  split at p1
  · rename_i d S2 e
    obtain ⟨a1, a2⟩ := frz_ok 4 S1 w d S2 e s1.ok.cell fun a m => (s1.ok.hid a m).1
    exact c v H1 _ S2 p1 (s1.trans (.cut s1.ok a1)) (.d (a2 S1 v (fun _ _ h => h) v1))
  · exact p1.elim

theorem je_ix (eK : X.K = K) (ja : JE X K F a ma) (jb : JE X K F b mb) (hs : PlainIx b) : JE X K F (.Subscript a b pos) (mOp oIx ma mb) := by
  subst eK
  exact .of (pe_ix ix_seq pe pe hs) fun δ S P q => we_op ro_ix ((ja δ S _ q).imp fun w T q => jb δ T _ q)
def mCB (o : ON) (ma : AM) : EM := fun δ S P X => ma δ S (fun ws S1 => o ws S1 P) X
theorem we_cb {r : List V → Hp → VK → Prop} {o : ON} {ta : TA} {P : W → Store → Prop} (hr : RON K F r o) (h : WA K F ta δ S fun ws S1 => o ws S1 P) : WE K F (tCB r ta) δ S P := fun M σ H k x Q c =>
  h M σ H k x _ fun vs H1 ws S1 p1 s1 v1 => hr M S1 H1 ws vs P s1.ok v1 p1 Q fun z H3 w3 S3 p3 s3 v3 => c z H3 w3 S3 p3 (s1.trans s3) v3
theorem je_cb {f : Value} {o : ON} {mr : AM} (ho : OC X K F f o) (ja : JA X K F es mr) (h : ∀ {r : List V → Hp → VK → Prop}, CallR X f r → PE X e (tCB r (tWA X es))) : JE X K F e (mCB o mr) := by
  obtain ⟨r, h1, h2⟩ := ho
  exact .of (h h1) fun δ S P q => we_cb h2 (ja δ S _ q)
def mIsiT (cs : List String) (sub : String → String → Bool) (ma : EM) (mr : AM) : EM := fun δ S P X => ma δ S (fun w S1 => mr δ S1 (fun ws S2 => ws.length ≤ 1000 ∧ fIsiT cs sub w ws S2 P) X) X
theorem je_isiT {cs : List String} {sub : String → String → Bool} {mr : AM} {k : Nat} {p : Pos} (eK : X.K = K) (T : IsiT K cs sub) (ja : JE X K F a ma) (jr : JA X K F es mr)
    (h : ∀ {r : List V → Hp → VK → Prop} {ta : TA}, CallR X (.builtin "isinstance") r → PA X [a, .Tuple es k p] ta → PE X e (tCB r ta)) (h1 : starEach [a, .Tuple es k p] X.env = (false, eval a X.env) :: starEach [.Tuple es k p] X.env := by rfl)
    (h2 : starEach [.Tuple es k p] X.env = (false, eval (.Tuple es k p) X.env) :: starEach [] X.env := by rfl) : JE X K F e (mIsiT cs sub ma mr) := by
  subst eK
  refine .of (h call_isiT (pa_cons pe (pa_cons (pe_tup pa) pa_nil h2) h1)) fun δ S P q M σ H kk x Q c => ja δ S _ q M σ H kk x _ fun v H1 w S1 p1 s1 v1 => jr δ S1 _ p1 M σ H1 s1.ok (s1.slots x) _ fun vs H2 ws S2 p2 s2 v2 => ?_
  exact ⟨Nat.le_trans (by rw [v2.length]; exact p2.1) (by decide), fun n hn => isiT_ok T s2.ok hn (v1.mono s2.sub) v2 p2.2 Q fun z H3 w3 S3 p3 s3 v3 => c z H3 w3 S3 p3 ((s1.trans s2).trans s3) v3⟩
end
end DX

set_option Elab.async false
set_option linter.all false
set_option maxRecDepth 100000
namespace DX
open PySem PySem.Spec PyProof.Rows L2
variable {X : Cx} {K : PySem.W.Frag} {F : Fr} {M : Hid} {S : Store} {H : Hp} {σ : L2.St} {δ : Slots} {a b c e : Expr} {es : List Expr} {ma mb m : EM} {pos : Pos}

abbrev GM := W → Slots → Store → (Slots → Store → Prop) → XP → Prop
abbrev GsM := List W → Slots → Store → (Slots → Store → Prop) → XP → Prop
def WG (K : PySem.W.Frag) (F : Fr) (g : TG) (ts : List Nat) (w : W) (δ : Slots) (S : Store) (P : Slots → Store → Prop) : Prop := ∀ (M : Hid) (σ : L2.St) (H : Hp) (v : V), Ok K F M S H → SlotsOk K M S H σ δ → Wv K (gS M S H) v w → ∀ Q : L2.St → Hp → Prop,
  (∀ σ' H' δ' S', P δ' S' → St K F M S H S' H' → SlotsOk K M S' H' σ' δ' → σ'.length = σ.length → (∀ (j : Nat), j ∉ ts → σ'[j]? = σ[j]?) → Q σ' H') → g v σ H Q
def WGs (K : PySem.W.Frag) (F : Fr) (g : TGs) (ts : List Nat) (ws : List W) (δ : Slots) (S : Store) (P : Slots → Store → Prop) : Prop := ∀ (M : Hid) (σ : L2.St) (H : Hp) (vs : List V), Ok K F M S H → SlotsOk K M S H σ δ → Wvs K (gS M S H) vs ws → ∀ Q : L2.St → Hp → Prop,
  (∀ σ' H' δ' S', P δ' S' → St K F M S H S' H' → SlotsOk K M S' H' σ' δ' → σ'.length = σ.length → (∀ (j : Nat), j ∉ ts → σ'[j]? = σ[j]?) → Q σ' H') → g vs σ H Q
def JG (X : Cx) (K : PySem.W.Frag) (F : Fr) (tg : Expr) (ts : List Nat) (m : GM) : Prop := ∀ w δ S P, m w δ S P (fun x T => F.X x δ T) → WG K F (tWG X tg) ts w δ S P
def JGs (X : Cx) (K : PySem.W.Frag) (F : Fr) (tg : List Expr) (ts : List Nat) (m : GsM) : Prop := ∀ ws δ S P, m ws δ S P (fun x T => F.X x δ T) → WGs K F (tWGs X tg) ts ws δ S P
theorem JG.of {g : TG} {ts : List Nat} {m : GM} (h : PG X e g) (w : ∀ w δ S P, m w δ S P (fun x T => F.X x δ T) → WG K F g ts w δ S P) : JG X K F e ts m := fun u δ S P q M σ H v k x r Q c pins s z I rz => h.run pins s σ H v z Q I rz (w u δ S P q M σ H v k x r Q c)
theorem JGs.of {g : TGs} {ts : List Nat} {m : GsM} (h : PGs X es g) (w : ∀ w δ S P, m w δ S P (fun x T => F.X x δ T) → WGs K F g ts w δ S P) : JGs X K F es ts m := fun u δ S P q M σ H v k x r Q c pins s z I rz => h.run pins s σ H v z Q I rz (w u δ S P q M σ H v k x r Q c)
def tgN (i : Nat) : GM := fun w δ S P X => P (δ.set i (some w)) S
def tgsNil : GsM := fun ws δ S P X => match ws with
  | [] => P δ S
  | _ => False
def tgsCons (m : GM) (ms : GsM) : GsM := fun ws δ S P X => match ws with
  | w :: ws => m w δ S (fun δ1 S1 => ms ws δ1 S1 P X) X
  | [] => False
def tgT (n : Nat) (ms : GsM) : GM := fun w δ S P X => match tseq w with
  | some ws => ws.length = n ∧ ms ws δ S P X
  | none => False
theorem jg_name {i : Nat} (h : PG X e (gName i)) : JG X K F e [i] (tgN i) := .of h fun w δ S P q M σ H v k x r Q c =>
  c _ H _ S q (.refl k) (x.set r) (by simp) fun j hj => List.getElem?_set_ne fun z => hj (by simp [z])
theorem jgs_nil : JGs X K F [] [] tgsNil := .of pgs_nil fun ws δ S P q M σ H vs k x r Q c => by
  unfold tgsNil at q
  split at q
  · cases r
    exact ⟨rfl, c σ H δ S q (.refl k) x rfl fun _ _ => rfl⟩
  · exact q.elim
def QuietGs (m : GsM) : Prop := ∀ w δ S P X Y, m w δ S P X → m w δ S P Y
theorem quiet_nil : QuietGs tgsNil := fun _ _ _ _ _ _ h => h
theorem jgs_cons {m : GM} {ms : GsM} {ts us : List Nat} (hq : QuietGs ms) (jg : JG X K F e ts m) (js : JGs X K F es us ms) (hs : (assignEach (e :: es) X.env).map (·.2) = assign e X.env :: (assignEach es X.env).map (·.2) := by rfl) : JGs X K F (e :: es) (ts ++ us) (tgsCons m ms) := .of (pgs_cons pg pgs hs) fun ws δ S P q M σ H vs k x r Q c => by
  unfold tgsCons at q
  split at q
  · cases r with
    | cons r rr =>
      refine ⟨_, _, rfl, jg _ δ S _ q M σ H _ k x r _ fun σ1 H1 δ1 S1 p1 s1 x1 l1 f1 => js _ δ1 S1 P (hq _ _ _ _ _ _ p1) M σ1 H1 _ s1.ok x1 (rr.mono s1.sub) Q fun σ2 H2 δ2 S2 p2 s2 x2 l2 f2 => ?_⟩
      exact c σ2 H2 δ2 S2 p2 (s1.trans s2) x2 (l2.trans l1) fun j hj => (f2 j fun z => hj (List.mem_append_right _ z)).trans (f1 j fun z => hj (List.mem_append_left _ z))
  · exact q.elim
theorem jg_tup {ms : GsM} {ts : List Nat} {n k : Nat} (eK : X.K = K) (hc : X.calm = true) (js : JGs X K F es ts ms) (hn : (assignEach es X.env).length = n := by rfl) (hst : (assignEach es X.env).findIdx? (·.1) = none := by rfl) : JG X K F (.Tuple es k pos) ts (tgT n ms) := by
  subst eK
  refine .of (pg_tup hc pgs hn hst) fun w δ S P q M σ H v kk x r Q c => ?_
  unfold tgT at q
  split at q
  · rename_i ws e
    obtain ⟨a, xs, rfl, h1, h2⟩ := tseq_ok r e
    exact ⟨a, xs, rfl, gS_sub.t h1, h2.length.trans q.1, js ws δ S P q.2 M σ H xs kk x h2 Q c⟩
  · exact q.elim

abbrev IM := Slots → Store → (List W → (Store → Prop) → Store → Prop) → XP → Prop
def ItD (K : PySem.W.Frag) (F : Fr) (M : Hid) (J : It) (G1 : Hp) (ws : List W) (g : Store → Prop) : Prop := ∀ S H, Ok K F M S H → Sub G1 (gS M S H) → g S → ∀ i, (ws.length ≤ i → J.stop i H) ∧ ∀ w, ws[i]? = some w → J.go i H ∧ ∀ x H', J.yld i H x H' → St K F M S H S H' ∧ Wv K (gS M S H') x w
def WI (K : PySem.W.Frag) (F : Fr) (wi : TI) (δ : Slots) (S : Store) (P : List W → (Store → Prop) → Store → Prop) : Prop := ∀ (M : Hid) (σ : L2.St) (H : Hp), Ok K F M S H → SlotsOk K M S H σ δ → ∀ R : It → Hp → Prop,
  (∀ J H' ws g S', P ws g S' → St K F M S H S' H' → (∀ N, (∀ a, N a → ¬ M a → S' a = none ∧ gS M S' H' a = none) → (∀ a, M a → N a) → ItD K F N J (gS N S' H') ws g) → R J H') → wi σ H R
def JI (X : Cx) (K : PySem.W.Frag) (F : Fr) (tg it : Expr) (m : IM) : Prop := ∃ wi, PI X tg it wi ∧ ∀ δ S P, m δ S P (fun x T => F.X x δ T) → WI K F wi δ S P
abbrev allS : Store → Prop := fun _ => True
def iSeq (K : PySem.W.Frag) (tl : TE) : TI := fun σ H R => tl σ H fun x H1 => ∃ a, x = .ref a ∧ (((∃ xs, SqL K H1 a xs) ∧ R (Itl K a) H1) ∨ ((∃ xs, SqT K H1 a xs) ∧ R (Itt K a) H1))
theorem pi_seq {tg l : Expr} {tl : TE} (eK : X.K = K) (hl : PE X l tl) : PI X tg l (iSeq K tl) := by
  subst eK
  constructor
  intro pins s σ H R I h
  apply thn (hl.run pins s σ H _ I h)
  rintro v s1 ⟨x, H1, I1, r1, a, rfl, q⟩
  cases r1
  have new : ∀ {h' : Shared}, s1.heap.objs.size ∈ [s1.heap.objs.size] := by simp
  rcases q with ⟨⟨xs, hq⟩, q⟩ | ⟨⟨xs, hq⟩, q⟩
  · obtain ⟨its, rv, p, hz⟩ := I1.list hq
    apply wpAny_pyIter_list p.isList
    refine ⟨s1.heap.objs.size, [s1.heap.objs.size], _, Itl X.K a, H1, rfl, I1.kept (t' := s1.toks) (fun b o e => Heap.get?_push_of_some _ e), turn_list a _, ⟨_, Heap.get?_push_size _ rfl, rfl, rfl⟩, ?_, q⟩
    intro b hb
    rw [List.mem_singleton.mp hb]
    exact I1.fpOk (Nat.le_refl _) (I1.hok.fresh (Nat.le_refl _))
  · obtain ⟨its, rv, p, hz⟩ := I1.tuple hq
    apply wpAny_pyIter_tuple (show s1.heap.IsTuple a its.toArray from p)
    refine ⟨s1.heap.objs.size, [s1.heap.objs.size], _, Itt X.K a, H1, rfl, I1.kept (t' := s1.toks) (fun b o e => Heap.get?_push_of_some _ e), turn_tuple a _, ⟨_, Heap.get?_push_size _ rfl, rfl, rfl⟩, ?_, q⟩
    intro b hb
    rw [List.mem_singleton.mp hb]
    exact I1.fpOk (Nat.le_refl _) (I1.hok.fresh (Nat.le_refl _))
def itemsOf (S : Store) (w : W) : Option (List W × (Store → Prop)) := match w with
  | .ref a => match S a with
    | some (.lst ws) => some (ws, fun T => T a = some (.lst ws))
    | _ => none
  | w => match seqW S w with
    | some ws => some (ws, allS)
    | none => none
theorem itd_of {J : It} {G1 : Hp} {ws : List W} {g : Store → Prop} (h : ∀ S H, Ok K F M S H → Sub G1 (gS M S H) → g S → ∃ vs, Wvs K (gS M S H) vs ws ∧ ∀ i, (vs.length ≤ i → J.stop i H) ∧ ∀ v, vs[i]? = some v → J.go i H ∧ ∀ x H', J.yld i H x H' → H' = H ∧ x = v) : ItD K F M J G1 ws g := fun S H k s gg i => by
  obtain ⟨vs, h1, h2⟩ := h S H k s gg
  refine ⟨fun hi => (h2 i).1 (by rw [h1.length]; exact hi), fun w hw => ?_⟩
  obtain ⟨v, g1, g2⟩ := h1.get hw
  obtain ⟨go, y⟩ := (h2 i).2 v g1
  refine ⟨go, fun x H' hy => ?_⟩
  obtain ⟨rfl, rfl⟩ := y x H' hy
  exact ⟨.refl k, g2⟩
theorem itl_facts {a : Addr} {vs : List V} {H : Hp} (h : SqL K H a vs) (i : Nat) : (vs.length ≤ i → (Itl K a).stop i H) ∧ ∀ v, vs[i]? = some v → (Itl K a).go i H ∧ ∀ x H', (Itl K a).yld i H x H' → H' = H ∧ x = v :=
  ⟨fun hi => ⟨vs, h, hi⟩, fun v hv => ⟨⟨vs, v, h, hv⟩, fun x H' ⟨e, hy⟩ => ⟨e, by have := hy vs h; rw [hv] at this; cases this; rfl⟩⟩⟩
theorem itt_facts {a : Addr} {vs : List V} {H : Hp} (h : SqT K H a vs) (i : Nat) : (vs.length ≤ i → (Itt K a).stop i H) ∧ ∀ v, vs[i]? = some v → (Itt K a).go i H ∧ ∀ x H', (Itt K a).yld i H x H' → H' = H ∧ x = v :=
  ⟨fun hi => ⟨vs, h, hi⟩, fun v hv => ⟨⟨vs, v, h, hv⟩, fun x H' ⟨e, hy⟩ => ⟨e, by have := hy vs h; rw [hv] at this; cases this; rfl⟩⟩⟩
theorem gS_hide {N : Hid} (h : ∀ a, N a → ¬ M a → S a = none ∧ gS M S H a = none) (hm : ∀ a, M a → N a) : gS N S H = gS M S H := by
  funext a
  by_cases n : N a
  · have e : gS N S H a = none := by unfold gS; rw [if_pos n]
    rw [e]
    by_cases mm : M a
    · unfold gS; rw [if_pos mm]
    · exact (h a n mm).2.symm
  · have mm : ¬ M a := fun z => n (hm a z)
    unfold gS
    rw [if_neg n, if_neg mm]
theorem seqW_ref {S : Store} {w : W} {ws : List W} (h : ∀ a, w ≠ .ref a) (e : seqW S w = some ws) {G : Hp} {v : V} (r : Wv K G v w) : ∃ a vs, v = .ref a ∧ Wvs K G vs ws ∧ ((G a = some (.lst vs)) ∨ SqT K G a vs) := by
  cases w with
  | ref a => exact absurd rfl (h a)
  | tup l =>
    obtain ⟨a, vs, rfl, h1, h2⟩ := r.to_tup
    have e : some l = some ws := e
    cases e
    exact ⟨a, vs, rfl, h2, .inr h1⟩
  | d x =>
    cases x with
    | lst ds =>
      obtain ⟨a, vs, rfl, h1, h2⟩ := r.to_d.to_lst
      have e : some (ds.map W.d) = some ws := e
      cases e
      exact ⟨a, vs, rfl, h2.w, .inl h1⟩
    | tup ds =>
      obtain ⟨a, vs, rfl, h1, h2⟩ := r.to_d.to_tup
      have e : some (ds.map W.d) = some ws := e
      cases e
      exact ⟨a, vs, rfl, h2.w, .inr h1⟩
    | _ => cases e
def itSeq (ma : EM) : IM := fun δ S P X => ma δ S (fun w S1 => match itemsOf S1 w with
  | some (ws, g) => P ws g S1
  | none => False) X
theorem ji_seq {tg : Expr} (eK : X.K = K) (ja : JE X K F a ma) : JI X K F tg a (itSeq ma) := ⟨_, pi_seq eK pe, fun δ S P q M σ H k x R r => ja δ S _ q M σ H k x _ fun v H1 w S1 p1 s1 v1 => by
  split at p1
  · rename_i ws g e
    unfold itemsOf at e
    split at e
    · rename_i a0
      split at e
      · rename_i l el
        cases e
        cases v1.to_ref
        have hk : ∃ vs, H1 a0 = some (.lst vs) := by cases s1.ok.cell _ _ el with | lst h1 h2 => exact ⟨_, h1⟩
        obtain ⟨vs, hv⟩ := hk
        refine ⟨a0, rfl, .inl ⟨⟨vs, sqL hv⟩, r _ H1 _ _ S1 p1 s1 fun N hN hM => itd_of fun S2 H2 k2 sb gg => ?_⟩⟩
        cases k2.cell _ _ gg with
        | lst h1 h2 => exact ⟨_, h2, itl_facts (sqL h1)⟩
      · cases e
    · rename_i hne
      split at e
      · rename_i l el
        cases e
        obtain ⟨a0, vs, rfl, h2, h1⟩ := seqW_ref (fun a z => hne a z) el v1
        rcases h1 with h1 | h1
        · refine ⟨a0, rfl, .inl ⟨⟨vs, sqL (gS_sub _ _ h1)⟩, r _ H1 _ _ S1 p1 s1 fun N hN hM => itd_of fun S2 H2 k2 sb gg => ?_⟩⟩
          rw [gS_hide hN hM] at sb
          exact ⟨vs, h2.mono sb, itl_facts (sqL (gS_sub _ _ (sb _ _ h1)))⟩
        · refine ⟨a0, rfl, .inr ⟨⟨vs, gS_sub.t h1⟩, r _ H1 _ _ S1 p1 s1 fun N hN hM => itd_of fun S2 H2 k2 sb gg => ?_⟩⟩
          rw [gS_hide hN hM] at sb
          exact ⟨vs, h2.mono sb, itt_facts (gS_sub.t (sb.t h1))⟩
      · cases e
  · exact p1.elim⟩
def rng (lo : Int) (n : Nat) : List W := (List.range n).map fun (i : Nat) => W.d (.int (lo + (i : Int)))
theorem itd_rng {lo : Int} {n : Nat} {G1 : Hp} : ItD K F M (Itr lo n) G1 (rng lo n) allS := fun S H k s _ i => ⟨fun hi => (by show n ≤ i; simpa [rng] using hi), fun w hw => by
  unfold rng at hw
  rw [List.getElem?_map] at hw
  by_cases hi : i < n
  · rw [List.getElem?_range hi] at hw
    cases hw
    refine ⟨hi, fun x H' ⟨e, hx⟩ => ?_⟩
    subst e hx
    exact ⟨.refl k, .d (.int _)⟩
  · rw [List.getElem?_eq_none (by simpa using hi)] at hw
    cases hw⟩
def itRng1 (ma : AM) : IM := fun δ S P X => ma δ S (fun ws S1 => match ws with
  | [.d (.int j)] => (-(2 ^ 62) ≤ j ∧ j < 2 ^ 62) ∧ P (rng 0 j.toNat) allS S1
  | _ => False) X
theorem ji_rng1 {tg : Expr} {mr : AM} (ja : JA X K F es mr) (h : PI X tg e (iRng1 (tWA X es))) : JI X K F tg e (itRng1 mr) := ⟨_, h, fun δ S P q M σ H k x R r => ja δ S _ q M σ H k x _ fun vs H1 ws S1 p1 s1 v1 => by
  split at p1
  · obtain ⟨v, rfl, v2⟩ := v1.one
    cases v2.to_d.to_int
    exact ⟨_, rfl, p1.1.1, p1.1.2, r _ H1 _ _ S1 p1.2 s1 fun N _ _ => itd_rng⟩
  · exact p1.elim⟩
end DX

set_option Elab.async false
set_option linter.all false
set_option maxRecDepth 100000
namespace DX
open PySem PySem.Spec PyProof.Rows L2
variable {X : Cx} {K : PySem.W.Frag} {F : Fr} {M : Hid} {S : Store} {H : Hp} {σ : L2.St} {δ : Slots} {a b c e : Expr} {es : List Expr} {st : Stmt} {rest sts sts' : List Stmt} {ma mb m : EM} {pos : Pos}

def XF (C : Ct) (δ : Slots) : XP := fun x T => C.X x δ T
def JS (X : Cx) (K : PySem.W.Frag) (F : Fr) (st : Stmt) (m : SM) : Prop := ∀ C δ S, C.X = F.X → m C δ S → WS K F (tWS X st) δ S C
def JSs (X : Cx) (K : PySem.W.Frag) (F : Fr) (sts : List Stmt) (m : SM) : Prop := ∀ C δ S, C.X = F.X → m C δ S → WS K F (tWSs X sts) δ S C
theorem JS.of {t : TS} {m : SM} (h : PS X st t) (w : ∀ C δ S, C.X = F.X → m C δ S → WS K F t δ S C) : JS X K F st m := fun C δ S e q M E σ H k x c pins s I => h.run pins s σ H E I (w C δ S e q M E σ H k x c)
theorem JSs.of {t : TS} {m : SM} (h : PSs X sts t) (w : ∀ C δ S, C.X = F.X → m C δ S → WS K F t δ S C) : JSs X K F sts m := fun C δ S e q M E σ H k x c pins s I => h.run pins s σ H E I (w C δ S e q M E σ H k x c)
theorem XF_eq {C : Ct} (e : C.X = F.X) : XF C δ = fun x T => F.X x δ T := by unfold XF; rw [e]
theorem XF_on {C : Ct} {δ : Slots} (e : C.X = F.X) {Pr : XP → Prop} (h : Pr (XF C δ)) : Pr (fun x T => F.X x δ T) := XF_eq e ▸ h
def mNil : SM := fun C δ S => C.nx δ S
def mCons (m n : SM) : SM := fun C δ S => m { C with nx := fun δ1 S1 => n C δ1 S1 } δ S
theorem EndsOk.nx1 {E : Ends} {C : Ct} (c : EndsOk K F M (gS M S H) H E C) (k : Ok K F M S H) (x : SlotsOk K M S H σ δ) (q : C.nx δ S) : E.nx σ H := c.nx S σ H δ q k x (Sub.refl _) fun _ _ => rfl
theorem EndsOk.rt1 {E : Ends} {C : Ct} {v : V} {w : W} (c : EndsOk K F M (gS M S H) H E C) (k : Ok K F M S H) (x : Wv K (gS M S H) v w) (q : C.rt w S) : E.rt v H := c.rt S v H w q k x (Sub.refl _) fun _ _ => rfl
theorem jss_nil : JSs X K F [] mNil := .of pss_nil fun C δ S e q M E σ H k x c => c.nx1 k x q
theorem jss_cons {m n : SM} (h : JS X K F st m) (g : JSs X K F rest n) : JSs X K F (st :: rest) (mCons m n) := .of (pss_cons ps pss) fun C δ S e q M E σ H k x c =>
  h { C with nx := fun δ1 S1 => n C δ1 S1 } δ S e q M _ σ H k x ⟨fun S1 σ1 H1 δ1 p k1 x1 s1 t1 => g C δ1 S1 e p M E σ1 H1 k1 x1 (c.on ⟨k1, s1, t1⟩), c.rt, c.bk, c.ct⟩
theorem jss_one {m : SM} (h : JS X K F st m) : JSs X K F [st] m := .of (pss_one ps) fun C δ S e q M E σ H k x c => h C δ S e q M E σ H k x c
def mNoS : SM := fun _ _ _ => False
theorem js_no : JS X K F st mNoS := fun _ _ _ _ q => q.elim
def mSet (i : Nat) (m : EM) : SM := fun C δ S => m δ S (fun w S1 => C.nx (δ.set i (some w)) S1) (XF C δ)
theorem ws_set {i : Nat} {te : TE} {C : Ct} (h : WE K F te δ S fun w S1 => C.nx (δ.set i (some w)) S1) : WS K F (tAsg te (gName i)) δ S C := fun M E σ H k x c => h M σ H k x _ fun v H1 w S1 p s1 v1 =>
  (c.on s1).nx1 s1.ok ((s1.slots x).set v1) p
theorem js_set {i : Nat} (h : ∀ {te : TE}, PE X e te → PS X st (tAsg te (gName i))) (je : JE X K F e m) : JS X K F st (mSet i m) := .of (h pe) fun C δ S ex q => ws_set (je δ S _ (XF_on (Pr := m δ S _) ex q))
def mAsg (m : EM) (g : GM) : SM := fun C δ S => m δ S (fun w S1 => g w δ S1 C.nx (XF C δ)) (XF C δ)
theorem js_asg {tg : Expr} {ts : List Nat} {g : GM} (h : ∀ {te : TE} {g : TG}, PE X e te → PG X tg g → PS X st (tAsg te g)) (je : JE X K F e m) (jg : JG X K F tg ts g) : JS X K F st (mAsg m g) := .of (h pe pg) fun C δ S ex q M E σ H k x c => by
  have q : m δ S (fun w S1 => g w δ S1 C.nx (XF C δ)) (XF C δ) := q
  rw [XF_eq ex] at q
  exact je δ S _ q M σ H k x _ fun v H1 w S1 p s1 v1 => jg w δ S1 _ p M σ H1 v s1.ok (s1.slots x) v1 _ fun σ2 H2 δ2 S2 p2 s2 x2 _ _ => (c.on (s1.trans s2)).nx1 s2.ok x2 p2
def mDrp (m : EM) : SM := fun C δ S => m δ S (fun _ S1 => C.nx δ S1) (XF C δ)
theorem js_drp {p : Pos} (je : JE X K F e m) (hs : swapsWith e none p.line X.env = pure false := by rfl) : JS X K F (.Expr e p) (mDrp m) := .of (ps_expr pe hs) fun C δ S ex q M E σ H k x c => je δ S _ (XF_on (Pr := m δ S _) ex q) M σ H k x _ fun v H1 w S1 p s1 v1 =>
  (c.on s1).nx1 s1.ok (s1.slots x) p
def mRet (m : EM) : SM := fun C δ S => m δ S C.rt (XF C δ)
def mRetN : SM := fun C δ S => C.rt (.d .non) S
theorem js_ret {p : Pos} (je : JE X K F e m) : JS X K F (.Return (some e) p) (mRet m) := .of (ps_ret pe) fun C δ S ex q M E σ H k x c => je δ S _ (XF_on (Pr := m δ S _) ex q) M σ H k x _ fun v H1 w S1 p s1 v1 =>
  (c.on s1).rt1 s1.ok v1 p
def mIfS (t : TM) (m n : SM) : SM := fun C δ S => t δ S (fun b S1 => if b = true then m C δ S1 else n C δ S1) (XF C δ)
theorem js_if {p : Pos} {t : TM} {m n : SM} (jt : JT X K F c t) (h : JSs X K F sts m) (g : JSs X K F sts' n) : JS X K F (.If c sts sts' p) (mIfS t m n) := .of (ps_if pt pss pss) fun C δ S ex q M E σ H k x cc =>
  jt δ S _ (XF_on (Pr := t δ S _) ex q) M σ H k x _ fun t H1 S1 p s1 => by
    cases t with
    | true => exact h C δ S1 ex p M E σ H1 s1.ok (s1.slots x) (cc.on s1)
    | false => exact g C δ S1 ex p M E σ H1 s1.ok (s1.slots x) (cc.on s1)
def mPar (i j : Nat) (ma : AM) : SM := fun C δ S => ma δ S (fun ws S1 => match ws with
  | [v, w] => C.nx ((δ.set i (some v)).set j (some w)) S1
  | _ => False) (XF C δ)
theorem js_par {i j : Nat} {mr : AM} (h : ∀ {ta : TA}, PA X es ta → PS X st (tPar i j ta)) (ja : JA X K F es mr) : JS X K F st (mPar i j mr) := .of (h pa) fun C δ S ex q M E σ H k x c => ja δ S _ (XF_on (Pr := mr δ S _) ex q) M σ H k x _ fun vs H1 ws S1 p s1 v1 => by
  split at p
  · obtain ⟨v, u, rfl, v2, v3⟩ := v1.two
    exact ⟨v, u, rfl, (c.on s1).nx1 s1.ok (((s1.slots x).set v2).set v3) p⟩
  · exact p.elim

def Dn (P : Slots → Store → Prop) (δ : Slots) (S : Store) : Prop := ∃ δ' S', (∀ (i : Nat) w, δ'[i]? = some (some w) → δ[i]? = some (some w)) ∧ δ'.length ≤ δ.length ∧ (∀ a c, S' a = some c → S a = some c) ∧ P δ' S'
theorem Dn.of {P : Slots → Store → Prop} (h : P δ S) : Dn P δ S := ⟨δ, S, fun _ _ h => h, Nat.le_refl _, fun _ _ h => h, h⟩
theorem SlotsOk.less {δ' : Slots} (x : SlotsOk K M S H σ δ) (h : ∀ (i : Nat) w, δ'[i]? = some (some w) → δ[i]? = some (some w)) (hl : δ'.length ≤ δ.length) : SlotsOk K M S H σ δ' := ⟨fun i w e => x.at_ i w (h i w e), Nat.le_trans hl x.len⟩
def mFor (im : IM) (g : GM) (body : SM) : SM := fun C δ S => im δ S (fun ws gd S1 => ∃ I : Nat → Slots → Store → Prop, I 0 δ S1 ∧ ∀ i δ S, I i δ S → i ≤ ws.length ∧ gd S ∧ (∀ w, ws[i]? = some w →
    g w δ S (fun δ1 S1 => body { nx := Dn (I (i + 1)), rt := C.rt, bk := C.nx, ct := Dn (I (i + 1)), X := C.X } δ1 S1) (XF C δ)) ∧ (ws.length = i → C.nx δ S)) (XF C δ)
theorem js_for {tg it : Expr} {im : IM} {g : GM} {ts : List Nat} {body : SM} (h : ∀ {wi : TI} {g : TG} {tb : TS}, PI X tg it wi → PG X tg g → PSs X sts tb → PS X st (tFor wi g tb)) (ji : JI X K F tg it im) (jg : JG X K F tg ts g) (jb : JSs X K F sts body) : JS X K F st (mFor im g body) := by
  obtain ⟨wi, h1, h2⟩ := ji
  refine .of (h h1 pg pss) fun C δ S ex q M E σ H k x c => ?_
  refine h2 δ S _ (XF_on (Pr := im δ S _) ex q) M σ H k x _ fun J H1 ws gd S1 p s1 jt => ?_
  obtain ⟨I, p0, pt⟩ := p
  have jd := jt M (fun a n z => absurd n z) (fun _ z => z)
  refine ⟨fun i m σ H => m = ws.length - i ∧ ∃ δ S, I i δ S ∧ St K F M S1 H1 S H ∧ SlotsOk K M S H σ δ, ⟨ws.length, by simp, δ, S1, p0, .refl s1.ok, s1.slots x⟩, ?_⟩
  rintro i m σ2 H2 ⟨rfl, δ2, S2, i2, s2, x2⟩
  obtain ⟨hi, g2, pb, pe⟩ := pt i δ2 S2 i2
  obtain ⟨hs, hg⟩ := jd S2 H2 s2.ok s2.sub g2 i
  by_cases hlt : i < ws.length
  · obtain ⟨go, hy⟩ := hg ws[i] (List.getElem?_eq_getElem hlt)
    refine .inr ⟨go, fun σ H => ∃ δ S, I (i + 1) δ S ∧ St K F M S1 H1 S H ∧ SlotsOk K M S H σ δ, fun σ' H' w => ⟨ws.length - (i + 1), by omega, rfl, w⟩, fun v H3 y => ?_⟩
    obtain ⟨s3, v3⟩ := hy v H3 y
    have q4 := pb ws[i] (List.getElem?_eq_getElem hlt)
    rw [XF_eq ex] at q4
    refine jg ws[i] δ2 S2 _ q4 M σ2 H3 v s3.ok (s3.slots x2) v3 _ fun σ4 H4 δ4 S4 p4 s4 x4 _ _ => ?_
    have s14 := (s2.trans s3).trans s4
    have dn : ∀ S5 σ5 H5 δ5, Dn (I (i + 1)) δ5 S5 → Ok K F M S5 H5 → SlotsOk K M S5 H5 σ5 δ5 → Sub (gS M S4 H4) (gS M S5 H5) → (∀ a, M a → H5 a = H4 a) → ∃ δ S, I (i + 1) δ S ∧ St K F M S1 H1 S H5 ∧ SlotsOk K M S H5 σ5 δ := fun S5 σ5 H5 δ5 ⟨δ6, S6, d1, dl, d2, p6⟩ k5 x5 u5 y5 => by
      have c5 : St K F M S5 H5 S6 H5 := .cut k5 d2
      exact ⟨δ6, S6, p6, (s14.trans ⟨k5, u5, y5⟩).trans c5, (c5.slots x5).less d1 dl⟩
    exact jb { nx := Dn (I (i + 1)), rt := C.rt, bk := C.nx, ct := Dn (I (i + 1)), X := C.X } δ4 S4 ex p4 M _ σ4 H4 s4.ok x4 ⟨dn, (c.on (s1.trans s14)).rt, (c.on (s1.trans s14)).nx, dn⟩
  · have ei : ws.length = i := by omega
    exact .inl ⟨hs (by omega), (c.on (s1.trans s2)).nx1 s2.ok x2 (pe ei)⟩
end DX

set_option Elab.async false
set_option linter.all false
set_option maxRecDepth 100000
namespace DX
open PySem PySem.Spec PyProof.Rows L2
variable {X : Cx} {K : PySem.W.Frag} {F : Fr} {M : Hid} {S : Store} {H : Hp} {σ : L2.St} {δ : Slots} {a b c e : Expr} {es : List Expr} {st : Stmt} {rest sts sts' : List Stmt} {ma mb m : EM} {pos : Pos}

abbrev DSp := List W → Store → (W → Store → Prop) → XP → Prop
def spD (K : PySem.W.Frag) (T : List (Addr × Str)) (sp : DSp) : Sp := fun vs H Q E => ∃ (F : Fr) (M : Hid) (S : Store) (ws : List W) (P : W → Store → Prop), Ok K F M S H ∧ F.T = T ∧ Wvs K (gS M S H) vs ws ∧ F.Wx = (fun cls d _ H => E cls d H) ∧ sp ws S P (fun x T => F.X x [] T) ∧
  ∀ v H' w S', P w S' → St K F M S H S' H' → Wv K (gS M S' H') v w → Q v H'
theorem Ok.keepOn {H' : Hp} (k : Ok K F M S H) (h : ∀ a, M a → H' a = H a) : ∀ a, F.M0 a → M a ∧ H' a = F.Hm a := fun a q => by
  obtain ⟨m, e⟩ := k.keep a q
  exact ⟨m, (h a m).trans e⟩
theorem call_sp {sp : DSp} {ws : List W} {vs : List V} {P : W → Store → Prop} {Q : VK} (k : Ok K F M S H) (x : SlotsOk K M S H σ δ) (a : Wvs K (gS M S H) vs ws) (p : sp ws S P (fun x T => F.X x δ T))
    (c : ∀ v H' w S', P w S' → St K F M S H S' H' → Wv K (gS M S' H') v w → Q v H') : spD K F.T sp vs H Q (L2.WE F.Wx σ) :=
  ⟨{ G := gS M S H, Wx := fun cls d _ H => F.Wx cls d σ H, X := fun y _ T => F.X y δ T, T := F.T, M0 := M, Hm := H }, M, S, ws, P, ⟨⟨k.hid, k.cell, Sub.refl _, k.tabs, fun a m => ⟨m, rfl⟩⟩, fun C d fs δ' S' σ' H' q o _ xd => k.hX C d fs δ S' σ H' q ⟨o.hid, o.cell, k.sub.trans o.sub, o.tabs, k.keepOn fun a m => (o.keep a m).2⟩ (x.mono o.sub) xd⟩, rfl, a, rfl, p,
    fun v H' w S' pw s r => c v H' w S' pw ⟨⟨⟨s.ok.hid, s.ok.cell, k.sub.trans s.ok.sub, s.ok.tabs, k.keepOn s.stay⟩, k.hX⟩, s.sub, s.stay⟩ r⟩
theorem call_sp0 {sp : DSp} {ws : List W} {vs : List V} {P : W → Store → Prop} {Q : VK} (k : Ok K F M S H) (a : Wvs K (gS M S H) vs ws) (p : sp ws S P (fun _ _ => False))
    (c : ∀ v H' w S', P w S' → St K F M S H S' H' → Wv K (gS M S' H') v w → Q v H') : spD K F.T sp vs H Q (fun _ _ _ => False) :=
  ⟨{ G := gS M S H, Wx := fun _ _ _ _ => False, X := fun _ _ _ => False, T := F.T, M0 := M, Hm := H }, M, S, ws, P, ⟨⟨k.hid, k.cell, Sub.refl _, k.tabs, fun a m => ⟨m, rfl⟩⟩, fun C d fs δ' S' σ' H' q o _ xd => q.elim⟩, rfl, a, rfl, p,
    fun v H' w S' pw s r => c v H' w S' pw ⟨⟨⟨s.ok.hid, s.ok.cell, k.sub.trans s.ok.sub, s.ok.tabs, k.keepOn s.stay⟩, k.hX⟩, s.sub, s.stay⟩ r⟩
def dnW (P : W → Store → Prop) (w : W) (S : Store) : Prop := ∃ S', (∀ a c, S' a = some c → S a = some c) ∧ P w S'
theorem dnW.of {P : W → Store → Prop} {w : W} (h : P w S) : dnW P w S := ⟨S, fun _ _ h => h, h⟩
def startD (N : Nat) (ws : List W) : Slots := ws.map some ++ List.replicate (N - ws.length) none
def bodyD (n N : Nat) (m : SM) : DSp := fun ws S P X => ws.length = n ∧ m { nx := fun _ T => dnW P (.d .non) T, rt := dnW P, X := fun x _ T => X x T } (startD N ws) S
theorem SlotsOk.start {N : List Str} {vs : List V} {ws : List W} (a : Wvs K (gS M S H) vs ws) : SlotsOk K M S H (L2.start N vs) (startD N.length ws) := by
  refine ⟨fun i w e => ?_, by unfold L2.start startD; simp [a.length]⟩
  unfold startD at e
  by_cases hi : i < ws.length
  · rw [List.getElem?_append_left (by simpa using hi), List.getElem?_map] at e
    cases q : ws[i]? with
    | none => rw [q] at e; cases e
    | some z =>
      rw [q] at e
      cases e
      obtain ⟨v, h1, h2⟩ := a.get q
      refine ⟨v, ?_, h2⟩
      unfold L2.start
      rw [List.getElem?_append_left (by rw [List.length_map, a.length]; exact hi), List.getElem?_map, h1]
      rfl
  · rw [List.getElem?_append_right (by simpa using hi), List.getElem?_replicate] at e
    split at e <;> cases e
theorem body_run {N : List Str} {n : Nat} {m : SM} {vs : List V} {Q : VK} {E : XK} {TT : List (Addr × Str)} (h : spD K TT (bodyD n N.length m) vs H Q E) (hb : ∀ F : Fr, F.Wx = (fun cls d _ H => E cls d H) → F.T = TT → JSs X K F sts m) : tWSs X sts { nx := fun _ H' => Q .non H', rt := Q } (L2.start N vs) H := by
  obtain ⟨F, M, S, ws, P, k, eT, a, eW, ⟨hn, p⟩, c⟩ := h
  have k0 : Ok K { F with X := fun x _ T => F.X x [] T } M S H := ⟨⟨k.hid, k.cell, k.sub, k.tabs, k.keep⟩, fun C d fs δ S' σ H' q o x xd => k.hX C d fs [] S' σ H' q ⟨o.hid, o.cell, o.sub, o.tabs, o.keep⟩ ⟨fun i w e => by simp at e, Nat.zero_le _⟩ xd⟩
  have back : ∀ {S1 H1}, Ok K { F with X := fun x _ T => F.X x [] T } M S1 H1 → Sub (gS M S H) (gS M S1 H1) → (∀ a, M a → H1 a = H a) → St K F M S H S1 H1 := fun k1 s1 t1 => ⟨⟨⟨k1.hid, k1.cell, k1.sub, k1.tabs, k1.keep⟩, k.hX⟩, s1, t1⟩
  refine hb { F with X := fun x _ T => F.X x [] T } eW eT { nx := fun _ T => dnW P (.d .non) T, rt := dnW P, X := fun x _ T => F.X x [] T } _ S rfl p M _ _ H k0 (.start a) ⟨fun S1 σ1 H1 δ1 q k1 x1 s1 t1 => ?_, fun S1 v H1 w q k1 r s1 t1 => ?_, fun _ _ _ _ q => q.elim, fun _ _ _ _ q => q.elim⟩
  · obtain ⟨T, le, pw⟩ := q
    have s2 := back k1 s1 t1
    exact c .non H1 _ T pw (s2.trans (.cut s2.ok le)) (.d .non)
  · obtain ⟨T, le, pw⟩ := q
    have s2 := back k1 s1 t1
    exact c v H1 w T pw (s2.trans (.cut s2.ok le)) (r.mono (sub_cut le))
theorem spD_len {n N : Nat} {m : SM} {vs : List V} {Q : VK} {E : XK} {TT : List (Addr × Str)} (h : spD K TT (bodyD n N m) vs H Q E) : vs.length = n := by
  obtain ⟨F, M, S, ws, P, k, eT, a, eW, ⟨hn, p⟩, c⟩ := h
  exact a.length.trans hn
section
variable {P : Program} {w : World} {mg : Str → Option Value} {base : Heap} {TT : List (Addr × Str)}
theorem fnD {x qual : Str} {st : Stmt} {f : Addr} {fd : FuncData} {N ps : List Str} {k n : Nat} {m : SM} (Fn : Fun K x qual st f fd) (Sc : FnScope N ps (defScope st)) (hn : n = ps.length)
    (hb : ∀ (cdv : Value) (A : Around) (outer : List Env) (s : Shared) (H : Hp) (E : XK) (F : Fr), F.T = TT → Room k (A.deeper (envOfC qual (defScope st) s.heap.objs.size f cdv)) → L2N.Takes (cxOf (L2N.CX P w) P w K mg base N qual (defScope st) f cdv A outer s H E) F.Wx →
      JSs (cxOf (L2N.CX P w) P w K mg base N qual (defScope st) f cdv A outer s H E) K F (defBody st) m) : FnOk P w K mg base (L2N.CX P w) (k + 1) f fd ps (spD K TT (bodyD n N.length m)) := by
  obtain ⟨oc, od, kV, doc, pm, an, cdv, ct, osl, rfl, lk, hcd⟩ := Fn.ex
  exact fn_of lk hcd Sc (fun vs H Q E h => (spD_len h).trans hn) fun A outer s H vs Q E hr h => ⟨_, pss, body_run h fun F eW eT => hb cdv A outer s H E F eT hr (eW ▸ L2N.takes_of rfl rfl rfl rfl)⟩
theorem fnDD {x qual : Str} {st : Stmt} {dvs : List V} {kws : List (Str × V)} {f : Addr} {fd : FuncData} {N ps : List Str} {k n : Nat} {m : SM} (Fn : FunD K x qual (defArgs st) (defBody st) (defScope st) dvs kws f fd) (Sc : FnScope N ps (defScope st)) (hn : n = ps.length)
    (hb : ∀ (cdv : Value) (A : Around) (outer : List Env) (s : Shared) (H : Hp) (E : XK) (F : Fr), F.T = TT → Room k (A.deeper (envOfC qual (defScope st) s.heap.objs.size f cdv)) → L2N.Takes (cxOf (L2N.CX P w) P w K mg base N qual (defScope st) f cdv A outer s H E) F.Wx →
      JSs (cxOf (L2N.CX P w) P w K mg base N qual (defScope st) f cdv A outer s H E) K F (defBody st) m) : FnOk P w K mg base (L2N.CX P w) (k + 1) f fd ps (spD K TT (bodyD n N.length m)) :=
  Fn.ok Sc (fun vs H Q E h => (spD_len h).trans hn) fun cdv A outer s H vs Q E hr h => ⟨_, pss, body_run h fun F eW eT => hb cdv A outer s H E F eT hr (eW ▸ L2N.takes_of rfl rfl rfl rfl)⟩
end

def Rn (X : Cx) (K : PySem.W.Frag) (F : Fr) (f : Value) (n : Option Nat) (ks : List Str) (sp : DSp) : Prop := ∀ (M : Hid) (S : Store) (H : Hp) (σ : L2.St) (δ : Slots) (ws zs : List W) (vs us' : List V) (P : W → Store → Prop), Ok K F M S H → SlotsOk K M S H σ δ → Wvs K (gS M S H) vs ws → Wvs K (gS M S H) us' zs →
  (∀ j, n = some j → ws.length = j) → zs.length = ks.length → sp (ws ++ zs) S P (fun x T => F.X x δ T) →
  ∀ (pins : List (Addr × Obj)) (s : Shared) (us uz : List Value) (Q : VK), Inv X pins σ H s → Vals vs us → Vals us' uz → (∀ v H' w S', P w S' → St K F M S H S' H' → Wv K (gS M S' H') v w → Q v H') → wpAny (model X.prog X.w) X.A (call f us (ks.zip uz)) (EP X pins σ Q) X.xe s
section
variable {k n : Nat} {f C : Addr} {fd : FuncData} {ps ks : List Str} {sp : DSp} {Sp0 : Sp}
theorem run_fnA {pins : List (Addr × Obj)} {s : Shared} {Q : VK} {args : Args} {us : List Value} {vs : List V} (G : FnOk X.prog X.w X.K X.mg X.base (L2N.CX X.prog X.w) k f fd ps Sp0) (hr : Room k X.A) (hb : BindsTo s fd args (ps.zip us)) {W : WX} (tk : L2N.Takes X W)
    (I : Inv X pins σ H s) (r : Vals vs us) (h : Sp0 vs H Q (L2.WE W σ)) : wpAny (model X.prog X.w) X.A (call (.ref f) args.pos args.kw) (EP X pins σ Q) X.xe s := by
  refine wpAny_call (codeAny_mono (G.run X.A X.stack s H args us vs Q (L2.WE W σ) hr I.env0 hb r h) fun rr s' hq => ?_)
  cases rr with
  | error e => exact L2N.passAt tk σ pins H s e s' I hq
  | ok fl =>
    cases fl with
    | ret u => exact I.after hq
    | next => exact False.elim hq
    | brk => exact False.elim hq
    | cont => exact False.elim hq
theorem rn_fn {dvs : List V} {ds : List Value} {dds : List W} (eK : X.K = K) (G : FnOk X.prog X.w K X.mg X.base (L2N.CX X.prog X.w) k f fd ps (spD K F.T sp)) (hr : Room k X.A) (hb : Binds K fd ps ds) (hd : Vals dvs ds) (hw : ∀ G, Wvs K G dvs dds) (tk : L2N.Takes X F.Wx) : Rn X K F (.ref f) none [] fun ws => sp (ws ++ dds) := by
  subst eK
  intro M S H σ δ ws zs vs us' P kk x w z _ hz p pins s us uz Q I r rz c
  have ez : zs = [] := List.length_eq_zero_iff.mp hz
  subst ez
  cases z
  cases rz
  rw [List.append_nil] at p
  have a : Wvs X.K (gS M S H) (vs ++ dvs) (ws ++ dds) := w.append (hw _)
  have h := call_sp (sp := sp) kk x a p c
  have r2 : Vals (vs ++ dvs) (us ++ ds) := r.append hd
  have hl : (us ++ ds).length = ps.length := by rw [← r2.length]; exact G.len _ _ _ _ h
  exact run_fnA (args := ⟨us, []⟩) G hr (hb s us I.kIn hl) tk I r2 h
theorem rn_fnK {g : List Value → List Value → List Value} {gV : List V → List V → List V} {gD : List W → List W} (eK : X.K = K) (G : FnOk X.prog X.w K X.mg X.base (L2N.CX X.prog X.w) k f fd ps (spD K F.T sp)) (hr : Room k X.A) (hb : KBn K fd ps n ks g gV)
    (hw : ∀ G vs zs ws us, Wvs K G vs ws → Wvs K G zs us → ws.length = n → Wvs K G (gV vs zs) (gD (ws ++ us))) (tk : L2N.Takes X F.Wx) : Rn X K F (.ref f) (some n) ks fun ws => sp (gD ws) := by
  subst eK
  intro M S H σ δ ws zs vs us' P kk x w z hn hz p pins s us uz Q I r rz c
  have a : Wvs X.K (gS M S H) (gV vs us') (gD (ws ++ zs)) := hw _ _ _ _ _ w z (hn n rfl)
  have h := call_sp (sp := sp) kk x a p c
  have r2 := hb.rel r rz
  exact run_fnA (args := ⟨us, ks.zip uz⟩) G hr (hb.to s us uz I.kIn (by rw [← r.length, w.length]; exact hn n rfl) (by rw [← rz.length, z.length]; exact hz)) tk I r2 h
def mkD (C : String) (sp : DSp) : DSp := fun ws S P X => ∀ a, S a = none → sp (.ref a :: ws) (upS S a (.obj C [])) (fun w S' => match w with
  | .d .non => P (.ref a) S'
  | _ => False) X
theorem made_ok {C : String} {ws : List W} {vs : List V} {x dx : Addr} (k : Ok K F M S H) (w : Wvs K (gS M S H) vs ws) (hx : H x = none) (hd : H dx = none) (ne : dx ≠ x) : St K F M S H (upS S x (.obj C [])) (upd (upd H dx (.own x)) x (.ins (clsAt K C) dx [])) := by
  have s1 : St K F M S H S (upd H dx (.own x)) := .new k hd
  exact s1.trans (.newC s1.ok (by rw [upd_ne (Ne.symm ne)]; exact hx) (.obj upd_same .nil))
theorem rn_mkA {C : String} {vs1 : List V} {ws1 : List W} {P : W → Store → Prop} {args : Args} {pins : List (Addr × Obj)} {s : Shared} {Q : VK} {us1 : List Value} (Mk0 : Mk X.K (clsAt X.K C) f) (G : FnOk X.prog X.w X.K X.mg X.base (L2N.CX X.prog X.w) k f fd ps (spD X.K F.T sp)) (hr : Room (k + 1) X.A) (tk : L2N.Takes X F.Wx)
    (kk : Ok X.K F M S H) (x : SlotsOk X.K M S H σ δ) (hb : ∀ (s : Shared) (o : Value), X.K.In s.heap → BindsTo s fd ⟨o :: args.pos, args.kw⟩ (ps.zip (o :: us1))) (w : Wvs X.K (gS M S H) vs1 ws1) (I : Inv X pins σ H s) (r : Vals vs1 us1)
    (p : mkD C sp ws1 S P (fun x T => F.X x δ T)) (c : ∀ v H' w S', P w S' → St X.K F M S H S' H' → Wv X.K (gS M S' H') v w → Q v H') : wpAny (model X.prog X.w) X.A (call (.ref (clsAt X.K C)) args.pos args.kw) (EP X pins σ Q) X.xe s := by
  have hn1 : H (s.heap.objs.size + 1) = none := I.hok.fresh (Nat.le_succ _)
  have hn2 : H s.heap.objs.size = none := I.hok.fresh (Nat.le_refl _)
  have ne : s.heap.objs.size ≠ s.heap.objs.size + 1 := Nat.ne_of_lt (Nat.lt_succ_self _)
  have s1 := made_ok (C := C) kk w hn1 hn2 ne
  have I2 := Inv.made (C := clsAt X.K C) I
  have h := call_sp (sp := sp) (Q := fun v H2 => v = .non ∧ Q (.ref (s.heap.objs.size + 1)) H2) s1.ok (s1.slots x) (Wvs.cons (.ref _) (w.mono s1.sub)) (p _ (kk.cell.none hn1)) fun v H' w' S' pw s2 r2 => by
    split at pw
    · exact ⟨r2.to_d.to_non, c _ H' _ S' pw (s1.trans s2) (.ref _)⟩
    · exact pw.elim
  have r2 : Vals (V.ref (s.heap.objs.size + 1) :: vs1) (Value.ref (s.heap.objs.size + 1) :: us1) := .cons rfl r
  refine wpAny_call (make_map (f := f) I.kIn Mk0.makes Mk0.init (beq_iff_eq.mp Mk0.fn) (codeAny_mono (G.run _ X.stack _ _ ⟨Value.ref (s.heap.objs.size + 1) :: args.pos, args.kw⟩ (Value.ref (s.heap.objs.size + 1) :: us1) _ _ (L2.WE F.Wx σ) (hr.make (clsAt X.K C) args.pos args.kw)
    (I2.env0.make (clsAt X.K C) args.pos args.kw) (hb _ _ I2.kIn) r2 h) fun rr s' hq => ?_))
  cases rr with
  | error e => exact L2N.passAt tk σ pins _ _ e s' I2 hq
  | ok fl =>
    cases fl with
    | ret u =>
      obtain ⟨v, H', I3, rv, ev, q3⟩ := I2.after hq
      subst ev
      exact ⟨rv, ⟨V.ref (s.heap.objs.size + 1), H', I3, rfl, q3⟩⟩
    | next => exact False.elim hq
    | brk => exact False.elim hq
    | cont => exact False.elim hq
end
end DX

set_option Elab.async false
set_option linter.all false
set_option maxRecDepth 100000
namespace DX
open PySem PySem.Spec PyProof.Rows L2
variable {X : Cx} {K : PySem.W.Frag} {F : Fr} {M : Hid} {S : Store} {H : Hp} {σ : L2.St} {δ : Slots} {a b c e o : Expr} {es : List Expr} {kws : List Keyword} {st : Stmt} {rest sts sts' : List Stmt} {ma mb m mo : EM} {mr mk : AM} {pos p apos : Pos} {k n : Nat} {f C : Addr} {fd : FuncData} {ps ks : List Str} {sp : DSp} {x : Str} {nm : Option Str} {kpos : Pos}

def tWK (X : Cx) (kws : List Keyword) : TA := fun σ H Q => ∀ (pos : Pos) (pins : List (Addr × Obj)) (s : Shared), Inv X pins σ H s → wpAny (model X.prog X.w) X.A (evalAll ((backToKw pos (keywordEach kws X.env)).map (·.2))) (AP X pins σ Q) X.xe s
theorem pk : PK X kws (tWK X kws) := ⟨fun pos pins s σ H Q I h => h pos pins s I⟩
def JK (X : Cx) (K : PySem.W.Frag) (F : Fr) (kws : List Keyword) (m : AM) : Prop := ∀ δ S P, m δ S P (fun x T => F.X x δ T) → WA K F (tWK X kws) δ S P
theorem JK.of {t : TA} {m : AM} (h : PK X kws t) (w : ∀ δ S P, m δ S P (fun x T => F.X x δ T) → WA K F t δ S P) : JK X K F kws m := fun δ S P q M σ H k x Q c ps pins s I => h.run ps pins s σ H Q I (w δ S P q M σ H k x Q c)
theorem jk_nil : JK X K F [] aNil := .of pk_nil fun δ S P q M σ H k x Q c => c [] H [] S q (.refl k) .nil
theorem jk_cons (ja : JE X K F e m) (jr : JK X K F kws mr) : JK X K F (⟨nm, e, kpos⟩ :: kws) (aCons m mr) := .of (pk_cons pe pk) fun δ S P q M σ H k x Q c =>
  ja δ S _ q M σ H k x _ fun v H1 w1 S1 p1 s1 v1 => jr δ S1 _ p1 M σ H1 s1.ok (s1.slots x) _ fun vs H2 ws S2 p2 s2 v2 => c (v :: vs) H2 (w1 :: ws) S2 p2 (s1.trans s2) (.cons (v1.mono s2.sub) v2)

theorem rn_mk {cl : String} {dvs : List V} {ds : List Value} {dds : List W} (eK : X.K = K) (Mk0 : Mk K (clsAt K cl) f) (G : FnOk X.prog X.w K X.mg X.base (L2N.CX X.prog X.w) k f fd ps (spD K F.T sp)) (hr : Room (k + 1) X.A) (hb : Binds K fd ps ds) (hd : Vals dvs ds) (hw : ∀ G, Wvs K G dvs dds) (hl : ∀ ws S P X, sp ws S P X → ws.length = ps.length) (tk : L2N.Takes X F.Wx) :
    Rn X K F (.ref (clsAt K cl)) none [] fun ws => mkD cl sp (ws ++ dds) := by
  subst eK
  intro M S H σ δ ws zs vs us' P kk x w z _ hz p pins s us uz Q I r rz c
  have ez : zs = [] := List.length_eq_zero_iff.mp hz
  subst ez
  cases z
  cases rz
  rw [List.append_nil] at p
  have a : Wvs X.K (gS M S H) (vs ++ dvs) (ws ++ dds) := w.append (hw _)
  have r2 : Vals (vs ++ dvs) (us ++ ds) := r.append hd
  refine rn_mkA (C := cl) (args := ⟨us, []⟩) Mk0 G hr tk kk x (fun s' o ki => hb s' (o :: us) ki ?_) a I r2 p c
  have h1 := hl _ _ _ _ (p _ (kk.cell.none (I.hok.fresh (Nat.le_refl s.heap.objs.size))))
  rw [← h1]
  show (us ++ ds).length + 1 = (ws ++ dds).length + 1
  rw [← r2.length, a.length]
theorem rn_mkK {cl : String} {g : List Value → List Value → List Value} {gV : List V → List V → List V} {gD : List W → List W} (eK : X.K = K) (Mk0 : Mk K (clsAt K cl) f) (G : FnOk X.prog X.w K X.mg X.base (L2N.CX X.prog X.w) k f fd ps (spD K F.T sp)) (hr : Room (k + 1) X.A) (hb : KBn K fd ps (n + 1) ks g gV)
    (hg : ∀ o us uz, g (o :: us) uz = o :: (g (o :: us) uz).tail) (hgV : ∀ o us uz, gV (o :: us) uz = o :: (gV (o :: us) uz).tail) (hw : ∀ G o vs zs ws us, Wvs K G vs ws → Wvs K G zs us → ws.length = n → Wvs K G (gV (o :: vs) zs).tail (gD (ws ++ us)))
    (hgt : ∀ o o' us uz, (g (o :: us) uz).tail = (g (o' :: us) uz).tail) (tk : L2N.Takes X F.Wx) : Rn X K F (.ref (clsAt K cl)) (some n) ks fun ws => mkD cl sp (gD ws) := by
  subst eK
  intro M S H σ δ ws zs vs us' P kk x w z hn hz p pins s us uz Q I r rz c
  have a : Wvs X.K (gS M S H) (gV (.non :: vs) us').tail (gD (ws ++ zs)) := hw _ _ _ _ _ _ w z (hn n rfl)
  have r2 : Vals (gV (.non :: vs) us') (g (.none :: us) uz) := hb.rel (.cons rfl r) rz
  have r3 : Vals (gV (.non :: vs) us').tail (g (.none :: us) uz).tail := by
    rw [hg, hgV] at r2
    cases r2 with
    | cons h t => exact t
  refine rn_mkA (C := cl) (args := ⟨us, ks.zip uz⟩) (us1 := (g (.none :: us) uz).tail) Mk0 G hr tk kk x (fun s o ki => ?_) a I r3 p c
  have h1 := hb.to s (o :: us) uz ki (by show us.length + 1 = n + 1; rw [← r.length, w.length, hn n rfl]) (by rw [← rz.length, z.length]; exact hz)
  rw [hg, hgt o .none] at h1
  exact h1

def mCall (sp : DSp) (ma : AM) : EM := fun δ S P X => ma δ S (fun ws S1 => sp ws S1 P X) X
def mCallK (n j : Nat) (sp : DSp) (ma mk : AM) : EM := fun δ S P X => ma δ S (fun ws S1 => mk δ S1 (fun zs S2 => ws.length = n ∧ zs.length = j ∧ sp (ws ++ zs) S2 P X) X) X
theorem je_call (eK : X.K = K) (R : Rn X K F (.ref f) none [] sp) (hg : Gl X x) (hm : X.mg x = some (.ref f)) (hk : PySem.W.keepIn K (.ref f) = true) (ja : JA X K F (e :: es) mr)
    (hdb : (x == ("__debug__" : Str)) = false := by decide) (he : starEach (e :: es) X.env = (false, eval e X.env) :: starEach es X.env := by rfl) (hpl : (backTo pos (starEach es X.env)).any (·.1) = false := by rfl) :
    JE X K F (.Call (.Name x p) (e :: es) [] pos) (mCall sp mr) := by
  subst eK
  intro δ S P q M σ H k xx Q c pins s I
  refine wpAny_Call_Name_kw (ld_glob I hg hm ?_ hdb)
  refine PySem.W.callWith_K (h₀ := X.base) I.ok.mod.kin hk (thn (ja δ S _ q M σ H k xx (fun vs H1 => ∃ ws S1, sp ws S1 P (fun y T => F.X y δ T) ∧ St X.K F M S H S1 H1 ∧ Wvs X.K (gS M S1 H1) vs ws) (fun vs H1 ws S1 p s v => ⟨ws, S1, p, s, v⟩) pos pins s I) fun us s1 ⟨vs, H1, I1, r, ws, S1, p1, st, v1⟩ => ⟨I1.kIn, ?_⟩) he hpl
  exact R M S1 H1 σ δ ws [] vs [] P st.ok (st.slots xx) v1 .nil (fun _ z => nomatch z) rfl (by rw [List.append_nil]; exact p1) pins s1 us [] Q I1 r .nil fun v H' w S' pw s2 v2 => c v H' w S' pw (st.trans s2) v2
theorem je_callK0 {jj : Nat} (eK : X.K = K) (R : Rn X K F (.ref f) (some 0) ks sp) (hg : Gl X x) (hm : X.mg x = some (.ref f)) (hk : PySem.W.keepIn K (.ref f) = true) (jk : JK X K F kws mk)
    (hj : ks.length = jj := by rfl) (hall : (backToKw pos (keywordEach kws X.env)).all (·.1.isSome) = true := by rfl) (hks : (backToKw pos (keywordEach kws X.env)).filterMap (·.1) = ks := by rfl)
    (hdb : (x == ("__debug__" : Str)) = false := by decide) (hpl : ((backTo pos (starEach [] X.env)).any (·.1) || (backToKw pos (keywordEach kws X.env)).any (·.1.isNone)) = false := by rfl) :
    JE X K F (.Call (.Name x p) [] kws pos) (mCallK 0 jj sp aNil mk) := by
  subst hj
  subst eK
  intro δ S P q M σ H k xx Q c pins s I
  refine wpAny_Call_Name_kw (ld_glob I hg hm ?_ hdb)
  refine PySem.W.callWith_KW0 (h₀ := X.base) I.ok.mod.kin hk hall ?_ hpl
  refine thn (jk δ S _ q M σ H k xx (fun vs' H2 => ∃ zs S2, (([] : List W).length = 0 ∧ zs.length = ks.length ∧ sp ([] ++ zs) S2 P (fun y T => F.X y δ T)) ∧ St X.K F M S H S2 H2 ∧ Wvs X.K (gS M S2 H2) vs' zs) (fun vs H1 ws S1 p s v => ⟨ws, S1, p, s, v⟩) pos pins s I) fun uz s2 ⟨vs', H2, I2, rz, zs, S2, ⟨q1, q2, q3⟩, st2, v2⟩ => ⟨I2.kIn, ?_⟩
  rw [hks]
  refine R M S2 H2 σ δ [] zs [] vs' P st2.ok (st2.slots xx) .nil v2 (fun j z => by cases z; rfl) q2 q3 pins s2 [] uz Q I2 .nil rz fun v H' w S' pw s3 v3 => c v H' w S' pw (st2.trans s3) v3

def insOf (S : Store) (w : W) : Option (String × List (String × W)) := match w with
  | .ref a => match S a with
    | some (.obj C fs) => some (C, fs)
    | _ => none
  | .d (.ins C fs) => some (C, fs.map fun p => (p.1, .d p.2))
  | _ => none
theorem DVf.w {G : Hp} : ∀ {vs : List (Str × V)} {ds : List (String × D)}, DVf K G vs ds → Wvf K G vs (ds.map fun p => (p.1, .d p.2))
  | _, _, .nil => .nil
  | _, _, .cons h r => .cons (.d h) (DVf.w r)
theorem insOf_ok {w : W} {v : V} {cl : String} {fs : List (String × W)} (k : OkC K M S H) (h : Wv K (gS M S H) v w) (e : insOf S w = some (cl, fs)) : ∃ a dx vs, v = .ref a ∧ H a = some (.ins (clsAt K cl) dx vs) ∧ Wvf K (gS M S H) vs fs := by
  unfold insOf at e
  split at e
  · rename_i a
    split at e
    · rename_i C l el
      cases e
      cases h.to_ref
      cases k _ _ el with | obj h1 h2 => exact ⟨_, _, _, rfl, h1, h2⟩
    · cases e
  · rename_i C l
    cases e
    obtain ⟨a, dx, vs, rfl, h1, h2⟩ := h.to_d.to_ins
    exact ⟨a, dx, vs, rfl, gS_sub _ _ h1, h2.w⟩
  · cases e
theorem Wvf.lookup_none {G : Hp} {n : String} : ∀ {vs : List (Str × V)} {ws : List (String × W)}, Wvf K G vs ws → ws.lookup n = none → vs.lookup (Str.ofString n) = none
  | _, _, .nil, _ => rfl
  | _, _, .cons (f := g) h r, e => by
    rw [List.lookup_cons] at e ⊢
    rw [ofString_beq]
    split at e
    · cases e
    · exact Wvf.lookup_none r e
theorem Wvf.lookup_some {G : Hp} {n : String} {w : W} : ∀ {vs : List (Str × V)} {ws : List (String × W)}, Wvf K G vs ws → ws.lookup n = some w → ∃ v, vs.lookup (Str.ofString n) = some v ∧ Wv K G v w
  | _, _, .nil, e => by cases e
  | _, _, .cons (f := g) h r, e => by
    rw [List.lookup_cons] at e ⊢
    rw [ofString_beq]
    split at e
    · cases e
      exact ⟨_, rfl, h⟩
    · exact Wvf.lookup_some r e
structure MethOk (X : Cx) (K : PySem.W.Frag) (F : Fr) (m : String) (n : Option Nat) (ks : List Str) (cl : String) (sp : DSp) : Prop where
  c : Cls K (clsAt K cl)
  at_ : ∃ f, Meth K (clsAt K cl) (Str.ofString m) f ∧ Rn X K F (.ref f) n ks sp
def mMeth (m : String) (tb : List (String × DSp)) (mo : EM) (mr : AM) : EM := fun δ S P X => mo δ S (fun w S1 => match insOf S1 w with
  | some (cl, fs) => fs.lookup m = none ∧ (match tb.lookup cl with
    | some sp => mr δ S1 (fun ws S2 => sp (w :: ws) S2 P X) X
    | none => False)
  | none => False) X
abbrev MethsOk (X : Cx) (K : PySem.W.Frag) (F : Fr) (m : String) (n : Option Nat) (ks : List Str) (tb : List (String × DSp)) : Prop := ∀ cl sp, tb.lookup cl = some sp → MethOk X K F m n ks cl sp
theorem meths_nil {m : String} {n : Option Nat} {ks : List Str} : MethsOk X K F m n ks [] := fun cl sp e => by cases e
theorem meths_cons {m cl : String} {n : Option Nat} {ks : List Str} {tb : List (String × DSp)} (h : MethOk X K F m n ks cl sp) (r : MethsOk X K F m n ks tb) : MethsOk X K F m n ks ((cl, sp) :: tb) := fun c2 s2 e => by
  rw [List.lookup_cons] at e
  split at e
  · rename_i hb
    cases e
    rw [beq_iff_eq.mp hb]
    exact h
  · exact r c2 s2 e
theorem je_meth0 {m : String} {tb : List (String × DSp)} {pl : Sem Bool} (eK : X.K = K) (hT : MethsOk X K F m none [] tb) (jo : JE X K F o mo)
    (ht : eval (.Call (.Attribute o (Str.ofString m) apos) [] [] pos) X.env = (do
      let ov ← eval o X.env
      standAt apos.atName
      let (f, first) ← holding [ov] (getMethod ov (Str.ofString m) pl)
      callWith pos f first (backTo pos (starEach [] X.env)) (backToKw pos (keywordEach [] X.env))) := by rfl) :
    JE X K F (.Call (.Attribute o (Str.ofString m) apos) [] [] pos) (mMeth m tb mo aNil) := by
  subst eK
  intro δ S P q M σ H k xx Q c pins s I
  refine PySem.W.methodCall_KW (pl := pl) (thn (jo δ S _ q M σ H k xx (fun v H1 => ∃ w S1, _ ∧ St X.K F M S H S1 H1 ∧ Wv X.K (gS M S1 H1) v w) (fun v H1 w S1 p s v => ⟨w, S1, p, s, v⟩) pins s I) fun u s1 ⟨v, H1, I1, rx, w, S1, p1, st, v1⟩ => ?_) ht
  split at p1
  · rename_i cl fs e1
    obtain ⟨hl, p1⟩ := p1
    split at p1
    · rename_i sp e2
      obtain ⟨a, dx, vs, rfl, h1, h2⟩ := insOf_ok st.ok.cell v1 e1
      obtain rfl : u = Value.ref a := rx
      obtain ⟨hc, f, hm, R⟩ := hT cl sp e2
      refine getmeth_ok I1 h1 hc hm (h2.lookup_none hl) ?_
      refine PySem.W.callWith_K0 (first := [.ref a]) I1.kIn hm.kp ?_
      exact R M S1 H1 σ δ [w] [] [.ref a] [] P st.ok (st.slots xx) (.cons v1 .nil) .nil (fun _ z => nomatch z) rfl p1 pins s1 [.ref a] [] Q I1 (.cons rfl .nil) .nil fun v H' w S' pw s3 v3 => c v H' w S' pw (st.trans s3) v3
    · exact p1.elim
  · exact p1.elim
end DX

set_option Elab.async false
set_option linter.all false
set_option maxRecDepth 100000
namespace DX
open PySem PySem.Spec PyProof.Rows L2
variable {X : Cx} {K : PySem.W.Frag} {F : Fr} {M : Hid} {S : Store} {H : Hp} {σ : L2.St} {δ : Slots} {a b c e o : Expr} {es : List Expr} {kws : List Keyword} {st : Stmt} {rest sts sts' : List Stmt} {ma mb m mo : EM} {mr mk : AM} {pos p apos : Pos} {k n : Nat} {f C : Addr} {fd : FuncData} {ps ks : List Str} {sp : DSp} {x : Str} {nm : Option Str} {kpos : Pos}
inductive AtK where
  | fld | con (d : D) | prp (sp : DSp)
def mAttr (f : String) (tb : List (String × AtK)) (mo : EM) : EM := fun δ S P X => mo δ S (fun w S1 => match insOf S1 w with
  | some (cl, fs) => (match tb.lookup cl with
    | some .fld => (match fs.lookup f with
      | some u => P u S1
      | none => False)
    | some (.con d) => fs.lookup f = none ∧ P (.d d) S1
    | some (.prp sp) => sp [w] S1 P (fun _ _ => False)
    | none => False)
  | none => False) X
inductive AtOk (X : Cx) (K : PySem.W.Frag) (F : Fr) (f : String) (cl : String) : AtK → Prop
  | fld : Cls K (clsAt K cl) → NoAttr K (clsAt K cl) (Str.ofString f) → AtOk X K F f cl .fld
  | con {d : D} {v : V} {u : Value} : Cls K (clsAt K cl) → Con K (clsAt K cl) (Str.ofString f) v u → (∀ G, DV K G v d) → AtOk X K F f cl (.con d)
  | prp {k : Nat} {p g : Addr} {fd : FuncData} {ps : List Str} {sp : DSp} : Cls K (clsAt K cl) → PropOf K (clsAt K cl) (Str.ofString f) p g → FnOk X.prog X.w K X.mg X.base (L2N.CX X.prog X.w) k g fd ps (spD K F.T sp) → Room (k + 1) X.A → Binds K fd ps [] → AtOk X K F f cl (.prp sp)
abbrev AtsOk (X : Cx) (K : PySem.W.Frag) (F : Fr) (f : String) (tb : List (String × AtK)) : Prop := ∀ cl t, tb.lookup cl = some t → AtOk X K F f cl t
theorem ats_nil {f : String} : AtsOk X K F f [] := fun cl t e => by cases e
theorem ats_cons {f cl : String} {t : AtK} {tb : List (String × AtK)} (h : AtOk X K F f cl t) (r : AtsOk X K F f tb) : AtsOk X K F f ((cl, t) :: tb) := fun c2 s2 e => by
  rw [List.lookup_cons] at e
  split at e
  · rename_i hb
    cases e
    rw [beq_iff_eq.mp hb]
    exact h
  · exact r c2 s2 e
theorem passes_none {X : Cx} : Passes (L2N.CX X.prog X.w) X.nox (fun _ _ _ => False) := fun pins σ H s e s' I ⟨_, _, _, _, _, _, _, _, _, _, _, _, h⟩ => h.elim
theorem je_attr {f : String} {tb : List (String × AtK)} (eK : X.K = K) (hT : AtsOk X K F f tb) (jo : JE X K F o mo) (hb : attributeBase o (Str.ofString f) X.env (eval o X.env) = eval o X.env := by rfl) : JE X K F (.Attribute o (Str.ofString f) pos) (mAttr f tb mo) := by
  subst eK
  intro δ S P q M σ H k xx Q c pins s I
  refine attr_of hb (thn (jo δ S _ q M σ H k xx (fun v H1 => ∃ w S1, _ ∧ St X.K F M S H S1 H1 ∧ Wv X.K (gS M S1 H1) v w) (fun v H1 w S1 p s v => ⟨w, S1, p, s, v⟩) pins s I) fun u s1 ⟨v, H1, I1, rx, w, S1, p1, st, v1⟩ => ?_)
  split at p1
  · rename_i cl fs e1
    obtain ⟨a, dx, vs, rfl, h1, h2⟩ := insOf_ok st.ok.cell v1 e1
    obtain rfl : u = Value.ref a := rx
    split at p1
    · rename_i e2
      cases hT cl _ e2 with
      | fld hc hn =>
        split at p1
        · rename_i z ez
          obtain ⟨v', l1, l2⟩ := h2.lookup_some ez
          exact getattr_ok I1 h1 hc hn l1 fun u' s2 I2 ru => ⟨v', H1, I2, ru, c v' H1 z S1 p1 st l2⟩
        · exact p1.elim
    · rename_i d e2
      cases hT cl _ e2 with
      | con hc hn hd => exact getcon_ok I1 h1 hc hn (h2.lookup_none p1.1) fun s2 I2 => ⟨_, H1, I2, hn.rel, c _ H1 _ S1 p1.2 st (.d (hd _))⟩
    · rename_i sp e2
      cases hT cl _ e2 with
      | prp hc hp G hr hbi =>
        refine getprop_ok I1 h1 hc hp G hr hbi .nil passes_none ?_
        exact call_sp0 st.ok (.cons v1 .nil) p1 fun v' H' w' S' pw s2 r2 => c v' H' w' S' pw (st.trans s2) r2
    · exact p1.elim
  · exact p1.elim

def putW (f : String) (w : W) : List (String × W) → List (String × W)
  | [] => [(f, w)]
  | (g, u) :: r => if g = f then (g, w) :: r else (g, u) :: putW f w r
theorem putW_ok {G : Hp} {f : String} {v : V} {w : W} (h : Wv K G v w) : ∀ {vs : List (Str × V)} {ws : List (String × W)}, Wvf K G vs ws → Wvf K G (putF (Str.ofString f) v vs) (putW f w ws)
  | _, _, .nil => .cons h .nil
  | _, _, .cons (f := g) h1 r => by
    unfold putF putW
    by_cases e : g = f
    · rw [if_pos e, e]
      first
        | rw [if_pos rfl]
        | rw [if_pos (beq_self_eq_true _)]
      exact .cons h r
    · rw [if_neg e]
      first
        | rw [if_neg (fun z => e (ofString_inj z))]
        | rw [if_neg (fun z => e (ofString_inj (beq_iff_eq.mp z)))]
      exact .cons h1 (putW_ok h r)
theorem Wvf.length {G : Hp} : ∀ {vs : List (Str × V)} {ws : List (String × W)}, Wvf K G vs ws → vs.length = ws.length
  | _, _, .nil => rfl
  | _, _, .cons _ r => congrArg (· + 1) (Wvf.length r)
def putA (f : String) (cs : List String) (w x : W) (S : Store) (P : Store → Prop) : Prop := match x with
  | .ref a => (match S a with
    | some (.obj cl fs) => cs.contains cl = true ∧ fs.length < 1000 ∧ P (upS S a (.obj cl (putW f w fs)))
    | _ => False)
  | _ => False
theorem putA_ok {f : String} {cs : List String} {w x : W} {P : Store → Prop} {v y : V} (hT : ∀ cl, cs.contains cl = true → Cls K (clsAt K cl) ∧ NoAttr K (clsAt K cl) (Str.ofString f)) (k : Ok K F M S H) (hw : Wv K (gS M S H) v w) (hx : Wv K (gS M S H) y x) (p : putA f cs w x S P) :
    ∃ a C dx fs S', y = .ref a ∧ H a = some (.ins C dx fs) ∧ Cls K C ∧ NoAttr K C (Str.ofString f) ∧ fs.length < 1000 ∧ P S' ∧ St K F M S H S' (upd H a (.ins C dx (putF (Str.ofString f) v fs))) := by
  unfold putA at p
  split at p
  · rename_i a
    split at p
    · rename_i cl fs e
      obtain ⟨p1, p2, p3⟩ := p
      cases hx.to_ref
      obtain ⟨h1, h2⟩ := hT cl p1
      cases k.cell _ _ e with
      | obj h3 h4 => exact ⟨a, _, _, _, _, rfl, h3, h1, h2, by rw [h4.length]; exact p2, p3, .write k e (.obj upd_same (putW_ok hw h4))⟩
    · exact p.elim
  · exact p.elim
def mFldS (f : String) (cs : List String) (mo mv : EM) : SM := fun C δ S => mv δ S (fun w S1 => mo δ S1 (fun x S2 => putA f cs w x S2 fun S3 => C.nx δ S3) (XF C δ)) (XF C δ)
theorem js_fld {f : String} {cs : List String} {mv : EM} {p p' : Pos} (eK : X.K = K) (hT : ∀ cl, cs.contains cl = true → Cls K (clsAt K cl) ∧ NoAttr K (clsAt K cl) (Str.ofString f)) (jo : JE X K F o mo) (jv : JE X K F e mv) (hs : swapsWith e (some (.Attribute o (Str.ofString f) p')) p.line X.env = pure false := by rfl) :
    JS X K F (.Assign [.Attribute o (Str.ofString f) p'] e p) (mFldS f cs mo mv) := by
  subst eK
  refine .of (ps_fld pe pe hs) fun C δ S ex q M E σ H k x c => ?_
  have q := XF_on (Pr := fun Y => mv δ S (fun w S1 => mo δ S1 (fun x S2 => putA f cs w x S2 fun S3 => C.nx δ S3) Y) Y) ex q
  refine jv δ S _ q M σ H k x _ fun v H1 w S1 p1 s1 v1 => jo δ S1 _ p1 M σ H1 s1.ok (s1.slots x) _ fun y H2 z S2 p2 s2 v2 => ?_
  obtain ⟨a, C', dx, fs, S', e1, e2, e3, e4, e5, e6, e7⟩ := putA_ok hT s2.ok (v1.mono s2.sub) v2 p2
  exact ⟨a, C', dx, fs, e1, e2, e3, e4, e5, (c.on ((s1.trans s2).trans e7)).nx1 e7.ok (((s1.trans s2).trans e7).slots x) e6⟩
end DX

set_option Elab.async false
set_option linter.all false
set_option maxRecDepth 100000
namespace DX
open PySem PySem.Spec PyProof.Rows L2
variable {X : Cx} {K : PySem.W.Frag} {F : Fr} {M : Hid} {S S' : Store} {H H' : Hp} {σ : L2.St} {δ : Slots} {a b c e o : Expr} {es ifs : List Expr} {st : Stmt} {ma mb m mo : EM} {mr mk : AM} {pos p apos : Pos}

def Fr.nox (F : Fr) : Fr := { F with Wx := fun _ _ _ _ => False, X := fun _ _ _ => False }
theorem Ok.nox (k : Ok K F M S H) : Ok K F.nox M S H := ⟨⟨k.hid, k.cell, k.sub, k.tabs, k.keep⟩, fun _ _ _ _ _ _ _ q => q.elim⟩
theorem St.nox (s : St K F M S H S' H') : St K F.nox M S H S' H' := ⟨s.ok.nox, s.sub, s.stay⟩
def hide (M : Hid) (D : Addr) : Hid := fun a => M a ∨ a = D
theorem gS_hideNew {D : Addr} {o : HO} (h : H D = none) : gS (hide M D) S (upd H D o) = gS M S H := by
  funext a
  by_cases e : a = D
  · subst e
    rw [gS_free h]
    unfold gS
    rw [if_pos (.inr rfl)]
  · unfold gS
    rw [upd_ne e]
    by_cases n : M a
    · rw [if_pos n, if_pos (.inl n)]
    · rw [if_neg n, if_neg (fun z => z.elim n e)]
theorem gS_hideW {D : Addr} {o : HO} : gS (hide M D) S (upd H D o) = gS (hide M D) S H := by
  funext a
  by_cases e : a = D
  · subst e
    unfold gS
    rw [if_pos (.inr rfl), if_pos (.inr rfl)]
  · unfold gS
    rw [upd_ne e]
theorem gS_le {M N : Hid} (h : ∀ a, M a → N a) : Sub (gS N S H) (gS M S H) := fun a o e => by
  obtain ⟨h0, h1, h2, h3⟩ := gS_some.mp e
  exact gS_some.mpr ⟨fun z => h0 (h a z), h1, h2, h3⟩
theorem Ok.hide (k : Ok K F M S H) {D : Addr} {o : HO} (h : H D = none) (n : NoX o := by exact ⟨fun ps z => (by cases z), fun φ z => (by cases z), fun gs z => (by cases z)⟩) : Ok K F.nox (hide M D) S (upd H D o) := by
  refine ⟨⟨fun a q => ?_, fun a c e => ?_, by rw [gS_hideNew h]; exact k.sub, fun p hp => ?_, fun a q => ?_⟩, fun _ _ _ _ _ _ _ q => q.elim⟩
  rotate_right 2
  · obtain ⟨t, t1, t2⟩ := k.tabs p hp
    have ne := k.tabNew h p hp
    exact ⟨t.mono (upd_ne ne) (by rw [gS_hideNew h]; exact Sub.refl _), t1, fun z => z.elim t2 ne⟩
  · obtain ⟨m, e⟩ := k.keep a q
    have ne : a ≠ D := fun z => (k.hid a m).2.ne (by rw [z]; exact h)
    exact ⟨.inl m, by rw [upd_ne ne]; exact e⟩
  · rcases q with q | q
    · exact ⟨(k.hid a q).1, by
        by_cases z : a = D
        · exact ⟨o, by rw [z, upd_same], n⟩
        · rw [upd_ne z]; exact (k.hid a q).2⟩
    · rw [q]
      exact ⟨k.cell.none h, ⟨o, by rw [upd_same], n⟩⟩
  · rw [gS_hideNew h]
    have ne : a ≠ D := neS e (k.cell.none h)
    exact (k.cell a c e).mono (Sub.refl _) (upd_ne ne)
theorem Ok.hideW {D : Addr} {o : HO} (k : Ok K F.nox (DX.hide M D) S H) (nm : ¬ F.M0 D) (n : NoX o := by exact ⟨fun ps z => (by cases z), fun φ z => (by cases z), fun gs z => (by cases z)⟩) : Ok K F.nox (DX.hide M D) S (upd H D o) := by
  have nD : S D = none := (k.hid D (.inr rfl)).1
  refine ⟨⟨fun a q => ⟨(k.hid a q).1, ?_⟩, fun a c e => ?_, by rw [gS_hideW]; exact k.sub, fun p hp => ?_, fun a q => ?_⟩, fun _ _ _ _ _ _ _ q => q.elim⟩
  rotate_right 2
  · obtain ⟨t, t1, t2⟩ := k.tabs p hp
    have ne : p.1 ≠ D := fun z => t2 (.inr z)
    exact ⟨t.mono (upd_ne ne) (by rw [gS_hideW]; exact Sub.refl _), t1, t2⟩
  · obtain ⟨m, e⟩ := k.keep a q
    have ne : a ≠ D := fun z => nm (by rw [← z]; exact q)
    exact ⟨m, by rw [upd_ne ne]; exact e⟩
  · by_cases z : a = D
    · exact ⟨o, by rw [z, upd_same], n⟩
    · rw [upd_ne z]; exact (k.hid a q).2
  · rw [gS_hideW]
    have ne : a ≠ D := neS e nD
    exact (k.cell a c e).mono (Sub.refl _) (upd_ne ne)
theorem gS_reveal {D : Addr} {c : Cell} : gS M (upS S D c) H = gS (hide M D) S H := by
  funext a
  by_cases e : a = D
  · subst e
    unfold gS
    rw [if_pos (show hide M a a from Or.inr rfl), upS_same]
    split <;> rfl
  · unfold gS
    rw [upS_ne e]
    by_cases n : M a
    · rw [if_pos n, if_pos (.inl n)]
    · rw [if_neg n, if_neg (fun z => z.elim n e)]
theorem Ok.reveal (k0 : Ok K F M S' H') {D : Addr} {c : Cell} (k : Ok K F.nox (DX.hide M D) S H) (nm : ¬ M D) (hc : CellV K (gS (DX.hide M D) S H) H D c) : Ok K F M (upS S D c) H := by
  refine ⟨⟨fun a q => ⟨?_, (k.hid a (.inl q)).2⟩, fun a e h => ?_, by rw [gS_reveal]; exact k.sub, fun p hp => ?_, fun a q => ⟨(k0.keep a q).1, (k.keep a q).2⟩⟩, k0.hX⟩
  rotate_right 1
  · obtain ⟨t, t1, t2⟩ := k.tabs p hp
    have ne : p.1 ≠ D := fun z => t2 (.inr z)
    exact ⟨t.mono rfl (by rw [gS_reveal]; exact Sub.refl _), by rw [upS_ne ne]; exact t1, fun z => t2 (.inl z)⟩
  · have ne : a ≠ D := fun z => nm (by rw [← z]; exact q)
    rw [upS_ne ne]
    exact (k.hid a (.inl q)).1
  · rw [gS_reveal]
    by_cases z : a = D
    · subst z
      rw [upS_same] at h
      cases h
      exact hc
    · rw [upS_ne z] at h
      exact k.cell a e h
theorem SlotsOk.to {N : Hid} (x : SlotsOk K M S H σ δ) (s : Sub (gS M S H) (gS N S' H')) : SlotsOk K N S' H' σ δ := ⟨fun i w e => let ⟨v, h1, h2⟩ := x.at_ i w e; ⟨v, h1, h2.mono s⟩, x.len⟩
theorem OkC.le {N : Hid} (h : ∀ a, M a → N a) (k : OkC K N S H) : OkC K M S H := fun a c e => (k a c e).mono (gS_le h) rfl
theorem Ok.full {N : Hid} (k0 : Ok K F M S' H') (h : ∀ a, M a → N a) (k : Ok K F.nox N S H) : Ok K F N S H := ⟨⟨k.hid, k.cell, k.sub, k.tabs, k.keep⟩, fun C d fs δ S1 σ H1 q o x xd => k0.hX C d fs δ S1 σ H1 q ⟨fun a m => o.hid a (h a m), o.cell.le h, o.sub.trans (gS_le h), fun p hp => (by
    obtain ⟨t, t1, t2⟩ := o.tabs p hp
    exact ⟨t.mono rfl (gS_le h), t1, fun z => t2 (h _ z)⟩), fun a q => ⟨(k0.keep a q).1, (o.keep a q).2⟩⟩ (x.to (gS_le h)) (by
  rcases xd with xd | ⟨a, vs, h1, h2, h3⟩
  · exact .inl xd
  · exact .inr ⟨a, vs, h1, h2, h3.mono (gS_le h)⟩)⟩
theorem Ok.unhide (k0 : Ok K F M S' H') {D : Addr} (k : Ok K F.nox (DX.hide M D) S H) : Ok K F M S H := by
  have sb : Sub (gS (DX.hide M D) S H) (gS M S H) := gS_le fun _ z => .inl z
  exact ⟨⟨fun a q => k.hid a (.inl q), fun a e h => (k.cell a e h).mono sb rfl, k.sub.trans sb, fun p hp => (by
    obtain ⟨t, t1, t2⟩ := k.tabs p hp
    exact ⟨t.mono rfl sb, t1, fun z => t2 (.inl z)⟩), fun a q => ⟨(k0.keep a q).1, (k.keep a q).2⟩⟩, k0.hX⟩

def tWTs (X : Cx) (ifs : List Expr) : TT := fun σ H Q => ∀ (pins : List (Addr × Obj)) (s : Shared), Inv X pins σ H s →
    wpAny (model X.prog X.w) X.A (forIn ifs true fun c r => if r = true then do let ok ← isTrue c X.env (eval c X.env); pure (ForInStep.yield ok) else pure (ForInStep.yield r)) (TP X pins σ Q) X.xe s
def JTs (X : Cx) (K : PySem.W.Frag) (F : Fr) (ifs : List Expr) (m : TM) : Prop := ∀ δ S P, m δ S P (fun x T => F.X x δ T) → WT K F (tWTs X ifs) δ S P
def mYes : TM := fun δ S P X => P true S
theorem jts_nil : JTs X K F [] mYes := fun δ S P q M σ H k x Q c pins s I => pts_nil.run pins s σ H Q I (c true H S q (.refl k))
def wipeD (δ : Slots) : List Nat → Slots
  | [] => δ
  | v :: vs => (wipeD δ vs).set v none
theorem SlotsOk.wipe (x : SlotsOk K M S H σ δ) : ∀ vs : List Nat, SlotsOk K M S H (L2.wipe σ vs) (wipeD δ vs)
  | [] => x
  | v :: vs => (SlotsOk.wipe x vs).dropV
theorem wipe_get (σ : L2.St) (j : Nat) : ∀ vs : List Nat, (wipe σ vs)[j]? = if j ∈ vs then (if j < σ.length then some none else none) else σ[j]?
  | [] => by simp [L2.wipe]
  | v :: vs => by
    unfold L2.wipe
    have ih := wipe_get σ j vs
    by_cases hv : v = j
    · subst hv
      rw [if_pos (List.mem_cons_self ..)]
      by_cases hl : v < σ.length
      · rw [if_pos hl, List.getElem?_set_self (by rw [wipe_length]; exact hl)]
      · rw [if_neg hl, List.getElem?_eq_none (by rw [List.length_set, wipe_length]; omega)]
    · rw [List.getElem?_set_ne hv, ih]
      by_cases hj : j ∈ vs
      · rw [if_pos hj, if_pos (List.mem_cons_of_mem _ hj)]
      · rw [if_neg hj, if_neg (by simp [hj]; exact fun z => hv z.symm)]
theorem wipe_same {σ' σ : L2.St} {vs ts : List Nat} (hl : σ'.length = (wipe σ vs).length) (hf : ∀ (j : Nat), j ∉ ts → σ'[j]? = (wipe σ vs)[j]?) (ht : ∀ t ∈ ts, t ∈ vs) : wipe σ' vs = wipe σ vs := by
  apply List.ext_getElem?
  intro j
  rw [wipe_get, wipe_get]
  rw [wipe_length] at hl
  by_cases hj : j ∈ vs
  · rw [if_pos hj, if_pos hj, hl]
  · rw [if_neg hj, if_neg hj, hf j fun z => hj (ht j z), wipe_get, if_neg hj]
def noX : XP := fun _ _ => False
def lcW (gd : Store → Prop) (g : GM) (t : TM) (m : EM) (δ0 : Slots) (P : List W → Store → Prop) : List W → List W → Store → Prop
  | [], acc, S => gd S ∧ P acc S
  | w :: ws, acc, S => gd S ∧ g w δ0 S (fun δ1 S1 => t δ1 S1 (fun b S2 => if b = true then m δ1 S2 (fun y S3 => lcW gd g t m δ0 P ws (acc ++ [y]) S3) noX else lcW gd g t m δ0 P ws acc S2) noX) noX
def mLc (c : Bool) (vs : List Nat) (im : IM) (g : GM) (t : TM) (m : EM) : EM := fun δ S P X => im δ S (fun ws gd S1 => ws.length < 10000000 ∧ lcW gd g t m (wipeD δ vs) (fun acc S2 => newLC c acc S2 P) ws [] S1) X
theorem lcW_gd {gd : Store → Prop} {g : GM} {t : TM} {m : EM} {δ0 : Slots} {P : List W → Store → Prop} {ws acc : List W} (h : lcW gd g t m δ0 P ws acc S) : gd S := by
  cases ws with
  | nil => exact h.1
  | cons w ws => exact h.1
theorem we_lc {wi : TI} {im : IM} {tg : TG} {g : GM} {tt : TT} {t : TM} {te : TE} {m : EM} {vs ts : List Nat} {cc : Bool} {P : W → Store → Prop} {XX : XP} (ht : ∀ t ∈ ts, t ∈ vs)
    (hi : ∀ P, im δ S P XX → WI K F wi δ S P) (hg : ∀ w δ S P, g w δ S P noX → WG K F.nox tg ts w δ S P) (hq : ∀ δ S P, t δ S P noX → WT K F.nox tt δ S P) (hm : ∀ δ S P, m δ S P noX → WE K F.nox te δ S P)
    (h : mLc cc vs im g t m δ S P XX) : WE K F (tLc wi tg tt te vs) δ S P := fun M σ H k x Q c => by
  refine hi _ h M σ H k x _ fun J H1 ws gd S1 p1 s1 jt => ?_
  obtain ⟨hlen, p1⟩ := p1
  intro Dl hD
  have nm := s1.ok.notM hD
  have nS := s1.ok.cell.none hD
  have e1 : gS (hide M Dl) S1 (upd H1 Dl (.lst [])) = gS M S1 H1 := gS_hideNew hD
  have e2 : gS (hide M Dl) S1 H1 = gS M S1 H1 := gS_hide (M := M) (N := hide M Dl) (fun a n z => by
    rcases n with n | n
    · exact absurd n z
    · rw [n]; exact ⟨nS, gS_free hD⟩) fun _ z => .inl z
  have jd := jt (hide M Dl) (fun a n z => by
    rcases n with n | n
    · exact absurd n z
    · rw [n]; exact ⟨nS, gS_free hD⟩) fun _ z => .inl z
  have kN := s1.ok.hide (o := .lst []) hD
  refine ⟨fun i m' H => m' = ws.length - i ∧ i ≤ ws.length ∧ ∃ acc xs S, lcW gd g t m (wipeD δ vs) (fun acc S2 => newLC cc acc S2 P) (ws.drop i) acc S ∧ acc.length ≤ i ∧ Ok K F.nox (hide M Dl) S H ∧ H Dl = some (.lst xs) ∧ Wvs K (gS (hide M Dl) S H) xs acc ∧ Sub (gS M S1 H1) (gS (hide M Dl) S H) ∧ ∀ a, M a → H a = H1 a,
    ⟨ws.length, by simp, Nat.zero_le _, [], [], S1, p1, Nat.le_refl _, kN, upd_same, .nil, by rw [e1]; exact Sub.refl _, fun a q => upd_ne fun z => nm (z ▸ q)⟩, ?_⟩
  rintro i m' H2 ⟨rfl, hi2, acc, xs, S2, p2, la, k2, hH, dv, u2, y2⟩
  have g2 := lcW_gd p2
  have jd2 : ItD K F (hide M Dl) J (gS (hide M Dl) S1 H1) ws gd := jd
  have hN : ∀ a, M a → hide M Dl a := fun _ z => .inl z
  obtain ⟨hs, hgo⟩ := jd2 S2 H2 (s1.ok.full hN k2) (by rw [e2]; exact u2) g2 i
  by_cases hlt : i < ws.length
  · obtain ⟨go, hy⟩ := hgo ws[i] (List.getElem?_eq_getElem hlt)
    rw [List.drop_eq_getElem_cons hlt] at p2
    obtain ⟨_, p3⟩ := p2
    refine .inr ⟨go, fun H => i < ws.length ∧ ∃ acc xs S, lcW gd g t m (wipeD δ vs) (fun acc S2 => newLC cc acc S2 P) (ws.drop (i + 1)) acc S ∧ acc.length ≤ i + 1 ∧ Ok K F.nox (hide M Dl) S H ∧ H Dl = some (.lst xs) ∧ Wvs K (gS (hide M Dl) S H) xs acc ∧ Sub (gS M S1 H1) (gS (hide M Dl) S H) ∧ ∀ a, M a → H a = H1 a,
      fun H' w => ⟨ws.length - (i + 1), by omega, rfl, by omega, w.2⟩, fun v H3 y => ?_⟩
    obtain ⟨s3, v3⟩ := hy v H3 y
    have s3n := s3.nox
    refine hg ws[i] _ S2 _ p3 (hide M Dl) (wipe σ vs) H3 v s3n.ok (((s1.slots x).to (u2.trans s3n.sub)).wipe vs) v3 _ fun σ4 H4 δ4 S4 p4 s4 x4 l4 f4 => ⟨wipe_same l4 f4 ht, ?_⟩
    refine hq δ4 S4 _ p4 (hide M Dl) σ4 H4 s4.ok x4 _ fun b H5 S5 p5 s5 => ?_
    have st5 := (s3n.trans s4).trans s5
    cases b with
    | true =>
      show te σ4 H5 _
      refine hm δ4 S5 _ p5 (hide M Dl) σ4 H5 s5.ok (s5.slots x4) _ fun u H6 w6 S6 p6 s6 v6 => ?_
      have st := st5.trans s6
      have hl6 : xs.length < sizeLine := by rw [dv.length, sizeLine_eq]; omega
      refine ⟨xs, (st.stay Dl (.inr rfl)).trans hH, hl6, hlt, acc ++ [w6], xs ++ [u], S6, p6, by simp; omega, st.ok.hideW (fun q => nm (s1.ok.keep Dl q).1), upd_same, ?_, ?_, fun a q => ?_⟩
      · rw [gS_hideW]
        exact (dv.mono st.sub).append (.cons v6 .nil)
      · rw [gS_hideW]
        exact u2.trans st.sub
      · have ne : a ≠ Dl := fun z => nm (by rw [← z]; exact q)
        rw [upd_ne ne]
        exact (st.stay a (.inl q)).trans (y2 a q)
    | false =>
      show i < ws.length ∧ _
      exact ⟨hlt, acc, xs, S5, p5, by omega, st5.ok, (st5.stay Dl (.inr rfl)).trans hH, dv.mono st5.sub, u2.trans st5.sub, fun a q => (st5.stay a (.inl q)).trans (y2 a q)⟩
  · rw [List.drop_eq_nil_of_le (by omega)] at p2
    obtain ⟨_, p3⟩ := p2
    refine .inl ⟨hs (by omega), ?_⟩
    have nS2 := (k2.hid Dl (.inr rfl)).1
    unfold newLC at p3
    cases cc with
    | true =>
      rw [if_pos rfl] at p3
      exact c (.ref Dl) H2 _ _ (p3 Dl nS2) ⟨s1.ok.reveal k2 nm (.lst hH dv), s1.sub.trans (by rw [gS_reveal]; exact u2), fun a q => (y2 a q).trans (s1.stay a q)⟩ (.ref Dl)
    | false =>
      rw [if_neg (by decide)] at p3
      split at p3
      · rename_i ds e
        rw [allD_inv e] at dv
        exact c (.ref Dl) H2 _ S2 p3 ⟨s1.ok.unhide k2, s1.sub.trans (u2.trans (gS_le hN)), fun a q => (y2 a q).trans (s1.stay a q)⟩ (.d (.lst (gS_some.mpr ⟨nm, nS2, hH, fun ps z => by cases z⟩) (dv.mono (gS_le hN)).ds))
      · exact p3.elim
theorem je_lc {tg it : Expr} {im : IM} {g : GM} {t : TM} {m : EM} {vs ts : List Nat} {cc : Bool} (ht : ∀ t ∈ ts, t ∈ vs) (ji : JI X K F tg it im) {gr : TG} {tr : TT} {er : TE}
    (h : ∀ {wi : TI}, PI X tg it wi → PE X e (tLc wi gr tr er vs)) (hg : ∀ w δ S P, g w δ S P noX → WG K F.nox gr ts w δ S P) (hq : ∀ δ S P, t δ S P noX → WT K F.nox tr δ S P) (hm : ∀ δ S P, m δ S P noX → WE K F.nox er δ S P) : JE X K F e (mLc cc vs im g t m) := by
  obtain ⟨wi, h1, h2⟩ := ji
  exact .of (h h1) fun δ S P q => we_lc ht (fun P z => h2 δ S P z) hg hq hm q
end DX

set_option Elab.async false
set_option linter.all false
set_option maxRecDepth 100000
namespace DX
open PySem PySem.Spec PyProof.Rows L2
variable {X : Cx} {K : PySem.W.Frag} {F : Fr} {M : Hid} {S S' : Store} {H H' : Hp} {σ : L2.St} {δ : Slots} {a b c e o ee : Expr} {es ifs : List Expr} {st : Stmt} {ma mb m mo : EM} {mr mk : AM} {pos p apos : Pos}

def litems (S : Store) (w : W) : Option (List W × (Store → Prop)) := match w with
  | .ref a => match S a with
    | some (.lst ws) => some (ws, fun T => T a = some (.lst ws))
    | _ => none
  | .d (.lst ds) => some (ds.map .d, allS)
  | _ => none
def NewHid (M N : Hid) (S : Store) (H : Hp) : Prop := (∀ a, N a → ¬ M a → S a = none ∧ gS M S H a = none) ∧ ∀ a, M a → N a
theorem litems_ok {v : V} {w : W} {ws : List W} {g : Store → Prop} (k : Ok K F M S H) (r : Wv K (gS M S H) v w) (e : litems S w = some (ws, g)) : ∃ a, v = .ref a ∧ (∃ vs, SqL K H a vs) ∧ ∀ N, NewHid M N S H → ∀ S2 H2, Ok K F N S2 H2 → Sub (gS N S H) (gS N S2 H2) → g S2 → ∃ vs, SqL K H2 a vs ∧ Wvs K (gS N S2 H2) vs ws := by
  unfold litems at e
  split at e
  · rename_i a
    split at e
    · rename_i l el
      cases e
      cases r.to_ref
      refine ⟨a, rfl, ?_, fun N hN S2 H2 k2 sb gg => ?_⟩
      · cases k.cell _ _ el with | lst h1 h2 => exact ⟨_, sqL h1⟩
      · cases k2.cell _ _ gg with | lst h1 h2 => exact ⟨_, sqL h1, h2⟩
    · cases e
  · rename_i ds
    cases e
    obtain ⟨a, vs, rfl, h1, h2⟩ := r.to_d.to_lst
    refine ⟨a, rfl, ⟨vs, sqL (gS_sub _ _ h1)⟩, fun N hN S2 H2 k2 sb gg => ⟨vs, ?_, ?_⟩⟩
    · rw [gS_hide hN.1 hN.2] at sb
      exact sqL (gS_sub _ _ (sb _ _ h1))
    · rw [gS_hide hN.1 hN.2] at sb
      exact h2.w.mono sb
  · cases e
theorem titems_ok {v : V} {w : W} {ws : List W} (k : Ok K F M S H) (r : Wv K (gS M S H) v w) (e : tseq w = some ws) : ∃ a, v = .ref a ∧ (∃ vs, SqT K H a vs) ∧ ∀ N, NewHid M N S H → ∀ S2 H2, Ok K F N S2 H2 → Sub (gS N S H) (gS N S2 H2) → ∃ vs, SqT K H2 a vs ∧ Wvs K (gS N S2 H2) vs ws := by
  obtain ⟨a, vs, rfl, h1, h2⟩ := tseq_ok r e
  refine ⟨a, rfl, ⟨vs, gS_sub.t h1⟩, fun N hN S2 H2 k2 sb => ⟨vs, ?_, ?_⟩⟩
  · rw [gS_hide hN.1 hN.2] at sb
    exact gS_sub.t (sb.t h1)
  · rw [gS_hide hN.1 hN.2] at sb
    exact h2.mono sb
def zipW (xs ys : List W) : List W := List.zipWith (fun x y => mkT [x, y]) xs ys
theorem new_pair {T : Addr} {x y : V} {w u : W} (k : Ok K F M S H) (h : H T = none) (hx : Wv K (gS M S H) x w) (hy : Wv K (gS M S H) y u) : St K F M S H S (upd H T (.tup [x, y])) ∧ Wv K (gS M S (upd H T (.tup [x, y]))) (.ref T) (mkT [w, u]) := by
  have s : St K F M S H S (upd H T (.tup [x, y])) := .new k h
  exact ⟨s, Wv.mkT (sqT (gS_new k h fun ps z => by cases z)) (.cons (hx.mono s.sub) (.cons (hy.mono s.sub) .nil))⟩
theorem zip_len {xs ys : List W} {i : Nat} (h : (zipW xs ys).length ≤ i) : xs.length ≤ i ∨ ys.length ≤ i := by
  unfold zipW at h
  rw [List.length_zipWith] at h
  omega
theorem zip_get {xs ys : List W} {i : Nat} {w : W} (h : (zipW xs ys)[i]? = some w) : ∃ x y, xs[i]? = some x ∧ ys[i]? = some y ∧ w = mkT [x, y] := by
  unfold zipW at h
  rw [List.getElem?_zipWith] at h
  cases hx : xs[i]? with
  | none => simp [hx] at h
  | some x =>
    cases hy : ys[i]? with
    | none => simp [hx, hy] at h
    | some y =>
      simp only [hx, hy, Option.some.injEq] at h
      exact ⟨x, y, rfl, rfl, h.symm⟩
def itZip (ma : AM) : IM := fun δ S P X => ma δ S (fun ws S1 => match ws with
  | [x, y] => (match litems S1 x, litems S1 y with
    | some (xs, g), some (ys, h) => P (zipW xs ys) (fun T => g T ∧ h T) S1
    | _, _ => match tseq x, tseq y with
      | some xs, some ys => P (zipW xs ys) allS S1
      | _, _ => False)
  | _ => False) X
theorem ji_zip {tg : Expr} (h : PI X tg e (RZ.iZipA K (tWA X es))) (ja : JA X K F es mr) : JI X K F tg e (itZip mr) := ⟨_, h, fun δ S P q M σ H k x R r => ja δ S _ q M σ H k x _ fun vs H1 ws S1 p1 s1 v1 => by
  split at p1
  · obtain ⟨v, u, rfl, v2, v3⟩ := v1.two
    split at p1
    · rename_i xs g ys g' e1 e2
      obtain ⟨a, rfl, ⟨xs0, a0⟩, a1⟩ := litems_ok s1.ok v2 e1
      obtain ⟨b, rfl, ⟨ys0, b0⟩, b1⟩ := litems_ok s1.ok v3 e2
      refine ⟨a, b, xs0, ys0, rfl, .inl ⟨a0, b0, r _ H1 _ _ S1 p1 s1 fun N hN hM => fun S2 H2 k2 sb gg i => ?_⟩⟩
      obtain ⟨vs, h1, h2⟩ := a1 N ⟨hN, hM⟩ S2 H2 k2 sb gg.1
      obtain ⟨us, h3, h4⟩ := b1 N ⟨hN, hM⟩ S2 H2 k2 sb gg.2
      refine ⟨fun hi => ⟨vs, us, h1, h3, by rw [h2.length, h4.length]; exact zip_len hi⟩, fun w hw => ?_⟩
      obtain ⟨wx, wy, l1, l2, rfl⟩ := zip_get hw
      obtain ⟨vx, m1, m2⟩ := h2.get l1
      obtain ⟨vy, m3, m4⟩ := h4.get l2
      refine ⟨⟨vs, us, vx, vy, h1, h3, m1, m3⟩, fun z H3 ⟨T, x', y', ez, hT, eH, n1, n2⟩ => ?_⟩
      have z1 := n1 vs h1
      have z2 := n2 us h3
      rw [m1] at z1
      rw [m3] at z2
      cases z1
      cases z2
      rw [ez, eH]
      exact new_pair k2 hT m2 m4
    · split at p1
      · rename_i xs ys e1 e2
        obtain ⟨a, rfl, ⟨xs0, a0⟩, a1⟩ := titems_ok s1.ok v2 e1
        obtain ⟨b, rfl, ⟨ys0, b0⟩, b1⟩ := titems_ok s1.ok v3 e2
        refine ⟨a, b, xs0, ys0, rfl, .inr ⟨a0, b0, r _ H1 _ _ S1 p1 s1 fun N hN hM => fun S2 H2 k2 sb gg i => ?_⟩⟩
        obtain ⟨vs, h1, h2⟩ := a1 N ⟨hN, hM⟩ S2 H2 k2 sb
        obtain ⟨us, h3, h4⟩ := b1 N ⟨hN, hM⟩ S2 H2 k2 sb
        refine ⟨fun hi => ⟨vs, us, h1, h3, by rw [h2.length, h4.length]; exact zip_len hi⟩, fun w hw => ?_⟩
        obtain ⟨wx, wy, l1, l2, rfl⟩ := zip_get hw
        obtain ⟨vx, m1, m2⟩ := h2.get l1
        obtain ⟨vy, m3, m4⟩ := h4.get l2
        refine ⟨⟨vs, us, vx, vy, h1, h3, m1, m3⟩, fun z H3 ⟨T, x', y', ez, hT, eH, n1, n2⟩ => ?_⟩
        have z1 := n1 vs h1
        have z2 := n2 us h3
        rw [m1] at z1
        rw [m3] at z2
        cases z1
        cases z2
        rw [ez, eH]
        exact new_pair k2 hT m2 m4
      · exact p1.elim
  · exact p1.elim⟩
def tyW (T : String) (S : Store) (w : W) : Bool := match w with
  | .ref a => match S a with
    | some (.lst _) => T == "list"
    | some (.dct _) => T == "dict"
    | some (.dctT _) => T == "dict"
    | _ => false
  | .d (.lst _) => T == "list"
  | .d (.str _) => T == "str"
  | .d (.dct _) => T == "dict"
  | _ => false
theorem tyW_ok {T : String} {v : V} {w : W} (k : OkC K M S H) (r : Wv K (gS M S H) v w) (e : tyW T S w = true) : tyV K T v H := by
  unfold tyW at e
  split at e
  · rename_i a
    cases r.to_ref
    split at e
    · rename_i l el
      cases k _ _ el with | lst h1 h2 => exact .inl ⟨beq_iff_eq.mp e, _, sqL h1⟩
    · rename_i l el
      cases k _ _ el with | dct h1 h2 => exact .inr (.inr (.inl ⟨beq_iff_eq.mp e, .inl ⟨_, h1⟩⟩))
    · rename_i l el
      cases k _ _ el with | dctT h1 h2 => exact .inr (.inr (.inl ⟨beq_iff_eq.mp e, .inr ⟨_, h1⟩⟩))
    · cases e
  · obtain ⟨a, vs, rfl, h1, h2⟩ := r.to_d.to_lst
    exact .inl ⟨beq_iff_eq.mp e, _, sqL (gS_sub _ _ h1)⟩
  · cases r.to_d.to_str
    exact beq_iff_eq.mp e
  · obtain ⟨a, vs, rfl, h1, h2⟩ := r.to_d.to_dct
    exact .inr (.inr (.inl ⟨beq_iff_eq.mp e, .inl ⟨_, gS_sub _ _ h1⟩⟩))
  · cases e
abbrev OM := W → List W → Store → (W → Store → Prop) → Prop
def RM (K : PySem.W.Frag) (F : Fr) (r : V → List V → Hp → VK → Prop) (o : OM) : Prop := ∀ (M : Hid) (S : Store) (H : Hp) (x : W) (ws : List W) (v : V) (vs : List V) (P : W → Store → Prop), Ok K F M S H → Wv K (gS M S H) v x → Wvs K (gS M S H) vs ws → o x ws S P →
  ∀ Q : VK, (∀ z H' w S', P w S' → St K F M S H S' H' → Wv K (gS M S' H') z w → Q z H') → r v vs H Q
def mBM (T : String) (om : OM) (mo : EM) (mr : AM) : EM := fun δ S P X => mo δ S (fun w S1 => tyW T S1 w = true ∧ mr δ S1 (fun ws S2 => om w ws S2 P) X) X
theorem je_bm {T : String} {r : V → List V → Hp → VK → Prop} {om : OM} (hr : RM K F r om) (jo : JE X K F o mo) (ja : JA X K F (e :: es) mr) (h : ∀ {to : TE} {t : TA}, PE X o to → PA X (e :: es) t → PE X ee (tBM K T r to t)) : JE X K F ee (mBM T om mo mr) :=
  .of (h pe pa) fun δ S P q M σ H k x Q c => jo δ S _ q M σ H k x _ fun v H1 w S1 p1 s1 v1 => ⟨tyW_ok s1.ok.cell v1 p1.1, ja δ S1 _ p1.2 M σ H1 s1.ok (s1.slots x) _ fun vs H2 ws S2 p2 s2 v2 =>
    hr M S2 H2 w ws v vs P s2.ok (v1.mono s2.sub) v2 p2 Q fun z H' w' S' pw s3 v3 => c z H' w' S' pw ((s1.trans s2).trans s3) v3⟩
theorem RM.or {r r' : V → List V → Hp → VK → Prop} {o o' : OM} (h : RM K F r o) (h' : RM K F r' o') : RM K F (fun x vs H Q => r x vs H Q ∨ r' x vs H Q) (fun x ws S P => o x ws S P ∨ o' x ws S P) := fun M S H x ws v vs P k a b p Q q => by
  rcases p with p | p
  · exact .inl (h M S H x ws v vs P k a b p Q q)
  · exact .inr (h' M S H x ws v vs P k a b p Q q)
theorem lst_at {a : Addr} {l : List W} (k : Ok K F M S H) (e : S a = some (.lst l)) : ∃ vs, H a = some (.lst vs) ∧ Wvs K (gS M S H) vs l := by
  cases k.cell _ _ e with | lst h1 h2 => exact ⟨_, h1, h2⟩
def omAppend : OM := fun x ws S P => match x, ws with
  | .ref a, [w] => (match S a with
    | some (.lst l) => l.length < 10000000 ∧ P (.d .non) (upS S a (.lst (l ++ [w])))
    | _ => False)
  | _, _ => False
theorem rm_append : RM K F rAppend omAppend := fun M S H x ws v vs P k a b p Q q => by
  unfold omAppend at p
  split at p
  · rename_i a0 w
    split at p
    · rename_i l el
      cases a.to_ref
      obtain ⟨vs, h1, h2⟩ := lst_at k el
      obtain ⟨y, rfl, hy⟩ := b.one
      exact ⟨a0, vs, y, rfl, rfl, h1, by rw [h2.length, sizeLine_eq]; omega, q _ _ _ _ p.2 (.write k el (.lst upd_same (h2.append (.cons hy .nil)))) (.d .non)⟩
    · exact p.elim
  · exact p.elim
theorem Wvs.dropLast {G : Hp} {vs : List V} {ws : List W} (h : Wvs K G vs ws) : Wvs K G vs.dropLast ws.dropLast := by
  rw [List.dropLast_eq_take, List.dropLast_eq_take, h.length]
  exact h.take _
def omPopAt : OM := fun x ws S P => match x, ws with
  | .ref a, [.d (.int i)] => (match S a with
    | some (.lst l) => -(2 ^ 63) ≤ i ∧ i < 2 ^ 63 ∧ (match seqIndex? i l.length with
      | some k => (match l[k]? with
        | some w => P w (upS S a (.lst (l.eraseIdx k)))
        | none => False)
      | none => False)
    | _ => False)
  | _, _ => False
theorem rm_popAt : RM K F rPopAt omPopAt := fun M S H x ws v vs P k a b p Q q => by
  unfold omPopAt at p
  split at p
  · rename_i a0 i
    split at p
    · rename_i l el
      obtain ⟨p1, p2, p⟩ := p
      split at p
      · rename_i j ej
        split at p
        · rename_i w ew
          cases a.to_ref
          obtain ⟨z, rfl, hz⟩ := b.one
          cases hz.to_d.to_int
          obtain ⟨vs, h1, h2⟩ := lst_at k el
          obtain ⟨y, hy, hw⟩ := h2.get ew
          have st : St K F M S H (upS S a0 (.lst (l.eraseIdx j))) (upd H a0 (.lst (vs.eraseIdx j))) := .write k el (.lst upd_same (h2.eraseIdx j))
          exact ⟨a0, vs, i, j, y, rfl, rfl, h1, p1, p2, by rw [h2.length]; exact ej, hy, q _ _ _ _ p st (hw.mono st.sub)⟩
        · exact p.elim
      · exact p.elim
    · exact p.elim
  · exact p.elim
def setIx (x y w : W) (S : Store) (P : Store → Prop) : Prop := match x, y with
  | .ref a, .d (.int i) => (match S a with
    | some (.lst l) => (match ixN l.length i with
      | some j => P (upS S a (.lst (l.set j w)))
      | none => False)
    | _ => False)
  | _, _ => False
def tgSub (mo mi : EM) : GM := fun w δ S P X => mo δ S (fun x S1 => mi δ S1 (fun y S2 => setIx x y w S2 fun S3 => P δ S3) X) X
theorem jg_sub {i : Expr} {mi : EM} (jo : JE X K F o mo) (ji : JE X K F i mi) (h : ∀ {to ti : TE}, PE X o to → PE X i ti → PG X e (gSub to ti rSetL)) : JG X K F e [] (tgSub mo mi) := .of (h pe pe) fun w δ S P q M σ H v k x r Q c =>
  jo δ S _ q M σ H k x _ fun v1 H1 w1 S1 p1 s1 r1 => ji δ S1 _ p1 M σ H1 s1.ok (s1.slots x) _ fun v2 H2 w2 S2 p2 s2 r2 => by
    have s12 := s1.trans s2
    unfold setIx at p2
    split at p2
    · rename_i a0 i0
      split at p2
      · rename_i l el
        split at p2
        · rename_i j ej
          cases r1.to_ref
          cases r2.to_d.to_int
          obtain ⟨vs, h1, h2⟩ := lst_at s2.ok el
          have s3 : St K F M S2 H2 (upS S2 a0 (.lst (l.set j w))) (upd H2 a0 (.lst (vs.set j v))) := .write s2.ok el (.lst upd_same (Wvs.set (r.mono s12.sub) j h2))
          exact ⟨a0, vs, i0, j, rfl, rfl, h1, by rw [h2.length]; exact ej, c σ _ δ _ p2 (s12.trans s3) ((s12.trans s3).slots x) rfl fun _ _ => rfl⟩
        · exact p2.elim
      · exact p2.elim
    · exact p2.elim
end DX

set_option Elab.async false
set_option linter.all false
set_option maxRecDepth 100000
namespace DX
open PySem PySem.Spec PyProof.Rows L2
variable {X : Cx} {K : PySem.W.Frag} {F : Fr} {M : Hid} {S S' : Store} {H H' : Hp} {σ : L2.St} {δ : Slots} {a b c e o ee : Expr} {es ifs : List Expr} {st : Stmt} {ma mb m mo : EM} {mr mk : AM} {pos p apos : Pos} {k n : Nat} {f C : Addr} {fd : FuncData} {ps ks : List Str} {sp : DSp} {x : Str}

theorem quiet_consN {i : Nat} {ms : GsM} (h : QuietGs ms) : QuietGs (tgsCons (tgN i) ms) := fun ws δ S P X Y q => by
  unfold tgsCons tgN at q ⊢
  cases ws with
  | nil => exact q
  | cons w ws => exact h _ _ _ _ X Y q
section
variable {own : List (Str × Nat)} {elt tg iter : Expr} {scope : Scope} {spos : Pos} {im : IM} {g : GM} {t : TM} {ts : List Nat} {cc : Bool} {y : Str} {i : Nat} {py : Pos}
theorem je_lcG (hc : X.calm = true) (ht : ∀ t ∈ ts, t ∈ own.map (·.2)) (nd : X.N.Nodup) (ok : BlkOk X.N X.env.scope scope own) (ji : JI X K F tg iter im)
    (hg : ∀ (s : Shared) (H : Hp) (C : Addr) (cl : List (Str × Addr)) (fp : List Addr), JG (X.blk s H scope (compEnvC scope cl C X.env) fp) K F.nox tg ts g)
    (hq : ∀ (s : Shared) (H : Hp) (C : Addr) (cl : List (Str × Addr)) (fp : List Addr), JTs (X.blk s H scope (compEnvC scope cl C X.env) fp) K F.nox ifs t)
    (he : ∀ (s : Shared) (H : Hp) (C : Addr) (cl : List (Str × Addr)) (fp : List Addr), JE (X.blk s H scope (compEnvC scope cl C X.env) fp) K F.nox elt m)
    (hs : ∀ x, foldedSetIterable iter X.env x = pure x := by intro _; rfl) : JE X K F (.ListComp elt [⟨tg, iter, ifs, 0⟩] scope pos) (mLc cc (own.map (·.2)) im g t m) :=
  je_lc ht ji (gr := fun v σ H Q => ∀ s H0 C cl fp, tWG (X.blk s H0 scope (compEnvC scope cl C X.env) fp) tg v σ H Q) (tr := fun σ H Q => ∀ s H0 C cl fp, tWTs (X.blk s H0 scope (compEnvC scope cl C X.env) fp) ifs σ H Q) (er := fun σ H Q => ∀ s H0 C cl fp, tW (X.blk s H0 scope (compEnvC scope cl C X.env) fp) elt σ H Q)
    (fun h => pe_lc hc nd h ok (fun s H C cl fp => ⟨fun pins s' σ H' v u Q I r h => h s H C cl fp pins s' u I r⟩) (fun s H C cl fp => ⟨fun pins s' σ H' Q I h => h s H C cl fp pins s' I⟩) (fun s H C cl fp => ⟨fun pins s' σ H' Q I h => h s H C cl fp pins s' I⟩) hs)
    (fun w δ S P q M σ H v k x r Q c s H0 C cl fp => hg s H0 C cl fp w δ S P q M σ H v k x r Q c) (fun δ S P q M σ H k x Q c s H0 C cl fp => hq s H0 C cl fp δ S P q M σ H k x Q c) (fun δ S P q M σ H k x Q c s H0 C cl fp => he s H0 C cl fp δ S P q M σ H k x Q c)
end
theorem takes_none5 {X : Cx} : L2N.Takes X (fun _ _ _ _ => False) := fun _ _ ⟨_, _, _, _, _, _, _, _, _, _, _, _, _, _, _, _, w⟩ => w.elim

def entI (e : DictEntry) : Option (Str × Int) := match e.key, e.val with
  | .str x _, .int i _ => some (x, i)
  | _, _ => none
def WD (K : PySem.W.Frag) (w : World) (d : Addr) (rows : List (Str × Int)) : Prop := ∃ es n, KDict K w d es n ∧ es.toList.map entI = rows.map some
section
variable {w : World} {d : Addr} {rows : List (Str × Int)} {z : Str} {i : Int}
theorem ent_find (z : Str) : ∀ (l : List DictEntry) (rows : List (Str × Int)), l.map entI = rows.map some → (match rows.lookup z with
    | some i => ∃ e t, l.find? (·.key.isStr z) = some e ∧ e.val = .int i t
    | none => l.find? (·.key.isStr z) = none) ∧ l.any (·.refKey) = false
  | [], [], _ => ⟨rfl, rfl⟩
  | [], _ :: _, h => by simp at h
  | _ :: _, [], h => by simp at h
  | e :: l, (x, i) :: rows, h => by
    simp only [List.map_cons, List.cons.injEq] at h
    obtain ⟨h1, h2⟩ := h
    obtain ⟨a1, a2⟩ := ent_find z l rows h2
    obtain ⟨hash, key, val⟩ := e
    have hk : ∃ t u, key = .str x t ∧ val = .int i u := by
      unfold entI at h1
      cases key <;> cases val <;> simp at h1
      obtain ⟨rfl, rfl⟩ := h1
      exact ⟨_, _, rfl, rfl⟩
    obtain ⟨t, u, rfl, rfl⟩ := hk
    refine ⟨?_, by rw [List.any_cons, a2]; rfl⟩
    rw [List.lookup_cons, List.find?_cons]
    have hs : Value.isStr (.str x t) z = (z == x) := by
      rw [Bool.eq_iff_iff, beq_iff_eq]
      show (x == z) = true ↔ _
      rw [beq_iff_eq]
      exact ⟨Eq.symm, Eq.symm⟩
    simp only [hs]
    cases hz : z == x with
    | true => exact ⟨_, u, rfl, rfl⟩
    | false => exact a1
theorem WD.none (h : WD K w d rows) (e : rows.lookup z = none) : PySem.W.nsIn K d z = some none := by
  obtain ⟨es, n, k, hr⟩ := h
  obtain ⟨h1, h2⟩ := ent_find z _ _ hr
  rw [e] at h1
  unfold PySem.W.nsIn
  rw [k.at_]
  simp only [h1, h2]
  rfl
theorem WD.some (h : WD K w d rows) (e : rows.lookup z = some i) : ∃ t, PySem.W.nsIn K d z = some (some (.int i t)) := by
  obtain ⟨es, n, k, hr⟩ := h
  obtain ⟨h1, h2⟩ := ent_find z _ _ hr
  rw [e] at h1
  obtain ⟨e, t, h3, h4⟩ := h1
  refine ⟨t, ?_⟩
  unfold PySem.W.nsIn
  rw [k.at_]
  simp only [h3, h4]
theorem WD.isK (h : WD K w d rows) : ∃ r, PySem.W.nsIn K d z = Option.some r ∧ r.isSome = (rows.lookup z).isSome := by
  cases e : rows.lookup z with
  | none => exact ⟨_, h.none e, rfl⟩
  | some i =>
    obtain ⟨t, ht⟩ := h.some e
    exact ⟨_, ht, rfl⟩
theorem WD.kd (h : WD K w d rows) : ∃ es n, KDict K w d es n := by
  obtain ⟨es, n, k, _⟩ := h
  exact ⟨es, n, k⟩
end

section
variable {P : Program} {w : World} {mg : Str → Option Value} {base : Heap} {TT : List (Addr × Str)}
end
theorem Wvs.split {G : Hp} {vs : List V} {ws : List W} (h : Wvs K G vs ws) (n : Nat) : Wvs K G (vs.take n) (ws.take n) ∧ Wvs K G (vs.drop n) (ws.drop n) := ⟨h.take n, h.drop n⟩
end DX
namespace DX
open PySem PySem.Spec PyProof.Rows L2
theorem fn_false {TT : List (Addr × Str)} {P : Program} {w : World} {K : PySem.W.Frag} {mg : Str → Option Value} {base : Heap} {CX : CXT} {k : Nat} {f : Addr} {fd : FuncData} {ps : List Str} : FnOk P w K mg base CX k f fd ps (spD K TT fun _ _ _ _ => False) :=
  ⟨fun vs H Q E ⟨_, _, _, _, _, _, _, _, _, h, _⟩ => h.elim, fun A outer s H args us vs Q E _ _ _ _ ⟨_, _, _, _, _, _, _, _, _, h, _⟩ => h.elim⟩
def atL {α : Type} (l : List α) (i : Nat) : List α := l[i]?.toList
theorem wvs_atL {K : PySem.W.Frag} {G : Hp} {vs : List V} {ws : List W} (r : Wvs K G vs ws) (i : Nat) : Wvs K G (atL vs i) (atL ws i) := by
  unfold atL
  cases e : ws[i]? with
  | none =>
    have h : vs[i]? = none := by
      rw [List.getElem?_eq_none_iff] at e ⊢
      rw [r.length]
      exact e
    rw [h]
    exact .nil
  | some d =>
    obtain ⟨v, h1, h2⟩ := r.get e
    rw [h1]
    exact .cons h2 .nil
theorem vals_atL {vs : List V} {us : List Value} (r : Vals vs us) (i : Nat) : Vals (atL vs i) (atL us i) := by
  unfold atL
  cases e : vs[i]? with
  | none => rw [Vals.none_of r e]; exact .nil
  | some v =>
    obtain ⟨u, h1, h2⟩ := Vals.get r e
    rw [h1]
    exact .cons h2 .nil
theorem atL_l {α : Type} {ws us : List α} {n i : Nat} (h : ws.length = n) (hi : i < n) : atL (ws ++ us) i = atL ws i := by
  unfold atL
  rw [List.getElem?_append_left (by omega)]
theorem atL_r {α : Type} {ws us : List α} {n i j : Nat} (h : ws.length = n) (hi : i = n + j) : atL (ws ++ us) i = atL us j := by
  unfold atL
  rw [List.getElem?_append_right (by omega)]
  congr 2
  omega
end DX
namespace DX
open PySem PySem.Spec PyProof.Rows L2
section
variable {X : Cx} {K : PySem.W.Frag} {F : Fr} {M : Hid} {S S' : Store} {H H' : Hp} {σ : L2.St} {δ : Slots} {o : Expr} {pos : Pos}
end
end DX
namespace DX
open PySem L2
theorem fld_nil {K : PySem.W.Frag} {f : String} : ∀ cl, ([] : List String).contains cl = true → Cls K (clsAt K cl) ∧ NoAttr K (clsAt K cl) (Str.ofString f) := fun cl h => by simp at h
theorem fld_cons {K : PySem.W.Frag} {f c : String} {cs : List String} (h1 : Cls K (clsAt K c)) (h2 : NoAttr K (clsAt K c) (Str.ofString f)) (r : ∀ cl, cs.contains cl = true → Cls K (clsAt K cl) ∧ NoAttr K (clsAt K cl) (Str.ofString f)) :
    ∀ cl, (c :: cs).contains cl = true → Cls K (clsAt K cl) ∧ NoAttr K (clsAt K cl) (Str.ofString f) := fun cl h => by
  rw [List.contains_cons] at h
  rcases Bool.or_eq_true_iff.mp h with h | h
  · rw [beq_iff_eq.mp h]
    exact ⟨h1, h2⟩
  · exact r cl h
end DX
namespace DX
open PySem PySem.Spec PyProof.Rows L2
section
variable {X : Cx} {K : PySem.W.Frag} {F : Fr} {k : Nat} {f : Addr} {fd : FuncData} {ps : List Str} {sp : DSp}
theorem rn_fn0 (eK : X.K = K) (G : FnOk X.prog X.w K X.mg X.base (L2N.CX X.prog X.w) k f fd ps (spD K F.T sp)) (hr : Room k X.A) (hb : L2.Binds K fd ps []) (tk : L2N.Takes X F.Wx) : Rn X K F (.ref f) none [] sp := by
  have h := rn_fn (dvs := []) (dds := []) eK G hr hb .nil (fun _ => .nil) tk
  have e : (fun ws => sp (ws ++ [])) = sp := funext fun ws => by rw [List.append_nil]
  rwa [e] at h
theorem rn_mk0 {cl : String} (eK : X.K = K) (Mk0 : Mk K (clsAt K cl) f) (G : FnOk X.prog X.w K X.mg X.base (L2N.CX X.prog X.w) k f fd ps (spD K F.T sp)) (hr : Room (k + 1) X.A) (hb : L2.Binds K fd ps []) (hl : ∀ ws S P X, sp ws S P X → ws.length = ps.length) (tk : L2N.Takes X F.Wx) :
    Rn X K F (.ref (clsAt K cl)) none [] (mkD cl sp) := by
  have h := rn_mk (dvs := []) (dds := []) eK Mk0 G hr hb .nil (fun _ => .nil) hl tk
  have e : (fun ws => mkD cl sp (ws ++ [])) = mkD cl sp := funext fun ws => by rw [List.append_nil]
  rwa [e] at h
end
end DX

set_option Elab.async false
set_option linter.all false
set_option maxRecDepth 100000
namespace DX
open PySem PySem.Spec PyProof.Rows PySem.W
section
variable {prog : Program} {w : World} {A : Around} {E : Value → Shared → Prop} {s : Shared} {K : Frag} {y C f : Addr}
theorem cspecK {M : Model} {self : Value} {name : PySem.Str} {args : List Value} {Q : Option Value → Shared → Prop} (sp : Looks M s.heap (specialOf self name) (some (.ref f))) (hb : Looks M s.heap (bindSpecial (.ref f) self) (.ref f, [self]))
    (hc : wpAny M A (call (.ref f) (self :: args)) (fun v => Q (some v)) E s) : wpAny M A (callSpecial? self name args) Q E s := by
  simp only [callSpecial?]
  refine wpAny_bind (sp.here ?_)
  exact wpAny_holding (wpAny_bind (hb.here (wpAny_bind (wpAny_mono hc (fun v s' h' => wpAny_pure h') fun _ _ h' => h'))))
theorem lenO_run {Q : Value → Shared → Prop} (X : K.In s.heap) (ty : Looks (model prog w) s.heap (typeOf (.ref y)) (.ref C)) (hs : findIn K (.ref C) "__len__" = some (some (.ref f))) (hf : isFn K (.ref f) = true)
    (h : wpAny (model prog w) A.in1 (call (.ref f) [.ref y]) (fun r s' => ∃ (n : Nat) (t : Tok), r = .int n t ∧ n < 2 ^ 62 ∧ Q (.int n s'.toks) { s' with toks := s'.toks + 1 }) E s) : wpAny (model prog w) A (call (.builtin "len") [.ref y]) Q E s := by
  have sp : Looks (model prog w) s.heap (specialOf (.ref y) "__len__") (some (.ref f)) := ty.andThen (looks_findIn X hs)
  refine Calls.call_function_entry kind_len plain_len entry_len (args_len1 _) ?_
  unfold Builtin.«len»
  refine wpAny_bind (m := oneArg "len" _) (wpAny_pure ?_)
  refine wpAny_bind (m := callSpecial? (.ref y) (PySem.Str.ofString "__len__")) (cspecK sp (bind_fn X _ (beq_iff_eq.mp hf)) (wpAny_mono h (fun r s' hq => ?_) fun _ _ e => e))
  obtain ⟨n, t, rfl, hn, q⟩ := hq
  refine wpAny_bind (wpAny_holding (wpAny_pure ?_))
  refine wpAny_bind (wpAny_letGo ?_)
  show wpAny _ _ (if ((n : Nat) : Int) < 0 then _ else _) _ _ _
  rw [if_neg (by omega)]
  show wpAny _ _ (if ((n : Nat) : Int) ≥ 2 ^ 63 then _ else _) _ _ _
  rw [if_neg (by omega)]
  exact wpAny_bind (wpAny_mkInt (wpAny_pure ⟨_, rfl, q⟩))
end
end DX
namespace DX
open PySem PySem.Spec PyProof.Rows L2
variable {X : Cx} {K : PySem.W.Frag} {F : Fr} {a : Expr} {mo : EM} {p pos : Pos}
structure LenC (X : Cx) (K : PySem.W.Frag) (F : Fr) (cl : String) (sp : DSp) : Prop where
  c : Cls K (clsAt K cl)
  at_ : ∃ f k fd ps, Meth K (clsAt K cl) (Str.ofString "__len__") f ∧ FnOk X.prog X.w K X.mg X.base (L2N.CX X.prog X.w) k f fd ps (spD K F.T sp) ∧ Room (k + 1) X.A ∧ L2.Binds K fd ps []
abbrev LensOk (X : Cx) (K : PySem.W.Frag) (F : Fr) (tb : List (String × DSp)) : Prop := ∀ cl sp, tb.lookup cl = some sp → LenC X K F cl sp
theorem lens_nil : LensOk X K F [] := fun cl sp e => by cases e
theorem lens_cons {cl : String} {sp : DSp} {tb : List (String × DSp)} (h : LenC X K F cl sp) (r : LensOk X K F tb) : LensOk X K F ((cl, sp) :: tb) := fun c2 s2 e => by
  rw [List.lookup_cons] at e
  split at e
  · rename_i hb
    cases e
    rw [beq_iff_eq.mp hb]
    exact h
  · exact r c2 s2 e
def mLenO (tb : List (String × DSp)) (mr : AM) : EM := fun δ S P X => mr δ S (fun ws S1 => match ws with
  | [w] => (match insOf S1 w with
    | some (cl, fs) => (match tb.lookup cl with
      | some sp => sp [w] S1 (fun r S2 => ∃ n : Nat, r = .d (.int n) ∧ n < 2 ^ 62 ∧ P r S2) X
      | none => False)
    | none => False)
  | _ => False) X
theorem je_lenO {tb : List (String × DSp)} {mr : AM} (eK : X.K = K) (tk : L2N.Takes X F.Wx) (hT : LensOk X K F tb) (hg : Gl X "len") (hm : X.mg "len" = none) (ja : JA X K F [a] mr)
    (he : starEach [a] X.env = (false, eval a X.env) :: starEach [] X.env := by rfl) (hpl : (backTo pos (starEach [] X.env)).any (·.1) = false := by rfl) :
    JE X K F (.Call (.Name "len" p) [a] [] pos) (mLenO tb mr) := by
  subst eK
  intro δ S P q M σ H k xx Q c pins s I
  refine wpAny_Call_Name_kw (ld_blt (u := .builtin "len") I hg hm (by decide +kernel) ?_ (by decide) (by decide))
  refine PyProof.Rows.callWith_builtin1 (thn (ja δ S _ q M σ H k xx (fun vs H1 => ∃ ws S1, _ ∧ St X.K F M S H S1 H1 ∧ Wvs X.K (gS M S1 H1) vs ws) (fun vs H1 ws S1 p s v => ⟨ws, S1, p, s, v⟩) pos pins s I) fun us s1 ⟨vs, H1, I1, rx, ws, S1, p1, st, v1⟩ => ?_) he hpl
  split at p1
  · split at p1
    · rename_i w cl fs e1
      split at p1
      · rename_i sp e2
        obtain ⟨v, rfl, v2⟩ := v1.one
        obtain ⟨u, rfl, ru⟩ := vals1 rx
        obtain ⟨b, dx, vs, rfl, h1, h2⟩ := insOf_ok st.ok.cell v2 e1
        obtain rfl : u = Value.ref b := ru
        obtain ⟨hc, f, kk, fd, ps, hm, G, hr, hb⟩ := hT cl sp e2
        obtain ⟨mA, J, _⟩ := ins_get I1.hok h1
        obtain ⟨od, J, _⟩ := J.look
        have h := call_sp (sp := sp) (Q := fun v H' => ∃ n : Nat, v = .int n ∧ n < 2 ^ 62 ∧ Q (.int n) H') st.ok (st.slots xx) (Wvs.cons v2 .nil) p1 fun v H' w' S' pw s2 r2 => by
          obtain ⟨n, rfl, hn, pw⟩ := pw
          obtain rfl := r2.to_d.to_int
          exact ⟨n, rfl, hn, c _ H' _ S' pw (st.trans s2) r2⟩
        refine lenO_run I1.kIn J.type hm.at_ hm.fn ?_
        have r2 : Vals [V.ref b] [Value.ref b] := .cons rfl .nil
        have hl := G.len _ _ _ _ h
        refine wpAny_call (codeAny_mono (G.run X.A.in1 X.stack s1 H1 ⟨[Value.ref b], []⟩ [Value.ref b] [V.ref b] _ (L2.WE F.Wx σ) hr.in1 I1.env0.in1 (by
          have := hb s1 [Value.ref b] I1.kIn (by simpa using hl)
          simpa using this) r2 h) fun rr s' hq => ?_)
        cases rr with
        | error e => exact L2N.passAt tk σ pins _ _ e s' I1 hq
        | ok fl =>
          cases fl with
          | ret u =>
            obtain ⟨v, H', I3, rv, n, ev, hn, q3⟩ := I1.after hq
            subst ev
            obtain ⟨t, rfl⟩ := rv
            exact ⟨n, t, rfl, hn, ⟨.int n, H', I3.tok _, ⟨_, rfl⟩, q3⟩⟩
          | next => exact False.elim hq
          | brk => exact False.elim hq
          | cont => exact False.elim hq
      · exact p1.elim
    · exact p1.elim
  · exact p1.elim
end DX

set_option Elab.async false
set_option linter.all false
set_option maxRecDepth 100000
set_option maxHeartbeats 2000000
namespace DX
open PySem PySem.Spec PyProof.Rows L2
section
variable {prog : Program} {w : World} {A : Around} {E : Value → Shared → Prop} {s : Shared}
end
end DX
namespace DX
open PySem PySem.Spec PyProof.Rows L2
variable {X : Cx} {K : PySem.W.Frag} {F : Fr} {e : Expr} {es : List Expr} {mr : AM}
end DX

set_option Elab.async false
set_option linter.all false
set_option maxRecDepth 100000
namespace DX
open PySem PySem.Spec PyProof.Rows L2
def spLaw (K : PySem.W.Frag) (TT : List (Addr × Str)) : Sp := fun vs H Q _ => ∃ (a : Addr) (ns : List Int), vs = [.ref a] ∧ SqL K H a (ns.map V.int) ∧ ns.length ≤ 63 ∧ (∀ H', Q (.bl true) H') ∧ ∀ p ∈ TT, H p.1 = some (.tbl #[])
def Same (H H' : Hp) : Prop := ∀ b o, H b = some o → H' b = some o
def spBag (K : PySem.W.Frag) : Sp := fun vs H Q _ => ∃ (a : Addr) (ns : List Int), vs = [.ref a] ∧ SqL K H a (ns.map V.int) ∧ ns.length ≤ 63 ∧ ∀ (H' : Hp) (p c : Addr) (ms : List Int) (z : Int), p ≠ c → Same H H' →
  H' p = some (.lst [.ref c, .int 0, .int 0, .int z, .int 0]) → H' c = some (.lst (ms.map V.int)) → ms.length ≤ 63 → 0 ≤ z → z < 2147483629 → Q (.ref p) H'
def bagC (c : Addr) (i r z n : Int) : Cell := .lst [.ref c, .d (.int i), .d (.int r), .d (.int z), .d (.int n)]
def bagI (ms : List Int) : Cell := .lst (ms.map fun m => .d (.int m))
def bagS (p c : Addr) (ms : List Int) (z : Int) : Store := upS (upS (fun _ => none) c (bagI ms)) p (bagC c 0 0 z 0)
def lawC : Ct := { nx := fun _ _ => False, rt := fun w _ => w = .d (.bl true), X := fun _ _ _ => False }
theorem wints {K : PySem.W.Frag} {G : Hp} : ∀ ms : List Int, Wvs K G (ms.map V.int) (ms.map fun m => W.d (.int m))
  | [] => .nil
  | m :: ms => .cons (.d (.int m)) (wints ms)
theorem passes_f {X : Cx} : Passes (L2N.CX X.prog X.w) X (fun _ _ _ => False) := fun _ _ _ _ _ _ _ ⟨_, _, _, _, _, _, _, _, _, _, _, _, h⟩ => h.elim
theorem okFN {P : Program} {w : World} {K : PySem.W.Frag} {mg : Str → Option Value} {base : Heap} {x qual : Str} {st : Stmt} {f : Addr} {fd : FuncData} {N ps : List Str} {k : Nat} {sp : Sp} (Fn : Fun K x qual st f fd) (Sc : FnScope N ps (defScope st)) (len : ∀ vs H Q E, sp vs H Q E → vs.length = ps.length)
    (hb : ∀ (cdv : Value) (A : Around) (outer : List Env) (s : Shared) (H : Hp) (vs : List V) (Q : VK) (E : XK), Room k (A.deeper (envOfC qual (defScope st) s.heap.objs.size f cdv)) → sp vs H Q E →
      ∃ t, PSs (cxOf (L2N.CX P w) P w K mg base N qual (defScope st) f cdv A outer s H E) (defBody st) t ∧ t { nx := fun _ H' => Q .non H', rt := Q } (start N vs) H) : FnOk P w K mg base (L2N.CX P w) (k + 1) f fd ps sp := by
  obtain ⟨oc, od, kV, doc, pm, an, cdv, ct, osl, rfl, lk, hcd⟩ := Fn.ex
  exact fn_of lk hcd Sc len fun A outer s H vs Q E hr hsp => hb cdv A outer s H vs Q E hr hsp
theorem enter_law {X : Cx} {K : PySem.W.Frag} {rest : List Stmt} {m : SM} {N : List Str} {n : Nat} {a : Addr} {ns : List Int} {H : Hp} {E : Ends} (hN : N.length = n + 2) (hS : SqL K H a (ns.map V.int)) (hlen : ns.length ≤ 63) (q : ∀ H', E.rt (.bl true) H')
    {TT : List (Addr × Str)} (hT : ∀ p ∈ TT, H p.1 = some (.tbl #[])) (js : ∀ F : Fr, F.Wx = (fun _ _ _ _ => False) → F.T = TT → JSs X K F rest m) (hm : ∀ p c ms z, p ≠ c → ms.length ≤ 63 → 0 ≤ z → z < 2147483629 → m lawC (none :: some (.ref p) :: List.replicate n none) (bagS p c ms z)) :
    tSeq (tAsg (tCall (spBag K) [] (fun _ _ _ => False) (tCons (tVar 0) tNil)) (gName 1)) (tWSs X rest) E (L2.start N [.ref a]) H := by
  refine ⟨.ref a, rfl, ⟨a, ns, rfl, hS, hlen, fun H' p c ms z ne sm h1 h2 hl h3 h4 => ?_⟩⟩
  show tWSs X rest E ((L2.start N [V.ref a]).set 1 (some (.ref p))) H'
  have ok : Ok K { G := none0, Wx := fun _ _ _ _ => False, X := fun _ _ _ => False, T := TT } (fun _ => False) (bagS p c ms z) H' := by
    refine ⟨⟨fun a h => h.elim, fun b cl e => ?_, sub0, fun t ht => ?_, fun a q => q.elim⟩, fun _ _ _ _ _ _ _ q => q.elim⟩
    rotate_right 1
    · have ht2 := sm _ _ (hT t ht)
      have n1 : t.1 ≠ p := fun z => by rw [z, h1] at ht2; cases ht2
      have n2 : t.1 ≠ c := fun z => by rw [z, h2] at ht2; cases ht2
      exact ⟨⟨#[], ht2, True.intro, fun pos cv hc => by simp [codeAmong] at hc⟩, by unfold bagS; rw [upS_ne n1, upS_ne n2], fun z => z⟩
    unfold bagS at e
    by_cases e1 : b = p
    · rw [e1, upS_same] at e
      cases e
      rw [e1]
      exact .lst h1 (.cons (.ref c) (.cons (.d (.int _)) (.cons (.d (.int _)) (.cons (.d (.int _)) (.cons (.d (.int _)) .nil)))))
    · rw [upS_ne e1] at e
      by_cases e2 : b = c
      · rw [e2, upS_same] at e
        cases e
        rw [e2]
        exact .lst h2 (wints ms)
      · rw [upS_ne e2] at e
        cases e
  refine js _ rfl rfl lawC _ _ rfl (hm p c ms z ne hl h3 h4) (fun _ => False) E _ H' ok ⟨fun i w e => ?_, ?_⟩ ⟨fun _ _ _ _ q => q.elim, fun S v H2 w hw k r _ _ => ?_, fun _ _ _ _ q => q.elim, fun _ _ _ _ q => q.elim⟩
  · rcases i with _ | _ | i
    · cases e
    · cases e
      refine ⟨.ref p, List.getElem?_set_self ?_, .ref p⟩
      unfold L2.start
      simp
      omega
    · have e : (List.replicate n (none : Option W))[i]? = some (some w) := e
      rw [List.getElem?_replicate] at e
      split at e <;> cases e
  · unfold L2.start
    simp
    omega
  · cases hw
    cases r.to_d.to_bl
    exact q H2
theorem clsAt_of {K : PySem.W.Frag} {C : String} {a : Addr} (h : PySem.W.nsIn K mainGlobals (Str.ofString C) = some (some (.ref a))) : clsAt K C = a := by
  unfold clsAt
  rw [h]
theorem small1000 {n : Nat} (h : n < 1000) : n < sizeLine := by rw [sizeLine_eq]; omega
theorem Same.seq {K : PySem.W.Frag} {H H' : Hp} (s : Same H H') {a : Addr} {xs : List V} (h : SqL K H a xs) : SqL K H' a xs := by
  rcases h with (h | ⟨o, h⟩) | h
  · exact .inl (.inl (s _ _ h))
  · exact .inl (.inr ⟨o, s _ _ h⟩)
  · exact .inr h
theorem dfl1 {K : PySem.W.Frag} {T : Addr} {oc : Value} {od : Option Addr} {its : Array Value} {n : Nat} {sl : Array (Option Value)} {dvs : List V} (hd : dvs ≠ []) (l : K.lookup T = some ⟨oc, od, .seq its n, sl⟩) (r : Vals dvs its.toList) : DflV K (.ref T) dvs :=
  .inr ⟨hd, T, _, its.toList, n, rfl, l, rfl, r⟩
theorem kwd0 {K : PySem.W.Frag} {kV : Value} : KwdV K kV [] := .inl rfl
theorem fund_mk {K : PySem.W.Frag} {x qual : Str} {st : Stmt} {f : Addr} {oc : Value} {od an : Option Addr} {osl : Array (Option Value)} {dV kV doc pm cdv ct : Value} {dvs : List V} {kws : List (Str × V)} (l : K.lookup f = some ⟨oc, od, .func (PySem.W.fnOf x qual (defArgs st) (defBody st) (defScope st) dV kV doc pm an cdv ct), osl⟩)
    (c : PySem.W.codeIn K cdv qual = true) (k : PySem.W.keepIn K (.ref f) = true) (hD : DflV K dV dvs) (hK : KwdV K kV kws) : FunD K x qual (defArgs st) (defBody st) (defScope st) dvs kws f (PySem.W.fnOf x qual (defArgs st) (defBody st) (defScope st) dV kV doc pm an cdv ct) :=
  ⟨⟨oc, od, dV, kV, doc, pm, an, cdv, ct, osl, rfl, l, c, hD, hK⟩, k⟩
end DX

set_option Elab.async false
set_option linter.all false
set_option maxRecDepth 100000
namespace DX
open PySem L2
section
variable {δ : Slots} {S : Store} {P : W → Store → Prop} {Pb : Bool → Store → Prop} {Pl : List W → Store → Prop} {X : XP} {ma mb mc m : EM} {t u : TM} {mr mk : AM} {C : Ct} {i j : Nat} {w x y z : W} {d e : D}
def kVar (o : Option (Option W)) (P : W → Store → Prop) (S : Store) : Prop := match o with
  | some (some w) => P w S
  | _ => False
def kAt {α : Type} (o : Option α) (f : α → Prop) : Prop := match o with
  | some w => f w
  | none => False
def kCell (o : Option Cell) (f : List W → Prop) : Prop := match o with
  | some (.lst ws) => f ws
  | _ => False
theorem x_kat {α : Type} {a : α} {f : α → Prop} : kAt (some a) f = f a := rfl
theorem x_kcell {ws : List W} {f : List W → Prop} : kCell (some (.lst ws)) f = f ws := rfl
theorem x_kvar : kVar (some (some w)) P S = P w S := rfl
def kBl (P : Bool → Store → Prop) : W → Store → Prop := fun w S1 => match w with
  | .d (.bl b) => P b S1
  | _ => False
def kTru (P : Bool → Store → Prop) : W → Store → Prop := fun w S1 => match truW S1 w with
  | some b => P b S1
  | none => False
def kCh (o' : O2) (mc : EM) (δ : Slots) (y : W) (P : W → Store → Prop) (X : XP) : W → Store → Prop := fun z S3 => match z with
  | .d (.bl true) => mc δ S3 (fun w S4 => o' y w S4 P) X
  | .d (.bl false) => P (.d (.bl false)) S3
  | _ => False
def kAnd (mb : EM) (δ : Slots) (P : W → Store → Prop) (X : XP) : W → Store → Prop := fun w S1 => match truW S1 w with
  | some true => mb δ S1 P X
  | some false => P w S1
  | none => False
def kOr (mb : EM) (δ : Slots) (P : W → Store → Prop) (X : XP) : W → Store → Prop := fun w S1 => match truW S1 w with
  | some true => P w S1
  | some false => mb δ S1 P X
  | none => False
def kNot (P : W → Store → Prop) : W → Store → Prop := fun w S1 => match truW S1 w with
  | some b => P (.d (.bl (!b))) S1
  | none => False
def kStar (mr : AM) (δ : Slots) (P : List W → Store → Prop) (X : XP) : W → Store → Prop := fun w S1 => match seqW S1 w with
  | some us => mr δ S1 (fun ws S2 => P (us ++ ws) S2) X
  | none => False
theorem x_bl : mBl ma δ S Pb X = ma δ S (kBl Pb) X := rfl
theorem x_tru : mTru ma δ S Pb X = ma δ S (kTru Pb) X := rfl
theorem x_kbl {b : Bool} : kBl Pb (.d (.bl b)) S = Pb b S := rfl
theorem x_ktru : kTru Pb w S = kAt (truW S w) (fun b => Pb b S) := by unfold kTru kAt; cases truW S w <;> rfl
theorem x_chain {o o' : O2} : mChain o o' ma mb mc δ S P X = ma δ S (fun x S1 => mb δ S1 (fun y S2 => o x y S2 (kCh o' mc δ y P X)) X) X := rfl
theorem x_kch {o' : O2} {b : Bool} : kCh o' mc δ y P X (.d (.bl b)) S = if b = true then mc δ S (fun w S4 => o' y w S4 P) X else P (.d (.bl false)) S := by cases b <;> rfl
theorem x_andV : mAndV ma mb δ S P X = ma δ S (kAnd mb δ P X) X := rfl
theorem x_orV : mOrV ma mb δ S P X = ma δ S (kOr mb δ P X) X := rfl
theorem x_notV : mNotV ma δ S P X = ma δ S (kNot P) X := rfl
theorem x_kand : kAnd mb δ P X w S = kAt (truW S w) (fun b => if b = true then mb δ S P X else P w S) := by unfold kAnd kAt; cases truW S w with | none => rfl | some b => cases b <;> rfl
theorem x_kor : kOr mb δ P X w S = kAt (truW S w) (fun b => if b = true then P w S else mb δ S P X) := by unfold kOr kAt; cases truW S w with | none => rfl | some b => cases b <;> rfl
theorem x_knot : kNot P w S = kAt (truW S w) (fun b => P (.d (.bl (!b))) S) := by unfold kNot kAt; cases truW S w <;> rfl
theorem x_star : aStar ma mr δ S Pl X = ma δ S (kStar mr δ Pl X) X := rfl
theorem x_kstar : kStar mr δ Pl X w S = kAt (seqW S w) (fun us => mr δ S (fun ws S2 => Pl (us ++ ws) S2) X) := by unfold kStar kAt; cases seqW S w <;> rfl
theorem x_c : mC d δ S P X = P (.d d) S := rfl
theorem x_var : mVar i δ S P X = kVar δ[i]? P S := rfl
theorem x_op {o : O2} : mOp o ma mb δ S P X = ma δ S (fun x S1 => mb δ S1 (fun y S2 => o x y S2 P) X) X := rfl
theorem x_un {o : O1} : mUn o ma δ S P X = ma δ S (fun x S1 => o x S1 P) X := rfl
theorem x_and : mAnd t u δ S Pb X = t δ S (fun b S1 => if b = true then u δ S1 Pb X else Pb false S1) X := rfl
theorem x_or : mOr t u δ S Pb X = t δ S (fun b S1 => if b = true then Pb true S1 else u δ S1 Pb X) X := rfl
theorem x_not : mNot t δ S Pb X = t δ S (fun b S1 => Pb (!b) S1) X := rfl
theorem x_if : mIf t ma mb δ S P X = t δ S (fun b S1 => if b = true then ma δ S1 P X else mb δ S1 P X) X := rfl
theorem x_nil : aNil δ S Pl X = Pl [] S := rfl
theorem x_cons : aCons ma mr δ S Pl X = ma δ S (fun w S1 => mr δ S1 (fun ws S2 => Pl (w :: ws) S2) X) X := rfl
theorem x_tup : mTup mr δ S P X = mr δ S (fun ws S1 => ws.length ≤ 1000 ∧ P (mkT ws) S1) X := rfl
theorem x_lst {c : Bool} : mLst c mr δ S P X = mr δ S (fun ws S1 => ws.length ≤ 1000 ∧ newLC c ws S1 P) X := rfl
theorem x_newF {ws : List W} : newLC false ws S P = kAt (allD ws) (fun ds => P (.d (.lst ds)) S) := by unfold newLC kAt; rw [if_neg (by decide)]; cases allD ws <;> rfl
theorem x_newT {ws : List W} : newLC true ws S P = ∀ a, S a = none → P (.ref a) (upS S a (.lst ws)) := by unfold newLC; rw [if_pos rfl]
theorem x_cb {o : ON} : mCB o mr δ S P X = mr δ S (fun ws S1 => o ws S1 P) X := rfl
theorem x_call {sp : DSp} : mCall sp mr δ S P X = mr δ S (fun ws S1 => sp ws S1 P X) X := rfl
theorem x_callK {n j : Nat} {sp : DSp} : mCallK n j sp mr mk δ S P X = mr δ S (fun ws S1 => mk δ S1 (fun zs S2 => ws.length = n ∧ zs.length = j ∧ sp (ws ++ zs) S2 P X) X) X := rfl
section
variable {a b : Int} {c : Bool}
theorem x_add : oAdd c (.d (.int a)) (.d (.int b)) S P = P (.d (.int (a + b))) S := rfl
theorem x_sub : oSub (.d (.int a)) (.d (.int b)) S P = P (.d (.int (a - b))) S := rfl
theorem x_mul : oMul c (.d (.int a)) (.d (.int b)) S P = (CMul a b ∧ P (.d (.int (a * b))) S) := rfl
theorem x_mod : oMod (.d (.int a)) (.d (.int b)) S P = (0 < b ∧ P (.d (.int (a % b))) S) := rfl
theorem x_div : oDiv (.d (.int a)) (.d (.int b)) S P = ((0 < b ∧ b < 2 ^ 64) ∧ P (.d (.int (a / b))) S) := rfl
theorem x_pow : oPow (.d (.int a)) (.d (.int b)) S P = ((0 ≤ b ∧ b ≤ 100 ∧ a.natAbs < 2 ^ 64) ∧ P (.d (.int (a ^ b.toNat))) S) := rfl
theorem x_lt : oLt (.d (.int a)) (.d (.int b)) S P = P (.d (.bl (decide (a < b)))) S := rfl
theorem x_le : oLe (.d (.int a)) (.d (.int b)) S P = P (.d (.bl (decide (a ≤ b)))) S := rfl
theorem x_gt : oGt (.d (.int a)) (.d (.int b)) S P = P (.d (.bl (decide (b < a)))) S := rfl
theorem x_ge : oGe (.d (.int a)) (.d (.int b)) S P = P (.d (.bl (decide (b ≤ a)))) S := rfl
theorem x_eqI : oEq (.d (.int a)) (.d (.int b)) S P = P (.d (.bl (decide (a = b)))) S := rfl
theorem x_neI : oNe (.d (.int a)) (.d (.int b)) S P = P (.d (.bl (!decide (a = b)))) S := rfl
theorem x_eqS {s r : Str} : oEq (.d (.str s)) (.d (.str r)) S P = P (.d (.bl (decide (s = r)))) S := rfl
theorem x_neS {s r : Str} : oNe (.d (.str s)) (.d (.str r)) S P = P (.d (.bl (!decide (s = r)))) S := rfl
theorem x_isN : oIsN x (.d .non) S P = P (.d (.bl x.isN)) S := rfl
theorem x_notN : oNotN x (.d .non) S P = P (.d (.bl (!x.isN))) S := rfl
theorem x_ixC {p : Addr} : oIx (.ref p) (.d (.int b)) S P = kCell (S p) (fun ws => kAt (L2.atI ws b) fun w => P w S) := by
  unfold oIx lseq kCell kAt
  dsimp only
  cases S p with
  | none => rfl
  | some c => cases c with
    | lst ws => dsimp only; cases L2.atI ws b <;> rfl
    | _ => rfl
theorem x_ixL {l : List D} : oIx (.d (.lst l)) (.d (.int b)) S P = kAt (L2.atI (l.map W.d) b) (fun w => P w S) := by
  unfold oIx lseq kAt
  dsimp only
  cases L2.atI (l.map W.d) b <;> rfl
theorem x_ixT {l : List D} : oIx (.d (.tup l)) (.d (.int b)) S P = kAt (L2.atI (l.map W.d) b) (fun w => P w S) := by
  unfold oIx lseq tseq kAt
  dsimp only
  cases L2.atI (l.map W.d) b <;> rfl
theorem x_lenC {p : Addr} : bLen [.ref p] S P = kCell (S p) (fun ws => P (.d (.int ws.length)) S) := by
  unfold bLen seqW lseq kCell
  dsimp only
  cases S p with
  | none => rfl
  | some c => cases c with
    | lst ws => rfl
    | _ => rfl
theorem x_lenL {l : List D} : bLen [.d (.lst l)] S P = P (.d (.int l.length)) S := by
  have e : seqW S (.d (.lst l)) = some (l.map W.d) := rfl
  unfold bLen
  simp only [e, List.length_map]
theorem x_lenT {l : List D} : bLen [.d (.tup l)] S P = P (.d (.int l.length)) S := by
  have e : seqW S (.d (.tup l)) = some (l.map W.d) := rfl
  unfold bLen
  simp only [e, List.length_map]
theorem x_int : bInt [.d (.int a)] S P = P (.d (.int a)) S := rfl
theorem x_intB {q : Bool} : bInt [.d (.bl q)] S P = P (.d (.int (if q then 1 else 0))) S := rfl
theorem x_setIx {p : Addr} {Ps : Store → Prop} : setIx (.ref p) (.d (.int b)) w S Ps = kCell (S p) (fun ws => kAt (ixN ws.length b) fun j => Ps (upS S p (.lst (ws.set j w)))) := by
  unfold setIx kCell kAt
  dsimp only
  cases S p with
  | none => rfl
  | some c => cases c with
    | lst ws => dsimp only; cases ixN ws.length b <;> rfl
    | _ => rfl
theorem x_truN : truW S (.d .non) = some false := rfl
theorem x_truB {q : Bool} : truW S (.d (.bl q)) = some q := rfl
theorem x_truI : truW S (.d (.int a)) = some (a != 0) := rfl
theorem x_truL {l : List D} : truW S (.d (.lst l)) = some (!(l.map W.d).isEmpty) := rfl
theorem x_truT {l : List D} : truW S (.d (.tup l)) = some (!(l.map W.d).isEmpty) := rfl
theorem x_seqL {l : List D} : seqW S (.d (.lst l)) = some (l.map W.d) := rfl
theorem x_seqT {l : List D} : seqW S (.d (.tup l)) = some (l.map W.d) := rfl
theorem x_atI0 {α : Type} {w : α} {l : List α} : L2.atI (w :: l) 0 = some w := by
  unfold L2.atI ixN
  rw [if_pos (by decide), if_pos (by simp)]
  rfl
end
theorem x_tupL {l : List D} : bTup [.d (.lst l)] S P = P (.d (.tup l)) S := by
  unfold bTup
  simp only [x_seqL, mkT_map]
theorem x_tupT {l : List D} : bTup [.d (.tup l)] S P = P (.d (.tup l)) S := by
  unfold bTup
  simp only [x_seqT, mkT_map]
theorem x_tupC {p : Addr} : bTup [.ref p] S P = kCell (S p) (fun ws => P (mkT ws) S) := by
  unfold bTup seqW lseq kCell
  dsimp only
  cases S p with
  | none => rfl
  | some c => cases c with
    | lst ws => rfl
    | _ => rfl
theorem x_listL {c : Bool} {l : List D} : bList c [.d (.lst l)] S P = newLC c (l.map W.d) S P := by
  unfold bList
  simp only [x_seqL]
theorem x_listT {c : Bool} {l : List D} : bList c [.d (.tup l)] S P = newLC c (l.map W.d) S P := by
  unfold bList
  simp only [x_seqT]
theorem x_listC {c : Bool} {p : Addr} : bList c [.ref p] S P = kCell (S p) (fun ws => newLC c ws S P) := by
  unfold bList seqW lseq kCell
  dsimp only
  cases S p with
  | none => rfl
  | some c => cases c with
    | lst ws => rfl
    | _ => rfl
theorem x_newMap {l : List D} : newLC false (l.map W.d) S P = P (.d (.lst l)) S := by
  rw [x_newF, allD_map]
  rfl
theorem x_allL {l : List D} : bAll [.d (.lst l)] S P = kAt (allB (l.map W.d)) (fun bs => P (.d (.bl (bs.all id))) S) := by
  unfold bAll lseq kAt
  dsimp only
  cases allB (l.map W.d) <;> rfl
theorem x_anyL {l : List D} : bAny [.d (.lst l)] S P = kAt (allB (l.map W.d)) (fun bs => P (.d (.bl (bs.any id))) S) := by
  unfold bAny lseq kAt
  dsimp only
  cases allB (l.map W.d) <;> rfl
theorem allB_bls (bs : List Bool) : allB ((bs.map D.bl).map W.d) = some bs := by
  have := allB_map bs
  rw [List.map_map]
  exact this
theorem x_isi {cs : List String} {sub : String → String → Bool} {n : String} : bIsi cs sub [w, .d (.ty n)] S P = kAt (w.tg S) (fun t => kAt (D.ctg (.ty n)) fun u => kAt (isI cs sub t u) fun b => P (.d (.bl b)) S) := by
  unfold bIsi kAt
  dsimp only
  cases w.tg S with
  | none => rfl
  | some t => cases D.ctg (.ty n) with
    | none => rfl
    | some u => dsimp only; cases isI cs sub t u <;> rfl
theorem x_isiC {cs : List String} {sub : String → String → Bool} {n : String} : bIsi cs sub [w, .d (.cls n)] S P = kAt (w.tg S) (fun t => kAt (isI cs sub t (.own n)) fun b => P (.d (.bl b)) S) := by
  unfold bIsi kAt
  dsimp only
  cases w.tg S with
  | none => rfl
  | some t => dsimp only [D.ctg]; cases isI cs sub t (.own n) <;> rfl
theorem x_isiT {cs : List String} {sub : String → String → Bool} : mIsiT cs sub ma mr δ S P X = ma δ S (fun w S1 => mr δ S1 (fun ws S2 => ws.length ≤ 1000 ∧ fIsiT cs sub w ws S2 P) X) X := rfl
theorem x_fisi {cs : List String} {sub : String → String → Bool} {ws : List W} : fIsiT cs sub w ws S P = kAt (allD ws) (fun ds => kAt (w.tg S) fun t => kAt (isAny cs sub t ds) fun b => Tg.inC cs t ∧ ds.all (fun d => d.ctg.isSome) = true ∧ P (.d (.bl b)) S) := by
  unfold fIsiT kAt
  cases allD ws with
  | none => rfl
  | some ds => dsimp only; cases w.tg S with
    | none => rfl
    | some t => dsimp only; cases isAny cs sub t ds <;> rfl
def kAk (o : Option AtK) (f : String) (fs : List (String × W)) (w : W) (P : W → Store → Prop) (S : Store) : Prop := match o with
  | some .fld => kAt (fs.lookup f) fun u => P u S
  | some (.con d) => fs.lookup f = none ∧ P (.d d) S
  | some (.prp sp) => sp [w] S P (fun _ _ => False)
  | none => False
section
variable {f mm : String} {fs : List (String × W)} {sp : DSp} {tb : List (String × DSp)} {ta : List (String × AtK)} {n : Nat}
theorem x_fld : kAk (some .fld) f fs w P S = kAt (fs.lookup f) (fun u => P u S) := rfl
theorem x_con : kAk (some (.con d)) f fs w P S = (fs.lookup f = none ∧ P (.d d) S) := rfl
theorem x_prp : kAk (some (.prp sp)) f fs w P S = sp [w] S P (fun _ _ => False) := rfl
def kAttr (f : String) (ta : List (String × AtK)) (P : W → Store → Prop) : W → Store → Prop := fun w S => kAt (insOf S w) fun q => kAk (ta.lookup q.1) f q.2 w P S
theorem x_attr : mAttr f ta ma δ S P X = ma δ S (kAttr f ta P) X := by
  unfold mAttr
  congr 1
  funext w S1
  unfold kAttr kAt kAk
  cases insOf S1 w with
  | none => rfl
  | some q =>
    obtain ⟨cl, fs⟩ := q
    dsimp only
    cases ta.lookup cl with
    | none => rfl
    | some k => cases k with
      | fld => dsimp only; cases fs.lookup f <;> rfl
      | con d => rfl
      | prp sp => rfl
theorem x_kattrD {C : String} {gs : List (String × D)} : kAttr f ta P (.d (.ins C gs)) S = kAk (ta.lookup C) f (gs.map fun p => (p.1, .d p.2)) (.d (.ins C gs)) P S := rfl
def kObj (o : Option Cell) (g : String → List (String × W) → Prop) : Prop := match o with
  | some (.obj C fs) => g C fs
  | _ => False
theorem x_kobj {C : String} {g : String → List (String × W) → Prop} : kObj (some (.obj C fs)) g = g C fs := rfl
theorem x_insC {a : Addr} {g : String × List (String × W) → Prop} : kAt (insOf S (.ref a)) g = kObj (S a) (fun C fs => g (C, fs)) := by
  unfold insOf kAt kObj
  dsimp only
  cases S a with
  | none => rfl
  | some c => cases c <;> rfl
theorem x_kattrC {a : Addr} : kAttr f ta P (.ref a) S = kObj (S a) (fun C fs => kAk (ta.lookup C) f fs (.ref a) P S) := by
  unfold kAttr
  exact x_insC
def kMeth (mm : String) (tb : List (String × DSp)) (mr : AM) (δ : Slots) (P : W → Store → Prop) (X : XP) : W → Store → Prop := fun w S => kAt (insOf S w) fun q => q.2.lookup mm = none ∧ kAt (tb.lookup q.1) fun sp => mr δ S (fun ws S2 => sp (w :: ws) S2 P X) X
theorem x_meth : mMeth mm tb ma mr δ S P X = ma δ S (kMeth mm tb mr δ P X) X := by
  unfold mMeth
  congr 1
  funext w S1
  unfold kMeth kAt
  cases insOf S1 w with
  | none => rfl
  | some q =>
    obtain ⟨cl, fs⟩ := q
    dsimp only
    cases tb.lookup cl <;> rfl
theorem x_kmethD {C : String} {gs : List (String × D)} : kMeth mm tb mr δ P X (.d (.ins C gs)) S = ((gs.map fun p => (p.1, W.d p.2)).lookup mm = none ∧ kAt (tb.lookup C) fun sp => mr δ S (fun ws S2 => sp (.d (.ins C gs) :: ws) S2 P X) X) := rfl
theorem x_kmethC {a : Addr} : kMeth mm tb mr δ P X (.ref a) S = kObj (S a) (fun C fs => fs.lookup mm = none ∧ kAt (tb.lookup C) fun sp => mr δ S (fun ws S2 => sp (.ref a :: ws) S2 P X) X) := by
  unfold kMeth
  exact x_insC
theorem x_putA {cs : List String} {a : Addr} {Ps : Store → Prop} : putA f cs w (.ref a) S Ps = kObj (S a) (fun cl fs => cs.contains cl = true ∧ fs.length < 1000 ∧ Ps (upS S a (.obj cl (putW f w fs)))) := by
  unfold putA kObj
  first
    | (dsimp only; done)
    | (dsimp only; cases S a with | none => rfl | some c => cases c <;> rfl)
theorem x_fldS {cs : List String} : mFldS f cs ma mb C δ S = mb δ S (fun w S1 => ma δ S1 (fun x S2 => putA f cs w x S2 fun S3 => C.nx δ S3) (XF C δ)) (XF C δ) := rfl
end
def kFrz (P : W → Store → Prop) : W → Store → Prop := fun w S => kAt (frzW 4 S w) fun q => P (.d q.1) q.2
theorem x_frz : mFrz ma δ S P X = ma δ S (kFrz P) X := by
  unfold mFrz
  congr 1
  funext w S1
  unfold kFrz kAt
  cases frzW 4 S1 w <;> rfl
theorem x_kfrzD : kFrz P (.d d) S = P (.d d) S := by
  unfold kFrz frzW
  rfl
theorem frzs_d {n : Nat} : ∀ (ds : List D) (S : Store), frzW.frzs (frzW n) S (ds.map W.d) = some (ds, S)
  | [], S => rfl
  | d :: ds, S => by
    have e : frzW n S (.d d) = some (d, S) := by cases n <;> rfl
    simp only [List.map_cons, frzW.frzs, e, frzs_d ds S, Option.map_some]
theorem x_inT {l : List D} {s : Str} : oIn (.d (.str s)) (.d (.tup l)) S P = kAt (mapSc l) (fun us => P (.d (.bl (inV (.str s) us))) S) := by
  show fIn id (.str s) (.tup l) (fun d => P (.d d) S) = _
  unfold fIn kAt D.sc
  dsimp only
  cases mapSc l <;> rfl
theorem x_ninT {l : List D} {s : Str} : oNin (.d (.str s)) (.d (.tup l)) S P = kAt (mapSc l) (fun us => P (.d (.bl (!inV (.str s) us))) S) := by
  show fIn not (.str s) (.tup l) (fun d => P (.d d) S) = _
  unfold fIn kAt D.sc
  dsimp only
  cases mapSc l <;> rfl
theorem inV_nil {v : V} : inV v [] = false := rfl
theorem inV_str {s r : Str} {us : List V} : inV (.str s) (.str r :: us) = (decide (r = s) || inV (.str s) us) := by
  unfold inV
  rw [List.any_cons]
  rfl
theorem x_mcons {m n : SM} : mCons m n C δ S = m { C with nx := fun δ1 S1 => n C δ1 S1 } δ S := rfl
theorem x_mnil : mNil C δ S = C.nx δ S := rfl
theorem x_set : mSet i ma C δ S = ma δ S (fun w S1 => C.nx (δ.set i (some w)) S1) (XF C δ) := rfl
theorem x_asg {g : GM} : mAsg ma g C δ S = ma δ S (fun w S1 => g w δ S1 C.nx (XF C δ)) (XF C δ) := rfl
theorem x_drp : mDrp ma C δ S = ma δ S (fun _ S1 => C.nx δ S1) (XF C δ) := rfl
theorem x_ret : mRet ma C δ S = ma δ S C.rt (XF C δ) := rfl
theorem x_retN : mRetN C δ S = C.rt (.d .non) S := rfl
theorem x_ifS {m n : SM} : mIfS t m n C δ S = t δ S (fun b S1 => if b = true then m C δ S1 else n C δ S1) (XF C δ) := rfl
theorem x_tgN {Ps : Slots → Store → Prop} : tgN i w δ S Ps X = Ps (δ.set i (some w)) S := rfl
theorem x_tgSub {Ps : Slots → Store → Prop} : tgSub ma mb w δ S Ps X = ma δ S (fun x S1 => mb δ S1 (fun y S2 => setIx x y w S2 fun S3 => Ps δ S3) X) X := rfl
theorem x_par : mPar i j mr C δ S = mr δ S (fun ws S1 => match ws with
  | [v, w] => C.nx ((δ.set i (some v)).set j (some w)) S1
  | _ => False) (XF C δ) := rfl
end
theorem cmul_r {a b : Int} (h1 : -(2 ^ 64) < b) (h2 : b < 2 ^ 64) : CMul a b := .inr ⟨h1, h2⟩
end DX

set_option Elab.async false
set_option linter.all false
set_option maxRecDepth 100000
set_option maxHeartbeats 2000000
namespace DX
open PySem PySem.Spec PyProof.Rows L2
abbrev fmR (n : Nat) : Builtin.Float.FormatSpec := { align := 62, width := some n }
def padR (n : Nat) (x : PySem.Str) : PySem.Str := ⟨x.cps ++ Array.replicate (n - x.length) 32⟩
end DX
namespace DX
open PySem PySem.Spec PyProof.Rows L2
def mFmt (ma : EM) : EM := fun δ S P X => ma δ S (fun w S1 => match w with
  | .d (.str s) => s.length ≤ 10000000 ∧ P (.d (.str s)) S1
  | .d (.int i) => i.natAbs < 2 ^ 60 ∧ P (.d (.str (toString i))) S1
  | _ => False) X
abbrev JM := PySem.Str → Slots → Store → (PySem.Str → Store → Prop) → XP → Prop
def jNil : JM := fun acc δ S P X => P acc S
def jCons (m : EM) (r : JM) : JM := fun acc δ S P X => m δ S (fun w S1 => match w with
  | .d (.str y) => acc.length + y.length ≤ 10000000 ∧ r (acc ++ y) δ S1 P X
  | _ => False) X
def mJs (r : JM) : EM := fun δ S P X => r Str.empty δ S (fun t S1 => P (.d (.str t)) S1) X
section
variable {X : Cx} {K : PySem.W.Frag} {F : Fr} {e v1 v2 : Expr} {rest : List Expr} {ma m : EM} {r : JM} {pos p1 p2 : Pos}
theorem je_fmt (ja : JE X K F e ma) : JE X K F (.FormattedValue e (-1) none pos) (mFmt ma) := .of (pe_fmt pe) fun δ S P q M σ H k x Q c => ja δ S _ q M σ H k x _ fun v H1 w S1 p1 s1 v1 => by
  split at p1
  · cases v1.to_d.to_str
    exact .inl ⟨_, rfl, by rw [sizeLine_eq]; omega, c _ H1 _ S1 p1.2 s1 (.d (.str _))⟩
  · cases v1.to_d.to_int
    exact .inr ⟨_, rfl, Nat.lt_of_lt_of_le (PySem.Flt.log2_lt_of (by decide) p1.1) (by decide), c _ H1 _ S1 p1.2 s1 (.d (.str _))⟩
  · exact p1.elim
def JJ (X : Cx) (K : PySem.W.Frag) (F : Fr) (es : List Expr) (r : JM) : Prop := ∃ ts, PJ X es ts ∧ ∀ acc δ S P, r acc δ S P (fun x T => F.X x δ T) → ∀ (M : Hid) (σ : L2.St) (H : Hp), Ok K F M S H → SlotsOk K M S H σ δ → ∀ Q : PySem.Str → Hp → Prop, (∀ t H' S', P t S' → St K F M S H S' H' → Q t H') → tJs ts acc σ H Q
theorem jj_nil : JJ X K F [] jNil := ⟨[], .nil, fun acc δ S P q M σ H k x Q c => c _ H S q (.refl k)⟩
theorem jj_cons {es : List Expr} (je : JE X K F e m) (jr : JJ X K F es r) : JJ X K F (e :: es) (jCons m r) := by
  obtain ⟨ts, h1, h2⟩ := jr
  refine ⟨_ :: ts, .cons pe h1, fun acc δ S P q M σ H k x Q c => je δ S _ q M σ H k x _ fun v H1 w S1 p1 s1 v1 => ?_⟩
  split at p1
  · cases v1.to_d.to_str
    exact ⟨_, rfl, by rw [strLen_append, sizeLine_eq]; omega, h2 _ δ S1 P p1.2 M σ H1 s1.ok (s1.slots x) Q fun t H' S' p s2 => c t H' S' p (s1.trans s2)⟩
  · exact p1.elim
theorem je_joined (h : JJ X K F (v1 :: v2 :: rest) r) : JE X K F (.JoinedStr (v1 :: v2 :: rest) pos) (mJs r) := by
  obtain ⟨ts, h1, h2⟩ := h
  exact .of (pe_joined h1) fun δ S P q M σ H k x Q c => h2 _ δ S _ q M σ H k x _ fun t H' S' p s => c _ H' _ S' p s (.d (.str t))
end
def joinFits (a : PySem.Str) (ys : List PySem.Str) : Prop := (ys.map (·.length)).sum + ys.length * a.length ≤ 10000000
section
variable {K : PySem.W.Frag} {F : Fr}
end
end DX

set_option Elab.async false
set_option linter.all false
set_option maxRecDepth 100000
namespace DX
open PySem L2
mutual
inductive TrW (S : Store) : W → D → Prop
  | d (x : D) : TrW S (.d x) x
  | lst {a : Addr} {ds : List D} : S a = some (.lst (ds.map .d)) → TrW S (.ref a) (.lst ds)
  | dct {a : Addr} {fs : List (Key × D)} : S a = some (.dct (fs.map fun p => (p.1, .d p.2))) → TrW S (.ref a) (.dct fs)
  | obj {a : Addr} {C : String} {fs : List (String × W)} {gs : List (String × D)} : S a = some (.obj C fs) → TrF S fs gs → TrW S (.ref a) (.ins C gs)
inductive TrF (S : Store) : List (String × W) → List (String × D) → Prop
  | nil : TrF S [] []
  | cons {f : String} {w : W} {d : D} {fs : List (String × W)} {gs : List (String × D)} : TrW S w d → TrF S fs gs → TrF S ((f, w) :: fs) ((f, d) :: gs)
end
abbrev nilS : Store := fun _ => none
section
variable {K : PySem.W.Frag} {F : Fr} {M : Hid} {S S' : Store} {H H' : Hp} {σ : L2.St} {δ δ2 : Slots}
theorem dvk_of {G : Hp} : ∀ {vs : List (Key × V)} {fs : List (Key × D)}, Wvk K G vs (fs.map fun p => (p.1, W.d p.2)) → DVk K G vs fs
  | _, [], .nil => .nil
  | _, _ :: _, .cons h r => .cons h.to_d (dvk_of r)
theorem see_ok (hm : ∀ a, M a → S a = none) {a : Addr} {c : Cell} {o : HO} (e : S a = some c) (h : H a = some o) (n : NoT o) : gS M nilS H a = some o :=
  gS_some.mpr ⟨fun m => (by rw [hm a m] at e; cases e), rfl, h, n⟩
theorem sub_nil : Sub (gS M S H) (gS M nilS H) := gS_drop fun a _ => rfl
mutual
theorem trW_ok (k : OkC K M S H) (hm : ∀ a, M a → S a = none) : ∀ {w : W} {d : D}, TrW S w d → ∀ v, Wv K (gS M S H) v w → DV K (gS M nilS H) v d
  | _, _, .d x, v, h => h.to_d.mono sub_nil
  | _, _, .lst e, v, h => by
    cases h.to_ref
    cases k _ _ e with | lst h1 h2 => exact .lst (see_ok hm e h1 fun ps z => by cases z) (h2.mono sub_nil).ds
  | _, _, .dct e, v, h => by
    cases h.to_ref
    cases k _ _ e with | dct h1 h2 => exact .dct (see_ok hm e h1 fun ps z => by cases z) (dvk_of (h2.mono sub_nil))
  | _, _, .obj e t, v, h => by
    cases h.to_ref
    cases k _ _ e with | obj h1 h2 => exact .ins (see_ok hm e h1 fun ps z => by cases z) (trF_ok k hm t _ h2)
theorem trF_ok (k : OkC K M S H) (hm : ∀ a, M a → S a = none) : ∀ {fs : List (String × W)} {gs : List (String × D)}, TrF S fs gs → ∀ vs, Wvf K (gS M S H) vs fs → DVf K (gS M nilS H) vs gs
  | _, _, .nil, _, .nil => .nil
  | _, _, .cons t r, _, .cons h hr => .cons (trW_ok k hm t _ h) (trF_ok k hm r _ hr)
end
structure TmpSl (S : Store) (δ δ2 : Slots) : Prop where
  len : δ2.length = δ.length
  at_ : ∀ (i : Nat) (w2 : W), δ2[i]? = some (some w2) → ∃ w d, δ[i]? = some (some w) ∧ w2 = .d d ∧ TrW S w d
theorem TmpSl.ok (t : TmpSl S δ δ2) (k : Ok K F M S H) (x : SlotsOk K M S H σ δ) : SlotsOk K M nilS H σ δ2 :=
  ⟨fun i w e => by
    obtain ⟨w1, d, e1, rfl, tr⟩ := t.at_ i w e
    obtain ⟨v, h1, h2⟩ := x.at_ i w1 e1
    exact ⟨v, h1, .d (trW_ok k.cell (fun a m => (k.hid a m).1) tr v h2)⟩, by rw [t.len]; exact x.len⟩
end
def leafD : D → Bool
  | .non | .bl _ | .int _ | .str _ => true
  | _ => false
section
variable {X : Cx} {K : PySem.W.Frag} {F : Fr} {e : Expr} {m : EM}
end
end DX

set_option Elab.async false
set_option linter.all false
set_option maxRecDepth 100000
namespace DX
open PySem PySem.Spec PyProof.Rows PySem.W
section
variable {prog : Program} {w : World} {A : Around} {E : Value → Shared → Prop} {s : Shared} {K : Frag} {y C f : Addr} {ox : Obj} {od : Option Obj}
theorem reprO_run {Q : Value → Shared → Prop} (hu : A.in1.units < cLine) (X : K.In s.heap) (J : InstAt s.heap y ox C od) (hs : findIn K (.ref C) "__repr__" = some (some (.ref f))) (hf : isFn K (.ref f) = true)
    (h : wpAny (model prog w) A.in1 (call (.ref f) [.ref y]) (fun r s' => ∃ m tk, r = .str m tk ∧ Q (.str m tk) s') E s) : wpAny (model prog w) A (call (.builtin "repr") [.ref y]) Q E s := by
  refine Calls.call_function_entry PySem.F.kind_repr PySem.F.plain_repr PySem.F.entry_repr (PySem.F.args_repr1 _) ?_
  unfold Builtin.«repr»
  refine wpAny_bind (m := oneArg "repr" _) (wpAny_pure (wpAny_bind (wpAny_cRoomFor hu (wpAny_bind ((J.type.andThen (looks_findIn X hs)).here ?_)))))
  show wpAny _ A.in1 (if (some (Value.ref f)).isNone = true then _ else _) _ E s
  rw [if_neg (by simp)]
  refine wpAny_bind (m := callSpecialIfBound? (.ref y) (PySem.Str.ofString "__repr__") _) (ifBound_K X J hs hf (wpAny_mono h (fun r s' z => ?_) fun _ _ z => z))
  obtain ⟨m, tk, rfl, q⟩ := z
  refine wpAny_bind (wpAny_isInstance (typeIs_str _ m tk) isSubtype_str_str ?_)
  first
    | exact wpAny_pure ⟨_, rfl, q⟩
    | (rw [if_pos rfl]; exact wpAny_pure ⟨_, rfl, q⟩)
theorem truthyO {Q : Bool → Shared → Prop} {M : Model} (X : K.In s.heap) (J : InstAt s.heap y ox C od) (hs : findIn K (.ref C) "__bool__" = some (some (.ref f))) (hf : isFn K (.ref f) = true)
    (h : wpAny M A (call (.ref f) [.ref y]) (fun r s' => ∃ b, r = .bool b ∧ Q b s') E s) : wpAny M A (truthy (.ref y)) Q E s := by
  unfold truthy
  have key : wpAny M A (callSpecial? (.ref y) (PySem.Str.ofString "__bool__") []) (fun r s' => ∃ b, r = some (.bool b) ∧ Q b s') E s := special_fn X J hs (beq_iff_eq.mp hf) (wpAny_mono h (fun v s' ⟨b, e, q⟩ => ⟨b, by rw [e], q⟩) fun _ _ z => z)
  first
    | (refine wpAny_bind (m := callSpecial? (.ref y) (PySem.Str.ofString "__bool__")) (wpAny_mono key (fun r s' z => ?_) fun _ _ z => z)
       obtain ⟨b, rfl, q⟩ := z
       exact wpAny_pure q)
    | (refine wpAny_bind (wpAny_pure (wpAny_bind (m := callSpecial? (.ref y) (PySem.Str.ofString "__bool__")) (wpAny_mono key (fun r s' z => ?_) fun _ _ z => z)))
       obtain ⟨b, rfl, q⟩ := z
       exact wpAny_pure q)
theorem boolO_run {Q : Value → Shared → Prop} (X : K.In s.heap) (J : InstAt s.heap y ox C od) (hs : findIn K (.ref C) "__bool__" = some (some (.ref f))) (hf : isFn K (.ref f) = true)
    (h : wpAny (model prog w) A.in1.in1 (call (.ref f) [.ref y]) (fun r s' => ∃ b, r = .bool b ∧ Q (.bool b) s') E s) : wpAny (model prog w) A (call (.type "bool") [.ref y]) Q E s := by
  refine callType_codes (T := "bool") (Bi := Builtin.«object.__init__») (Q₁ := fun r s₁ => ∃ b, r = .bool b ∧ Q r s₁) PySem.F.called_bool (PySem.F.typeCall_bool_1 _) PySem.F.entry_object_init ?_ ?_
  · refine codeAny_of_tree ?_
    show wpAny _ A.in1.in1 (do checkBuiltinCall "bool.__new__" ⟨[.type "bool", .ref y], []⟩; again (.builtin "bool.__new__" ⟨[.type "bool", .ref y], []⟩)) _ _ s
    refine wpAny_bind (wpAny_of_eq (PySem.F.newCall_bool_1 _) (wpAny_pure ⟨plainId_quiet (by decide +kernel) _, codeAny_builtin PySem.F.entry_bool_new ?_⟩))
    rw [Around.under_plainId (by decide +kernel) _]
    unfold Builtin.«bool.__new__»
    refine wpAny_bind (wpAny_of_eq (a := true) (by rfl) ?_)
    refine wpAny_ite (PySem.W.KPc.ite_no (by decide) ?_)
    refine wpAny_bind (wpAny_of_eq (a := true) PySem.F.conv_sub_bool ?_)
    refine wpAny_ite (PySem.W.KPc.ite_no (by decide) ?_)
    refine wpAny_bind (wpAny_of_eq (a := [.ref y]) rfl ?_)
    refine wpAny_bind (truthyO X J hs hf (wpAny_mono h (fun r s' z => ?_) fun _ _ z => z))
    obtain ⟨b, rfl, q⟩ := z
    exact ⟨b, rfl, wpAny_pure ⟨b, rfl, q⟩⟩
  · rintro obj s₁ ⟨b, rfl, hq⟩
    exact ⟨rfl, PySem.F.args_object_init_2 _ _, object_init_meets PySem.F.called_bool.init.lookup PySem.F.called_bool.made (by decide) prog w A.in1 _ s₁ ⟨rfl, rfl, hq⟩⟩
theorem inO_run {M : Model} {x : Value} {Q : Bool → Shared → Prop} (X : K.In s.heap) (J : InstAt s.heap y ox C od) (hs : findIn K (.ref C) "__contains__" = some (some (.ref f))) (hf : isFn K (.ref f) = true) (hn : stdlibNamesSay? (.ref y) x = none)
    (h : wpAny M A (call (.ref f) [.ref y, x]) (fun r s' => ∃ b, r = .bool b ∧ Q b s') E s) : wpAny M A (contains (.ref y) x) Q E s := by
  unfold contains
  refine wpAny_holding ?_
  rw [hn]
  refine wpAny_bind ((J.type.andThen (looks_findIn X hs)).here ?_)
  show wpAny M A (if (some (Value.ref f) == some Value.none) = true then _ else _) Q E s
  rw [if_neg (by simp)]
  have key : wpAny M A (callSpecialUnlessNone? (.ref y) (PySem.Str.ofString "__contains__") [x] (do rule "in.none"; raiseError "TypeError" s!"'{← typeNameOf (.ref y)}' object is not a container")) (fun r s' => ∃ b, r = some (.bool b) ∧ Q b s') E s := by
    unfold callSpecialUnlessNone?
    refine wpAny_bind ((J.type.andThen (looks_findIn X hs)).here ?_)
    refine wpAny_holding (wpAny_bind ((bind_fn X _ (beq_iff_eq.mp hf)).here ?_))
    show wpAny M A (if (Value.ref f == Value.none) = true then _ else _) _ E s
    rw [if_neg (by simp)]
    refine wpAny_bind (wpAny_mono h (fun v s' z => ?_) fun _ _ z => z)
    obtain ⟨b, rfl, q⟩ := z
    exact wpAny_pure ⟨b, rfl, q⟩
  refine wpAny_bind (wpAny_mono key (fun r s' z => ?_) fun _ _ z => z)
  obtain ⟨b, rfl, q⟩ := z
  exact wpAny_pure q
end
end DX

set_option Elab.async false
set_option linter.all false
set_option maxRecDepth 100000
set_option maxHeartbeats 2000000
namespace PySem.W
open PySem PySem.Spec PySem.Calls PyProof.Rows
section
variable {prog : Program} {w : World} {A A₀ : Around} {E : Value → Shared → Prop} {s : Shared} {K : Frag} {x C L f : Addr} {h₀ : Heap} {m : Str → Option Value} {ox : Obj} {od : Option Obj} {name : Str} {b tb : Value}
open Builtin in
end
end PySem.W
namespace DXE
open PySem PySem.Spec PyProof.Rows L2
structure EqC (K : PySem.W.Frag) (C g : Addr) : Prop where
  eq : PySem.W.findIn K (.ref C) "__eq__" = some (some (.ref g))
  fn : PySem.W.isFn K (.ref g) = true
  ne : PySem.W.findIn K (.ref C) "__ne__" = some (some (.builtin "object.__ne__"))
  om : PySem.W.mroIn K C (.type "object") = some true
def rEqOwn (K : PySem.W.Frag) (C : Addr) (neg : Bool) (sp : Sp) (E : XK) : R2 := fun x y H Q => ∃ a dx fs t, x = .ref a ∧ H a = some (.ins C dx fs) ∧ TyX K H y t ∧ PySem.W.notFirst K C t = true ∧ sp [x, y] H (fun v H' => ∃ b, v = .bl b ∧ Q (.bl (if neg then !b else b)) H') E
variable {X : Cx} {CX : CXT} {C g : Addr} {n : Nat} {fd : FuncData} {ps : List Str} {sp : Sp} {E : XK}
theorem run2 {A : Around} {pins : List (Addr × Obj)} {σ : L2.St} {H : Hp} {s : Shared} {x y : V} {u v : Value} {Q : VK} (F : FnOk X.prog X.w X.K X.mg X.base CX n g fd ps sp) (hr : Room n A) (e0 : Env0 X.prog X.w X.K X.mg X.base A X.stack s H) (hb : Binds X.K fd ps []) (hx : Passes CX X E)
    (I : Inv X pins σ H s) (rx : RelV x u) (ry : RelV y v) (h : sp [x, y] H Q E) : wpAny (model X.prog X.w) A (call (.ref g) [u, v]) (EP X pins σ Q) X.xe s := by
  have hl := F.len _ _ _ _ h
  have r2 : Vals [x, y] [u, v] := .cons rx (.cons ry .nil)
  refine wpAny_call (codeAny_mono (F.run A X.stack s H ⟨[u, v], []⟩ [u, v] [x, y] Q E hr e0 (by
    have := hb s [u, v] I.kIn (by simpa using hl)
    simpa using this) r2 h) fun r s' hq => ?_)
  cases r with
  | error e => exact hx pins σ H s e s' I hq
  | ok fl =>
    cases fl with
    | ret w => exact I.after hq
    | next => exact False.elim hq
    | brk => exact False.elim hq
    | cont => exact False.elim hq
theorem op_eqOwn (c : EqC X.K C g) (F : FnOk X.prog X.w X.K X.mg X.base CX n g fd ps sp) (hr : Room n X.A) (hb : Binds X.K fd ps []) (hx : Passes CX X E) : OpR X (compareOp .Eq) (rEqOwn X.K C false sp E) := by
  intro pins s σ H x y v u Q I rx ry h
  obtain ⟨a, dx, fs, t, rfl, ha, ty, hn, q⟩ := h
  cases (show v = Value.ref a from rx)
  obtain ⟨mA, J, _⟩ := ins_get I.hok ha
  obtain ⟨od, J, _⟩ := J.look
  obtain ⟨P, Z, p, _⟩ := kit_of I ry ty
  obtain ⟨m, hF⟩ := I.fr
  show wpAny (model X.prog X.w) X.A (richCompare .Eq (.ref a) u) (EP X pins σ Q) X.xe s
  refine PySem.W.cmp_K (op := .Eq) hr.units0 hF I.ok.mod.kin J (Z.ty _ _ I.kIn p) hn c.eq c.fn ?_
  refine wpAny_mono (run2 F hr I.env0 hb hx I (show RelV (.ref a) (.ref a) from rfl) ry q) (fun w s' z => ?_) fun _ _ e => e
  obtain ⟨z', H', I', rz, b, eb, qz⟩ := z
  subst eb
  cases (show w = Value.bool b from rz)
  exact ⟨.bl b, H', I', rfl, qz⟩
end DXE

set_option Elab.async false
set_option linter.all false
set_option maxRecDepth 100000
namespace DX
open PySem PySem.Spec PyProof.Rows L2
variable {X : Cx} {K : PySem.W.Frag} {F : Fr} {a : Expr} {p pos : Pos}
structure SpcC (X : Cx) (K : PySem.W.Frag) (F : Fr) (nm : PySem.Str) (cl : String) (j : Nat) (sp : DSp) : Prop where
  c : Cls K (clsAt K cl)
  at_ : ∃ f k fd ps, Meth K (clsAt K cl) nm f ∧ FnOk X.prog X.w K X.mg X.base (L2N.CX X.prog X.w) k f fd ps (spD K F.T sp) ∧ Room (k + j) X.A ∧ L2.Binds K fd ps []
theorem run_spc {k : Nat} {f : Addr} {fd : FuncData} {ps : List PySem.Str} {sp : DSp} {A : Around} {pins : List (Addr × Obj)} {σ : L2.St} {δ : Slots} {H : Hp} {S : Store} {M : Hid} {s1 : Shared} {us : List Value} {vs : List V} {ws : List W} {P : W → Store → Prop} {Q : VK}
    (eK : X.K = K) (tk : L2N.Takes X F.Wx) (G : FnOk X.prog X.w K X.mg X.base (L2N.CX X.prog X.w) k f fd ps (spD K F.T sp)) (hr : Room k A) (e0 : Env0 X.prog X.w X.K X.mg X.base A X.stack s1 H) (hb : L2.Binds K fd ps []) (I1 : Inv X pins σ H s1) (ok : Ok K F M S H) (x : SlotsOk K M S H σ δ) (rx : Vals vs us) (v : Wvs K (gS M S H) vs ws)
    (p : sp ws S P (fun y T => F.X y δ T)) (c : ∀ v H' w S', P w S' → St K F M S H S' H' → Wv K (gS M S' H') v w → Q v H') : wpAny (model X.prog X.w) A (call (.ref f) us) (EP X pins σ Q) X.xe s1 := by
  subst eK
  have h := call_sp (sp := sp) (Q := Q) ok x v p c
  have hl := G.len _ _ _ _ h
  refine wpAny_call (codeAny_mono (G.run A X.stack s1 H ⟨us, []⟩ us vs _ (L2.WE F.Wx σ) hr e0 (by
    have := hb s1 us I1.kIn (by simpa [rx.length] using hl)
    simpa using this) rx h) fun r s' hq => ?_)
  cases r with
  | error e => exact L2N.passAt tk σ pins _ _ e s' I1 hq
  | ok fl =>
    cases fl with
    | ret w => exact I1.after hq
    | next => exact False.elim hq
    | brk => exact False.elim hq
    | cont => exact False.elim hq
def mReprO (cl : String) (sp : DSp) (mr : AM) : EM := fun δ S P X => mr δ S (fun ws S1 => match ws with
  | [w] => (match insOf S1 w with
    | some (c, _) => c = cl ∧ sp [w] S1 (fun r S2 => ∃ m : PySem.Str, r = .d (.str m) ∧ P r S2) X
    | none => False)
  | _ => False) X
def mBoolO (cl : String) (sp : DSp) (mr : AM) : EM := fun δ S P X => mr δ S (fun ws S1 => match ws with
  | [w] => (match insOf S1 w with
    | some (c, _) => c = cl ∧ sp [w] S1 (fun r S2 => ∃ b, r = .d (.bl b) ∧ P r S2) X
    | none => False)
  | _ => False) X
theorem je_reprO {cl : String} {sp : DSp} {mr : AM} (eK : X.K = K) (tk : L2N.Takes X F.Wx) (hT : SpcC X K F "__repr__" cl 1 sp) (hg : Gl X "repr") (hm : X.mg "repr" = none) (ja : JA X K F [a] mr)
    (he : starEach [a] X.env = (false, eval a X.env) :: starEach [] X.env := by rfl) (hpl : (backTo pos (starEach [] X.env)).any (·.1) = false := by rfl) :
    JE X K F (.Call (.Name "repr" p) [a] [] pos) (mReprO cl sp mr) := by
  subst eK
  intro δ S P q M σ H k xx Q c pins s I
  refine wpAny_Call_Name_kw (ld_blt (u := .builtin "repr") I hg hm (by decide +kernel) ?_ (by decide) (by decide))
  refine PyProof.Rows.callWith_builtin1 (thn (ja δ S _ q M σ H k xx (fun vs H1 => ∃ ws S1, _ ∧ St X.K F M S H S1 H1 ∧ Wvs X.K (gS M S1 H1) vs ws) (fun vs H1 ws S1 p s v => ⟨ws, S1, p, s, v⟩) pos pins s I) fun us s1 ⟨vs, H1, I1, rx, ws, S1, p1, st, v1⟩ => ?_) he hpl
  split at p1
  · split at p1
    · rename_i w c0 fs e1
      obtain ⟨rfl, p1⟩ := p1
      obtain ⟨v, rfl, v2⟩ := v1.one
      obtain ⟨u, rfl, ru⟩ := vals1 rx
      obtain ⟨b, dx, vs, rfl, h1, h2⟩ := insOf_ok st.ok.cell v2 e1
      obtain rfl : u = Value.ref b := ru
      obtain ⟨hc, f, kk, fd, ps, hm, G, hr, hb⟩ := hT
      obtain ⟨mA, J, _⟩ := ins_get I1.hok h1
      obtain ⟨od, J, _⟩ := J.look
      refine reprO_run (by have := hr.un; show X.A.units + 1 < _; omega) I1.kIn J hm.at_ hm.fn ?_
      refine wpAny_mono (run_spc rfl tk G hr.in1 I1.env0.in1 hb I1 st.ok (st.slots xx) (vs := [V.ref b]) (.cons (show RelV (V.ref b) (Value.ref b) from rfl) .nil) (.cons v2 .nil) p1 (Q := fun v H' => ∃ m : PySem.Str, v = .str m ∧ Q (.str m) H') fun v H' w' S' pw s2 r2 => ?_) (fun r s' z => ?_) fun _ _ z => z
      · obtain ⟨m, rfl, pw⟩ := pw
        obtain rfl := r2.to_d.to_str
        exact ⟨m, rfl, c _ H' _ S' pw (st.trans s2) r2⟩
      · obtain ⟨v, H', I3, rv, m, ev, q3⟩ := z
        subst ev
        obtain ⟨t, rfl⟩ := rv
        exact ⟨m, t, rfl, ⟨.str m, H', I3, ⟨t, rfl⟩, q3⟩⟩
    · exact p1.elim
  · exact p1.elim
theorem je_boolO {cl : String} {sp : DSp} {mr : AM} (eK : X.K = K) (tk : L2N.Takes X F.Wx) (hT : SpcC X K F "__bool__" cl 2 sp) (hg : Gl X "bool") (hm : X.mg "bool" = none) (ja : JA X K F [a] mr)
    (he : starEach [a] X.env = (false, eval a X.env) :: starEach [] X.env := by rfl) (hpl : (backTo pos (starEach [] X.env)).any (·.1) = false := by rfl) :
    JE X K F (.Call (.Name "bool" p) [a] [] pos) (mBoolO cl sp mr) := by
  subst eK
  intro δ S P q M σ H k xx Q c pins s I
  refine wpAny_Call_Name_kw (ld_blt (u := .type "bool") I hg hm (by decide +kernel) ?_ (by decide) (by decide))
  refine PyProof.Rows.callWith_type1 (thn (ja δ S _ q M σ H k xx (fun vs H1 => ∃ ws S1, _ ∧ St X.K F M S H S1 H1 ∧ Wvs X.K (gS M S1 H1) vs ws) (fun vs H1 ws S1 p s v => ⟨ws, S1, p, s, v⟩) pos pins s I) fun us s1 ⟨vs, H1, I1, rx, ws, S1, p1, st, v1⟩ => ?_) he hpl
  split at p1
  · split at p1
    · rename_i w c0 fs e1
      obtain ⟨rfl, p1⟩ := p1
      obtain ⟨v, rfl, v2⟩ := v1.one
      obtain ⟨u, rfl, ru⟩ := vals1 rx
      obtain ⟨b, dx, vs, rfl, h1, h2⟩ := insOf_ok st.ok.cell v2 e1
      obtain rfl : u = Value.ref b := ru
      obtain ⟨hc, f, kk, fd, ps, hm, G, hr, hb⟩ := hT
      obtain ⟨mA, J, _⟩ := ins_get I1.hok h1
      obtain ⟨od, J, _⟩ := J.look
      refine boolO_run I1.kIn J hm.at_ hm.fn ?_
      refine wpAny_mono (run_spc rfl tk G hr.in1.in1 I1.env0.in1.in1 hb I1 st.ok (st.slots xx) (vs := [V.ref b]) (.cons (show RelV (V.ref b) (Value.ref b) from rfl) .nil) (.cons v2 .nil) p1 (Q := fun v H' => ∃ m : Bool, v = .bl m ∧ Q (.bl m) H') fun v H' w' S' pw s2 r2 => ?_) (fun r s' z => ?_) fun _ _ z => z
      · obtain ⟨m, rfl, pw⟩ := pw
        obtain rfl := r2.to_d.to_bl
        exact ⟨m, rfl, c _ H' _ S' pw (st.trans s2) r2⟩
      · obtain ⟨v, H', I3, rv, m, ev, q3⟩ := z
        subst ev
        obtain rfl : r = Value.bool m := rv
        exact ⟨m, rfl, ⟨.bl m, H', I3, rfl, q3⟩⟩
    · exact p1.elim
  · exact p1.elim
def oEqOwn (cs : List String) (cl : String) (g : Bool → Bool) (sp : DSp) : O2 := fun x y S P => match insOf S x, y.tg S with
  | some (c, _), some t => c = cl ∧ t.inC cs ∧ (∀ e, t = .own e → e = cl) ∧ sp [x, y] S (fun r S2 => ∃ b, r = .d (.bl b) ∧ P (.d (.bl (g b))) S2) (fun _ _ => False)
  | _, _ => False
def oInOwn (cl : String) (g : Bool → Bool) (sp : DSp) : O2 := fun x y S P => match insOf S y with
  | some (c, _) => c = cl ∧ sp [y, x] S (fun r S2 => ∃ b, r = .d (.bl b) ∧ P (.d (.bl (g b))) S2) (fun _ _ => False)
  | none => False
structure NotF (K : PySem.W.Frag) (C : Addr) : Prop where
  all : ∀ T ∈ ["NoneType", "bool", "int", "str", "list", "tuple", "dict"], PySem.W.notFirst K C (.type T) = true
theorem notF_tg {cs : List String} {C : String} (n : NotF K (clsAt K C)) {t : Tg} (h : ∀ e, t = .own e → e = C) : PySem.W.notFirst K (clsAt K C) (t.val K) = true := by
  cases t with
  | own e =>
    rw [h e rfl]
    simp [PySem.W.notFirst, Tg.val]
  | _ => exact n.all _ (by simp [Tg.bname])
section
variable {cs : List String} {sub : String → String → Bool} {cl : String} {sp : DSp} {k : Nat} {f : Addr} {fd : FuncData} {ps : List PySem.Str}
theorem ro_own {neg : Bool} (T : IsiT K cs sub) (n : NotF K (clsAt K cl)) : RO2 K F (DXE.rEqOwn K (clsAt K cl) neg (spD K F.T sp) (fun _ _ _ => False)) (oEqOwn cs cl (fun b => if neg then !b else b) sp) := fun M S H x y v u P k a b p Q c => by
  unfold oEqOwn at p
  split at p
  · rename_i c0 fs t e1 e2
    obtain ⟨rfl, hi, ht, p⟩ := p
    obtain ⟨b0, dx, vs, rfl, h1, h2⟩ := insOf_ok k.cell a e1
    refine ⟨b0, dx, vs, t.val K, rfl, h1, Wv.tyX T k.cell b e2 hi, notF_tg (cs := cs) n ht, ?_⟩
    exact call_sp0 k (.cons a (.cons b .nil)) p fun z H' w S' ⟨r, er, pr⟩ st hw => by
      subst er
      obtain rfl := hw.to_d.to_bl
      exact ⟨r, rfl, c _ H' _ S' pr st (.d (.bl _))⟩
  · exact p.elim
theorem ob_eqOwn (eK : X.K = K) (T : IsiT K cs sub) (c : DXE.EqC K (clsAt K cl) f) (n : NotF K (clsAt K cl)) (G : FnOk X.prog X.w K X.mg X.base (L2N.CX X.prog X.w) k f fd ps (spD K F.T sp)) (hr : Room k X.A) (hb : L2.Binds K fd ps []) : OB X K F (compareOp .Eq) (oEqOwn cs cl id sp) := by
  subst eK
  exact ⟨_, DXE.op_eqOwn c G hr hb passes_f, ro_own (neg := false) T n⟩
def rInOwn (K : PySem.W.Frag) (C : Addr) (neg : Bool) (sp : Sp) : R2 := fun x y H Q => ∃ a dx fs, y = .ref a ∧ H a = some (.ins C dx fs) ∧ sp [y, x] H (fun v H' => ∃ b, v = .bl b ∧ Q (.bl (if neg then !b else b)) H') fun _ _ _ => False
theorem notSays (a : Addr) (x : Value) : stdlibNamesSay? (.ref a) x = none := by
  cases x <;> rfl
theorem op_inOwn (eK : X.K = K) (hm : Meth K (clsAt K cl) "__contains__" f) (G : FnOk X.prog X.w K X.mg X.base (L2N.CX X.prog X.w) k f fd ps (spD K F.T sp)) (hr : Room k X.A) (hb : L2.Binds K fd ps []) : OpR X (compareOp .In) (rInOwn K (clsAt K cl) false (spD K F.T sp)) ∧ OpR X (compareOp .NotIn) (rInOwn K (clsAt K cl) true (spD K F.T sp)) := by
  subst eK
  refine ⟨?_, ?_⟩
  · intro pins s σ H x y u v Q I rx ry h
    obtain ⟨a, dx, fs, rfl, ha, q⟩ := h
    obtain rfl : v = Value.ref a := ry
    obtain ⟨mA, J, _⟩ := ins_get I.hok ha
    obtain ⟨od, J, _⟩ := J.look
    show wpAny (model X.prog X.w) X.A (do return .bool (← contains (.ref a) u)) (EP X pins σ Q) X.xe s
    refine wpAny_bind (inO_run I.kIn J hm.at_ hm.fn (notSays _ _) (wpAny_mono (DXE.run2 G hr I.env0 hb passes_f I (show RelV (V.ref a) (Value.ref a) from rfl) rx q) (fun w s' z => ?_) fun _ _ e => e))
    obtain ⟨z', H', I', rz, b, eb, qz⟩ := z
    subst eb
    obtain rfl : w = Value.bool b := rz
    exact ⟨b, rfl, wpAny_pure ⟨.bl b, H', I', rfl, qz⟩⟩
  · intro pins s σ H x y u v Q I rx ry h
    obtain ⟨a, dx, fs, rfl, ha, q⟩ := h
    obtain rfl : v = Value.ref a := ry
    obtain ⟨mA, J, _⟩ := ins_get I.hok ha
    obtain ⟨od, J, _⟩ := J.look
    show wpAny (model X.prog X.w) X.A (do return .bool (!(← contains (.ref a) u))) (EP X pins σ Q) X.xe s
    refine wpAny_bind (inO_run I.kIn J hm.at_ hm.fn (notSays _ _) (wpAny_mono (DXE.run2 G hr I.env0 hb passes_f I (show RelV (V.ref a) (Value.ref a) from rfl) rx q) (fun w s' z => ?_) fun _ _ e => e))
    obtain ⟨z', H', I', rz, b, eb, qz⟩ := z
    subst eb
    obtain rfl : w = Value.bool b := rz
    exact ⟨b, rfl, wpAny_pure ⟨.bl (!b), H', I', rfl, qz⟩⟩
theorem ro_in {neg : Bool} : RO2 K F (rInOwn K (clsAt K cl) neg (spD K F.T sp)) (oInOwn cl (fun b => if neg then !b else b) sp) := fun M S H x y v u P k a b p Q c => by
  unfold oInOwn at p
  split at p
  · rename_i c0 fs e1
    obtain ⟨rfl, p⟩ := p
    obtain ⟨b0, dx, vs, rfl, h1, h2⟩ := insOf_ok k.cell b e1
    refine ⟨b0, dx, vs, rfl, h1, ?_⟩
    exact call_sp0 k (.cons b (.cons a .nil)) p fun z H' w S' ⟨r, er, pr⟩ st hw => by
      subst er
      obtain rfl := hw.to_d.to_bl
      exact ⟨r, rfl, c _ H' _ S' pr st (.d (.bl _))⟩
  · exact p.elim
theorem ob_inOwn (eK : X.K = K) (hm : Meth K (clsAt K cl) "__contains__" f) (G : FnOk X.prog X.w K X.mg X.base (L2N.CX X.prog X.w) k f fd ps (spD K F.T sp)) (hr : Room k X.A) (hb : L2.Binds K fd ps []) : OB X K F (compareOp .In) (oInOwn cl id sp) := ⟨_, (op_inOwn eK hm G hr hb).1, ro_in (neg := false)⟩
end
end DX

set_option Elab.async false
set_option linter.all false
set_option maxRecDepth 100000
namespace DX
open PySem PySem.Spec PyProof.Rows L2
structure SMet (K : PySem.W.Frag) (C : Addr) (m : PySem.Str) (p g : Addr) : Prop where
  rd : ClX.CRead K C (.type "type")
  at_ : PySem.W.findCls K (.ref C) (.type "type") m = some (.get (.builtin "staticmethod.__get__") (.ref p) .none (.ref C))
  rc : ∃ rest, PySem.W.recIn K p "staticmethod" = some (.ref g :: rest)
  kp : PySem.W.keepIn K (.ref g) = true
def smB (K : PySem.W.Frag) (p g : Addr) : Bool := match PySem.W.recIn K p "staticmethod" with
  | some (.ref f :: _) => f == g
  | _ => false
theorem smB_ok {K : PySem.W.Frag} {p g : Addr} (h : smB K p g = true) : ∃ rest, PySem.W.recIn K p "staticmethod" = some (.ref g :: rest) := by
  unfold smB at h
  split at h
  · rename_i f rest e
    rw [e, beq_iff_eq.mp h]
    exact ⟨rest, rfl⟩
  · cases h
section
variable {X : Cx} {K : PySem.W.Frag} {F : Fr} {e : Expr} {es : List Expr} {y : PySem.Str} {C p g : Addr} {sp : DSp} {mr mk : AM} {np apos pos : Pos}
theorem getsm_ok {pins : List (Addr × Obj)} {σ : L2.St} {H : Hp} {s : Shared} {m : PySem.Str} {pl : Sem Bool} {A : Around} {E : Value → Shared → Prop} {Q : Value × List Value → Shared → Prop} (I : Inv X pins σ H s) (c : SMet X.K C m p g)
    (h : ∀ s', Inv X pins σ H s' → Q (.ref g, []) s') : wpAny (model X.prog X.w) A (getMethod (.ref C) m pl) Q E s := by
  obtain ⟨rest, hp⟩ := c.rc
  exact PySem.W.method_cls I.kIn c.rd.ga (PySem.W.cls_bind I.kIn c.rd.rd c.at_ (wpAny_call (PySem.W.sm_get (s := { s with toks := s.toks + 1 }) I.kIn hp (PySem.W.handed_on rfl (h _ (I.tok _))))))
theorem je_stat {m cl : String} {pl : Sem Bool} (eK : X.K = K) (c : SMet K (clsAt K cl) (Str.ofString m) p g) (R : Rn X K F (.ref g) none [] sp) (hc : PE X (.Name y np) (tC (.ref (clsAt K cl)))) (ja : JA X K F (e :: es) mr)
    (hst : starEach (e :: es) X.env = (false, eval e X.env) :: starEach es X.env := by rfl) (hpl : (backTo pos (starEach es X.env)).any (·.1) = false := by rfl)
    (ht : eval (.Call (.Attribute (.Name y np) (Str.ofString m) apos) (e :: es) [] pos) X.env = (do
      let ov ← eval (.Name y np) X.env
      standAt apos.atName
      let (f, first) ← holding [ov] (getMethod ov (Str.ofString m) pl)
      callWith pos f first (backTo pos (starEach (e :: es) X.env)) (backToKw pos (keywordEach [] X.env))) := by rfl) :
    JE X K F (.Call (.Attribute (.Name y np) (Str.ofString m) apos) (e :: es) [] pos) (mCall sp mr) := by
  subst eK
  intro δ S P q M σ H k xx Q cc pins s I
  refine PySem.W.methodCall_KW (pl := pl) (thn (hc.run pins s σ H (fun v H1 => v = .ref (clsAt X.K cl) ∧ H1 = H) I ⟨rfl, rfl⟩) fun u s1 ⟨v, H1, I1, rx, ev, eh⟩ => ?_) ht
  subst ev eh
  obtain rfl : u = Value.ref (clsAt X.K cl) := rx
  refine getsm_ok I1 c fun s2 I2 => ?_
  refine PySem.W.callWith_K (first := []) (h₀ := X.base) I.ok.mod.kin c.kp (thn (ja δ S _ q M σ H1 k xx (fun vs H2 => ∃ ws S2, sp ws S2 P (fun y T => F.X y δ T) ∧ St X.K F M S H1 S2 H2 ∧ Wvs X.K (gS M S2 H2) vs ws) (fun vs H1 ws S1 p s v => ⟨ws, S1, p, s, v⟩) pos pins s2 I2) fun us s3 ⟨vs2, H2, I3, r, ws, S2, p2, st2, v2⟩ => ⟨I3.kIn, ?_⟩) hst hpl
  exact R M S2 H2 σ δ ws [] vs2 [] P st2.ok (st2.slots xx) v2 .nil (fun _ z => nomatch z) rfl (by rw [List.append_nil]; exact p2) pins s3 us [] Q I3 r .nil fun v H' w S' pw s3 v3 => cc v H' w S' pw (st2.trans s3) v3
theorem je_statK0 {m cl : String} {n : Nat} {ks : List PySem.Str} {kws : List Keyword} {pl : Sem Bool} {jj : Nat} (eK : X.K = K) (c : SMet K (clsAt K cl) (Str.ofString m) p g) (R : Rn X K F (.ref g) (some n) ks sp) (hc : PE X (.Name y np) (tC (.ref (clsAt K cl)))) (jk : JK X K F kws mk)
    (hj : ks.length = jj := by rfl) (hks : (backToKw pos (keywordEach kws X.env)).filterMap (·.1) = ks := by rfl)
    (hall : (backToKw pos (keywordEach kws X.env)).all (·.1.isSome) = true := by rfl) (hpl : ((backTo pos (starEach [] X.env)).any (·.1) || (backToKw pos (keywordEach kws X.env)).any (·.1.isNone)) = false := by rfl)
    (ht : eval (.Call (.Attribute (.Name y np) (Str.ofString m) apos) [] kws pos) X.env = (do
      let ov ← eval (.Name y np) X.env
      standAt apos.atName
      let (f, first) ← holding [ov] (getMethod ov (Str.ofString m) pl)
      callWith pos f first (backTo pos (starEach [] X.env)) (backToKw pos (keywordEach kws X.env))) := by rfl) :
    JE X K F (.Call (.Attribute (.Name y np) (Str.ofString m) apos) [] kws pos) (mCallK n jj sp aNil mk) := by
  subst hj
  subst eK
  intro δ S P q M σ H k xx Q cc pins s I
  refine PySem.W.methodCall_KW (pl := pl) (thn (hc.run pins s σ H (fun v H1 => v = .ref (clsAt X.K cl) ∧ H1 = H) I ⟨rfl, rfl⟩) fun u s1 ⟨v, H1, I1, rx, ev, eh⟩ => ?_) ht
  subst ev eh
  obtain rfl : u = Value.ref (clsAt X.K cl) := rx
  refine getsm_ok I1 c fun s2 I2 => ?_
  refine PySem.W.callWith_KW0 (first := []) (h₀ := X.base) I.ok.mod.kin c.kp hall ?_ hpl
  refine thn (jk δ S _ q M σ H1 k xx (fun vs' H3 => ∃ zs S3, (([] : List W).length = n ∧ zs.length = ks.length ∧ sp ([] ++ zs) S3 P (fun y T => F.X y δ T)) ∧ St X.K F M S H1 S3 H3 ∧ Wvs X.K (gS M S3 H3) vs' zs) (fun vs H1 ws S1 p s v => ⟨ws, S1, p, s, v⟩) pos pins s2 I2) fun uz s3 ⟨vs', H3, I3, rz, zs, S3, ⟨q1, q2, q3⟩, st3, v3⟩ => ⟨I3.kIn, ?_⟩
  rw [hks]
  exact R M S3 H3 σ δ [] zs [] vs' P st3.ok (st3.slots xx) .nil v3 (fun j z => by cases z; exact q1) q2 q3 pins s3 [] uz Q I3 .nil rz fun v H' w S' pw s4 v4 => cc v H' w S' pw (st3.trans s4) v4
end
end DX

set_option Elab.async false
set_option linter.all false
set_option maxRecDepth 100000
namespace DLS
open PySem PySem.Spec PyProof.Rows L2
abbrev newSet (w : World) : Obj := { cls := .type "set", dict := none, data := .set #[] 0 (.fresh 0 0 (!w.params.followText "set-order")) }
def Filled (P : Program) (w : World) (h0 : Heap) (S : Addr) (ks : List (Addr × List Int)) (h' : Heap) : Prop :=
  (∃ L es ep t, SetTR P w h' S L es ep t ∧ Got ks ks.length L) ∧ ∀ b o, h0.get? b = some o → h'.get? b = some o
section
variable {P : Program} {w : World} {A : Around} {E : Value → Shared → Prop}
set_option maxHeartbeats 3200000 in
theorem init_rowsT {l : Addr} {items : Array Value} (ks : List (Addr × List Int)) {h0 : Heap} {g : Array GenState} {d : Drawn} {tk : Nat} {os : OsState} (hh2 : A.in1.handled = none) (hl : h0.IsTuple l items)
    (hit : items.toList = ks.map fun p => Value.ref p.1) (hk : ∀ p ∈ ks, IsT P w h0 p.2 p.1) (hfew : ks.length < 64) (hu : A.in1.units < cLine) {R : PySem.Fin → Shared → Prop}
    (done : ∀ (h' : Heap) (tk' : Nat), Filled P w h0 h0.objs.size ks h' → R (.done (.ret .none)) ⟨h', g, d, tk', os⟩) :
    wpAny (model P w) A (Builtin.«set.__init__» ⟨[.ref h0.objs.size, .ref l], []⟩) R E ⟨h0.push (newSet w), g, d, tk, os⟩ := by
  have src := hl
  obtain ⟨⟨kc, kd, kx, ks'⟩, at0, e1, nl, e2⟩ := hl
  simp only at e1 e2
  subst e1
  subst e2
  have old : ∀ b o, h0.get? b = some o → (h0.push (newSet w)).get? b = some o := fun b o e => Heap.get?_push_of_some _ e
  have at1 := old _ _ at0
  have n1 := F.sub_tuple_set
  have n2 := F.sub_tuple_frozenset
  have n3 : (Value.type "tuple" == Value.type "dict") = false := by decide
  have there : (h0.push (newSet w)).get? h0.objs.size = some (newSet w) := Heap.get?_push_size _ rfl
  have below : l < h0.objs.size := Heap.lt_size at0
  have size1 : (h0.push (newSet w)).objs.size = h0.objs.size + 1 := Heap.size_push ..
  have apart : l ≠ (h0.push (newSet w)).objs.size := by
    rw [size1]
    exact Nat.ne_of_lt (Nat.lt_succ_of_lt below)
  have hits : items.size = ks.length := by
    rw [← Array.length_toList, hit, List.length_map]
  have nth : ∀ (i : Nat) (v : Value), items[i]? = some v → ∃ p, ks[i]? = some p ∧ v = .ref p.1 := fun i v hv => by
    rw [← Array.getElem?_toList, hit, List.getElem?_map] at hv
    cases q : ks[i]? with
    | none =>
      rw [q] at hv
      cases hv
    | some p =>
      rw [q] at hv
      exact ⟨p, rfl, (Option.some.inj hv).symm⟩
  have free : ∀ b, h0.objs.size ≤ b → h0.get? b = none := fun b hb => by
    cases q : h0.get? b with
    | none => rfl
    | some o => exact absurd (Heap.lt_size q) (Nat.not_lt.mpr hb)
  unfold Builtin.«set.__init__» noKeywords Builtin.Frozenset.updateFrom
  generalize hit2 : pyIter = walk
  wp_walk
  subst hit2
  refine wpAny_pyIter_tuple ⟨_, at1, rfl, nl, rfl⟩ ?_
  refine wpAny_bind (wpAny_runValue ?_)
  have off : h0.objs.size ∉ [(h0.push (newSet w)).objs.size, l] := by
    rw [size1]
    simp only [List.mem_cons, List.not_mem_nil, or_false, not_or]
    exact ⟨Nat.ne_of_lt (Nat.lt_succ_self _), Nat.ne_of_gt below⟩
  refine set_update_tups ((Walks.tuple hh2 _ l apart items).toS) h0.objs.size off ks hits hfew nth h0 hk (free _ (Nat.le_refl _)) (fun b hb => free b ?_) hu (items.size - 0) 0 ⟨(h0.push (newSet w)).push { cls := .type "tuple_iterator", data := .fields #[.ref l, .int 0 0] }, g, d, tk, os⟩ (by omega) (Nat.zero_le _)
    ⟨⟨_, Heap.get?_push_size _ rfl, rfl, rfl⟩, src.push _ |>.push _⟩ (fun b o e => Heap.get?_push_of_some _ (old b o e)) ⟨[], #[], 0, _, setTR_fresh (Heap.get?_push_of_some _ there), Got.zero ks⟩ ?_
  · rw [List.mem_singleton.mp hb, size1]
    exact Nat.le_succ _
  · rintro ⟨h', g2, d', tk', os'⟩ L es ep t mv full got kept
    have q1 : g2 = g := mv.gens
    have q2 : d' = d := mv.drawn
    have q3 : os' = os := mv.os
    subst q1 q2 q3
    refine wpAny_pure ?_
    rw [hits] at got
    exact wpAny_pure (done h' tk' ⟨⟨L, es, ep, t, full, got⟩, kept⟩)
theorem call_set_rowsT {l : Addr} {items : Array Value} {s : Shared} (ks : List (Addr × List Int)) {Q : Value → Shared → Prop} (hh : A.handled = none) (hl : s.heap.IsTuple l items) (hit : items.toList = ks.map fun p => Value.ref p.1)
    (hk : ∀ p ∈ ks, IsT P w s.heap p.2 p.1) (hfew : ks.length < 64) (hu : A.units + 8 < cLine)
    (done : ∀ (h' : Heap) (tk : Nat), Filled P w s.heap s.heap.objs.size ks h' → Q (.ref s.heap.objs.size) { s with heap := h', toks := tk }) : wpAny (model P w) A (call (.type "set") [.ref l]) Q E s := by
  obtain ⟨hp, g, d, tk, os⟩ := s
  have T := F.called_set
  obtain ⟨_, _, m1⟩ := T.mro
  have m2 := T.made
  have m3 := T.sub
  have m4 := T.notType
  have m5 := T.canCreate
  have m6 := F.typeCall_set_1 (.ref l)
  refine wpAny_call (codeAny_of_tree ?_)
  show wpAny _ _ (callAny (.type "set") _) _ _ _
  refine wpAny_pure ⟨Code.quiet_builtin _ (by decide +kernel), codeAny_builtin F.entry_type_call ?_⟩
  rw [Around.under_plain (weight_type_call_type "set" [.ref l] []) rfl]
  repeat (any_goals (first | assumption | wp_step))
  refine codeAny_mono (code_set_led1 (.ref l) (E := E) (Q₁ := fun o s1 => o = .ref hp.objs.size ∧ s1 = ⟨hp.push (newSet w), g, d, tk, os⟩) ⟨rfl, rfl⟩) ?_
  intro r s1 hr
  rcases r with e | fl
  · exact hr
  rcases fl with _ | _ | _ | o
  · exact hr.elim
  · exact hr.elim
  · exact hr.elim
  obtain ⟨rfl, rfl⟩ := hr
  have ty : Shared.TypeIs ⟨hp.push (newSet w), g, d, tk, os⟩ (.ref hp.objs.size) "set" := ⟨_, Heap.get?_push_size _ rfl, rfl⟩
  have i1 := T.init.lookup
  have i2 := T.init.bind (.ref hp.objs.size)
  repeat (any_goals (first | assumption | wp_step))
  refine codeAny_mono (codeAny_call_builtin (R := wants (fun r s2 => r = .none ∧ ∃ h' tk', s2 = ⟨h', g, d, tk', os⟩ ∧ Filled P w hp hp.objs.size ks h') E) T.init.plain F.entry_set_init (check_set_init_1 ty ?_)) ?_
  · refine init_rowsT ks ?_ hl hit hk hfew ?_ fun h' tk' f => ⟨rfl, h', tk', rfl, f⟩
    · simp [hh]
    · first | (show A.units + _ < cLine; omega) | (simp [Around.in1]; omega)
  · intro r s2 hr
    rcases r with e | fl
    · exact hr
    rcases fl with _ | _ | _ | o
    · exact hr.elim
    · exact hr.elim
    · exact hr.elim
    obtain ⟨rfl, h', tk', rfl, f⟩ := hr
    repeat (any_goals (first | assumption | wp_step))
    exact done h' tk' f
end
end DLS

namespace DX
open PySem L2
abbrev tupI (ns : List Int) : D := .tup (ns.map D.int)
section
variable {K : PySem.W.Frag} {X : Cx}
theorem dvs_ints {G : Hp} : ∀ {vs : List V} {ns : List Int}, DVs K G vs (ns.map D.int) → vs = ns.map V.int
  | _, [], .nil => rfl
  | _, n :: ns, .cons h r => by
    rw [dvs_ints r, h.to_int]
    rfl
theorem dvs_of_ints {G : Hp} : ∀ ns : List Int, DVs K G (ns.map V.int) (ns.map D.int)
  | [] => .nil
  | n :: ns => .cons (.int n) (dvs_of_ints ns)
theorem DVs.perm {G : Hp} {ys xs : List V} (p : ys.Perm xs) : ∀ {ds : List D}, DVs K G xs ds → ∃ es, es.Perm ds ∧ DVs K G ys es := by
  induction p with
  | nil =>
    intro ds h
    exact ⟨ds, .refl _, h⟩
  | cons x _ ih =>
    intro ds h
    cases h with
    | cons a r =>
      obtain ⟨es, h1, h2⟩ := ih r
      exact ⟨_ :: es, h1.cons _, .cons a h2⟩
  | swap x y l =>
    intro ds h
    cases h with
    | cons a r =>
      cases r with
      | cons b r => exact ⟨_, .swap .., .cons b (.cons a r)⟩
  | trans _ _ ih1 ih2 =>
    intro ds h
    obtain ⟨es, h1, h2⟩ := ih2 h
    obtain ⟨fs, h3, h4⟩ := ih1 h2
    exact ⟨fs, h3.trans h1, h4⟩
theorem perm_map {α β : Type} {f : α → β} {g : β → α} (hg : ∀ x, g (f x) = x) {es : List β} {l : List α} (p : es.Perm (l.map f)) : ∃ m : List α, es = m.map f ∧ m.Perm l := by
  refine ⟨es.map g, ?_, ?_⟩
  · have h : ∀ e ∈ es, f (g e) = e := fun e he => by
      obtain ⟨x, _, h⟩ := List.mem_map.mp (p.mem_iff.mp he)
      rw [← h, hg]
    rw [List.map_map]
    have e : es.map (f ∘ g) = es.map id := List.map_congr_left h
    rw [e, List.map_id]
  · have q := p.map g
    rw [List.map_map] at q
    have e : l.map (g ∘ f) = l := by
      have : (g ∘ f) = id := funext hg
      rw [this, List.map_id]
    rw [e] at q
    exact q
def unI : D → List Int
  | .tup l => l.map fun d => match d with
    | .int i => i
    | _ => 0
  | _ => []
theorem unI_tup (ns : List Int) : unI (tupI ns) = ns := by
  show (ns.map D.int).map _ = ns
  rw [List.map_map]
  have e : ns.map ((fun d => match d with | .int i => i | _ => 0) ∘ D.int) = ns.map id := List.map_congr_left fun x _ => rfl
  exact e.trans (List.map_id _)
theorem DV.tupI_inv {G H : Hp} (s : Sub G H) {v : V} {ns : List Int} (h : DV K G v (tupI ns)) : TupI K H v ns := by
  obtain ⟨a, xs, rfl, h1, h2⟩ := h.to_tup
  cases dvs_ints h2
  exact ⟨a, rfl, s.t h1⟩
def rSortR (K : PySem.W.Frag) : List V → Hp → VK → Prop := fun vs H Q => ∃ d B, 1 ≤ d ∧ rSortU K d B vs H Q
theorem call_sortR : CallR X (.builtin "sorted") (rSortR X.K) := by
  intro pins s σ H vs us Q I r h
  obtain ⟨d, B, hd, h⟩ := h
  exact cr_sortT hd pins s σ H vs us Q I r h
end
def lle : List Int → List Int → Bool
  | [], _ => true
  | _ :: _, [] => false
  | a :: r, b :: q => decide (a < b) || (decide (a = b) && lle r q)
theorem lle_trans : ∀ a b c : List Int, lle a b = true → lle b c = true → lle a c = true
  | [], _, _, _, _ => rfl
  | _ :: _, [], _, h, _ => by simp [lle] at h
  | _ :: _, _ :: _, [], _, h => by simp [lle] at h
  | a :: r, b :: q, c :: p, h, k => by
    simp [lle] at h k ⊢
    rcases h with h | ⟨h, h'⟩ <;> rcases k with k | ⟨k, k'⟩
    · left; omega
    · left; omega
    · left; omega
    · right; exact ⟨by omega, lle_trans r q p h' k'⟩
theorem lle_total : ∀ a b : List Int, lle a b || lle b a
  | [], _ => rfl
  | _ :: _, [] => rfl
  | a :: r, b :: q => by
    have := lle_total r q
    simp [lle] at this ⊢
    rcases Int.lt_trichotomy a b with h | h | h
    · left; left; exact h
    · subst h
      rcases this with h | h
      · left; right; exact ⟨rfl, h⟩
      · right; right; exact ⟨rfl, h⟩
    · right; left; exact h
theorem lle_anti : ∀ a b : List Int, lle a b = true → lle b a = true → a = b
  | [], [], _, _ => rfl
  | [], _ :: _, _, h => by simp [lle] at h
  | _ :: _, [], h, _ => by simp [lle] at h
  | a :: r, b :: q, h, k => by
    simp [lle] at h k
    rcases h with h | ⟨h, h'⟩ <;> rcases k with k | ⟨k, k'⟩
    · omega
    · omega
    · omega
    · rw [h, lle_anti r q h' k']
theorem lle_of_code {B : Int} : ∀ a b : List Int, a.length = b.length → TS.Bd B a → TS.Bd B b → TS.code B a ≤ TS.code B b → lle a b = true
  | [], _, _, _, _, _ => rfl
  | _ :: _, [], h, _, _, _ => by simp at h
  | a :: r, b :: q, h, h1, h2, h3 => by
    have hl : r.length = q.length := by simpa using h
    simp [lle]
    rcases Int.lt_trichotomy a b with k | k | k
    · exact .inl k
    · subst k
      refine .inr ⟨rfl, lle_of_code r q hl h1.tail h2.tail ?_⟩
      have := (TS.code_same (B := B) (d := a) hl.symm : TS.code B (a :: q) < TS.code B (a :: r) ↔ _)
      omega
    · have := TS.code_lt (B := B) hl.symm h2.tail h1.tail k
      omega
theorem sorted_unique {α : Type} {r : α → α → Prop} (anti : ∀ a b, r a b → r b a → a = b) : ∀ l1 l2 : List α, l1.Perm l2 → l1.Pairwise r → l2.Pairwise r → l1 = l2
  | [], l2, p, _, _ => (List.nil_perm.mp p).symm
  | a :: l1, [], p, _, _ => by simpa using p.length_eq
  | a :: l1, b :: l2, p, s, t => by
    have e : a = b := by
      rcases List.mem_cons.mp (p.mem_iff.mp (List.mem_cons_self ..)) with h | h
      · exact h
      · rcases List.mem_cons.mp (p.mem_iff.mpr (List.mem_cons_self ..)) with k | k
        · exact k.symm
        · exact anti a b ((List.pairwise_cons.mp s).1 b k) ((List.pairwise_cons.mp t).1 a h)
    subst e
    rw [sorted_unique anti l1 l2 (List.perm_cons a |>.mp p) (List.pairwise_cons.mp s).2 (List.pairwise_cons.mp t).2]
def srt (l : List (List Int)) : List (List Int) := l.mergeSort lle
theorem srt_perm (l : List (List Int)) : (srt l).Perm l := List.mergeSort_perm l lle
theorem srt_pw (l : List (List Int)) : (srt l).Pairwise (fun a b => lle a b = true) := List.pairwise_mergeSort (lle_trans) (lle_total) l
theorem srt_eq {l ys : List (List Int)} (p : ys.Perm l) (s : ys.Pairwise (fun a b => lle a b = true)) : ys = srt l :=
  sorted_unique lle_anti _ _ (p.trans (srt_perm l).symm) s (srt_pw l)
def dd : List (List Int) → List (List Int)
  | [] => []
  | a :: l => if a ∈ l then dd l else a :: dd l
theorem mem_dd : ∀ {l : List (List Int)} {a : List Int}, a ∈ dd l ↔ a ∈ l
  | [], _ => Iff.rfl
  | b :: l, a => by
    unfold dd
    split
    · rename_i h
      rw [mem_dd (l := l), List.mem_cons]
      constructor
      · exact .inr
      · rintro (rfl | k)
        · exact h
        · exact k
    · rw [List.mem_cons, List.mem_cons, mem_dd (l := l)]
theorem dd_nodup : ∀ l : List (List Int), (dd l).Nodup
  | [] => .nil
  | b :: l => by
    unfold dd
    split
    · exact dd_nodup l
    · rename_i h
      exact List.nodup_cons.mpr ⟨fun z => h (mem_dd.mp z), dd_nodup l⟩
theorem dd_len : ∀ l : List (List Int), (dd l).length ≤ l.length
  | [] => Nat.le_refl _
  | b :: l => by
    have := dd_len l
    unfold dd
    split
    · exact Nat.le_succ_of_le this
    · simpa using this
def sset (l : List (List Int)) : List (List Int) := srt (dd l)
theorem mem_sset {l : List (List Int)} {a : List Int} : a ∈ sset l ↔ a ∈ l := by
  unfold sset
  rw [(srt_perm _).mem_iff, mem_dd]
theorem mem_srt {l : List (List Int)} {a : List Int} : a ∈ srt l ↔ a ∈ l := (srt_perm _).mem_iff
theorem sset_nodup (l : List (List Int)) : (sset l).Nodup := (srt_perm _).nodup_iff.mpr (dd_nodup l)
theorem sset_pw (l : List (List Int)) : (sset l).Pairwise (fun a b => lle a b = true) := srt_pw _
theorem sset_len (l : List (List Int)) : (sset l).length ≤ l.length := by
  rw [sset, (srt_perm _).length_eq]
  exact dd_len l
theorem srt_len (l : List (List Int)) : (srt l).length = l.length := (srt_perm _).length_eq
theorem sset_eq {l ys : List (List Int)} (n : ys.Nodup) (m : ∀ a, a ∈ ys ↔ a ∈ l) (s : ys.Pairwise (fun a b => lle a b = true)) : ys = sset l :=
  srt_eq ((List.perm_ext_iff_of_nodup n (dd_nodup l)).mpr fun a => (m a).trans mem_dd.symm) s
def rowsOk (d : Nat) (B : Int) (rows : List (List Int)) : Prop := 1 ≤ d ∧ rows.length < 64 ∧ ∀ r ∈ rows, r.length = d ∧ TS.Bd B r
section
variable {P : Program} {w : World} {K : PySem.W.Frag} {X : Cx} {F : Fr} {δ : List SD}
def rSetOfTT (K : PySem.W.Frag) (P : Program) (w : World) : List V → Hp → VK → Prop := fun xs H Q => ∃ (l : Addr) (ks : List (Addr × List Int)), xs = [V.ref l] ∧ SqT K H l (ks.map fun p => V.ref p.1) ∧ (∀ p ∈ ks, SqT K H p.1 (p.2.map V.int)) ∧ ks.length < 64 ∧
  ∀ a L, H a = none → (∀ p ∈ L, p ∈ ks) → (∀ p ∈ ks, p.2 ∈ L.map (·.2)) → Q (.ref a) (upd H a (SetTO P w a L))
theorem cr_setOfTT (hc : X.calm = true) (hu : X.A.units + 64 < cLine) : CallR X (.type "set") (rSetOfTT X.K X.prog X.w) := by
  intro pins s σ H xs us Q I r h
  obtain ⟨l, ks, rfl, hl, hk, hf, q⟩ := h
  rw [Vals.ref1 r]
  obtain ⟨its, rv, hz, hd⟩ := I.tuple hl
  have hn : H s.heap.objs.size = none := I.hok.fresh (Nat.le_refl _)
  obtain ⟨o, ho, hcl, n, hdd⟩ := hz
  refine DLS.call_set_rowsT (P := X.prog) (w := X.w) (items := its.toArray) ks (I.ok.hd hc) ⟨o, ho, hcl, n, hdd⟩ (by simpa using refs_of_vals rv) (fun p hp => I.isT (hk p hp)) hf (by omega) fun h' tk f => ?_
  obtain ⟨⟨L, es, ep, t, R, g⟩, k⟩ := f
  refine ⟨.ref s.heap.objs.size, upd H s.heap.objs.size (SetTO X.prog X.w s.heap.objs.size L), I.laid (t' := tk) k (Nat.le_refl _) (setTO_new R.t0), rfl, q _ L hn (fun p hp => ?_) fun p hp => ?_⟩
  · exact List.mem_of_mem_take (g.sub p hp)
  · exact g.all p (by rw [List.take_length]; exact hp)
def rSetA (K : PySem.W.Frag) (P : Program) (w : World) : List V → Hp → VK → Prop := fun xs H Q => rSetOfT K P w xs H Q ∨ rSetOfTT K P w xs H Q
theorem call_setA (hc : X.calm = true) (hu : X.A.units + 64 < cLine) : CallR X (.type "set") (rSetA X.K X.prog X.w) := CallR.or (cr_setOfT hc hu) (cr_setOfTT hc hu)
def rSortedA (K : PySem.W.Frag) (P : Program) (w : World) : List V → Hp → VK → Prop := fun xs H Q => rSortR K xs H Q ∨ rSortedT K P w xs H Q
theorem call_sortedA (hc : X.calm = true) : CallR X (.builtin "sorted") (rSortedA X.K X.prog X.w) := CallR.or call_sortR (cr_sortedT hc)
theorem DVs.keyed {G : Hp} : ∀ {xs : List V} {rows : List (List Int)}, DVs K G xs (rows.map tupI) → ∃ ks : List (Addr × List Int), xs = ks.map (fun p => V.ref p.1) ∧ rows = ks.map (·.2) ∧ ∀ p ∈ ks, SqT K G p.1 (p.2.map V.int)
  | _, [], .nil => ⟨[], rfl, rfl, fun p hp => by cases hp⟩
  | _, ns :: rows, .cons a r => by
    obtain ⟨ks, h1, h2, h3⟩ := DVs.keyed r
    obtain ⟨x, xs, rfl, h4, h5⟩ := a.to_tup
    cases dvs_ints h5
    refine ⟨(x, ns) :: ks, by rw [h1]; rfl, by rw [h2]; rfl, fun p hp => ?_⟩
    rcases List.mem_cons.mp hp with rfl | hp
    · exact h4
    · exact h3 p hp
theorem DVs.unkeyed {G : Hp} : ∀ {ks : List (Addr × List Int)}, (∀ p ∈ ks, SqT K G p.1 (p.2.map V.int)) → DVs K G (ks.map fun p => V.ref p.1) ((ks.map (·.2)).map tupI)
  | [], _ => .nil
  | p :: ks, h => .cons (.tup (h p (List.mem_cons_self ..)) (dvs_of_ints _)) (DVs.unkeyed fun q hq => h q (List.mem_cons_of_mem _ hq))
end
def mSortR (ma : EM) : EM := fun δ S P X => ma δ S (fun w S1 => ∃ rows, seqW S1 w = some (rows.map fun r => .d (tupI r)) ∧ (lseq S1 w).isSome = true ∧ (∃ d B, rowsOk d B rows) ∧ P (.d (.lst ((srt rows).map tupI))) S1) X
def mSortS (ma : EM) : EM := fun δ S P X => ma δ S (fun w S1 => ∃ rows, seqW S1 w = some (rows.map fun r => .d (tupI r)) ∧ (∃ d B, rowsOk d B rows) ∧ P (.d (.lst ((sset rows).map tupI))) S1) X
section
variable {X : Cx} {K : PySem.W.Frag} {F : Fr} {P : Program} {w : World} {e a : Expr} {ma : EM}
theorem wvs_rows {G : Hp} {vs : List V} {rows : List (List Int)} (h : Wvs K G vs (rows.map fun r => W.d (tupI r))) : DVs K G vs (rows.map tupI) := by
  have e : (rows.map fun r => W.d (tupI r)) = (rows.map tupI).map W.d := by rw [List.map_map]; rfl
  rw [e] at h
  exact h.ds
theorem je_sortS (h : PE X e (tCB (rSortedA K P w) (tCons (tCB (rSetA K P w) (tCons (tW X a) tNil)) tNil))) (ja : JE X K F a ma) : JE X K F e (mSortS ma) := .of h fun δ S P0 q M σ H k x Q c => ja δ S _ q M σ H k x _ fun v H1 wv S1 p1 s1 v1 => by
  obtain ⟨rows, es, ⟨d, B, hd, h64, hr⟩, q⟩ := p1
  obtain ⟨a0, xs, rfl, h1, h2⟩ := seqW_ok s1.ok.cell v1 es
  obtain ⟨ks, rfl, hks, hk⟩ := (wvs_rows h2).keyed
  have hT : ∀ p ∈ ks, SqT K H1 p.1 (p.2.map V.int) := fun p hp => gS_sub.t (hk p hp)
  have go : ∀ z L', H1 z = none → (∀ p ∈ L', p ∈ ks) → (∀ p ∈ ks, p.2 ∈ L'.map (·.2)) → (tNil σ (upd H1 z (SetTO P w z L')) fun vs H => (rSortedA K P w) (.ref z :: vs) H Q) := by
    intro z L' ha hs hm
    refine .inr ⟨z, L', d, B, rfl, upd_same, fun p hp => (Sub.upd ha).t (hT p (hs p hp)), hd, fun p hp => hr _ (by rw [hks]; exact List.mem_map.mpr ⟨p, hs p hp, rfl⟩), fun L2 p pm nd few pw hp => ?_⟩
    have k2 := s1.trans (St.new (o := SetTO P w z L') s1.ok ha)
    have k3 := k2.trans (St.new (o := .lst (L2.map fun q => V.ref q.1)) k2.ok hp)
    have el : L2.map (·.2) = sset rows := by
      refine sset_eq nd (fun r => ?_) (List.pairwise_map.mpr (List.Pairwise.imp_of_mem (fun {x y} hx hy hxy => ?_) pw))
      · rw [(pm.map (·.2)).mem_iff, hks]
        constructor
        · intro y
          obtain ⟨p, h1, h2⟩ := List.mem_map.mp y
          exact List.mem_map.mpr ⟨p, hs p h1, h2⟩
        · intro y
          obtain ⟨p, h1, h2⟩ := List.mem_map.mp y
          rw [← h2]
          exact hm p h1
      · have hx := hr x.2 (by rw [hks]; exact List.mem_map.mpr ⟨x, hs x (pm.mem_iff.mp hx), rfl⟩)
        have hy := hr y.2 (by rw [hks]; exact List.mem_map.mpr ⟨y, hs y (pm.mem_iff.mp hy), rfl⟩)
        exact lle_of_code _ _ (hx.1.trans hy.1.symm) hx.2 hy.2 hxy
    refine c _ _ _ S1 q k3 (.d (.lst (gS_new k2.ok hp fun ps y => by cases y) ?_))
    rw [← el]
    have g3 : Sub (gS M S1 H1) (gS M S1 (upd (upd H1 z (SetTO P w z L')) p (.lst (L2.map fun q => V.ref q.1)))) := (gS_mono (.upd ha)).trans (gS_mono (.upd hp))
    exact DVs.unkeyed fun p hp' => g3.t (hk p (hs p (pm.mem_iff.mp hp')))
  rw [hks, List.length_map] at h64
  rcases h1 with h1 | h1
  · exact .inl ⟨a0, ks, rfl, h1, hT, h64, fun z L' ha hs hm => go z L' ha hs hm⟩
  · exact .inr ⟨a0, ks, rfl, h1, hT, h64, fun z L' ha hs hm => go z L' ha hs hm⟩
theorem je_sortR (h : PE X e (tCB (rSortedA K P w) (tCons (tW X a) tNil))) (ja : JE X K F a ma) : JE X K F e (mSortR ma) := .of h fun δ S P0 q M σ H k x Q c => ja δ S _ q M σ H k x _ fun v H1 wv S1 p1 s1 v1 => by
  obtain ⟨rows, es, hl, ⟨d, B, hd, h64, hr⟩, q⟩ := p1
  obtain ⟨l0, el⟩ := Option.isSome_iff_exists.mp hl
  have el2 : l0 = rows.map fun r => W.d (tupI r) := by
    unfold seqW at es
    rw [el] at es
    exact Option.some.inj es
  subst el2
  obtain ⟨p, xs, rfl, h1, h2⟩ := lseq_ok s1.ok.cell v1 el
  have h2 := wvs_rows h2
  refine .inl ⟨d, B, hd, p, xs, rfl, sqL h1, by rw [h2.length, List.length_map]; exact h64, fun x hx => ?_, fun ys n hp hw hn => ?_⟩
  · obtain ⟨i, hi⟩ := List.getElem?_of_mem hx
    have hlt : i < rows.length := by
      have := (List.getElem?_eq_some_iff.mp hi).1
      rw [h2.length, List.length_map] at this
      exact this
    obtain ⟨v, g1, g2⟩ := h2.get (d := tupI rows[i]) (i := i) (by rw [List.getElem?_map, List.getElem?_eq_getElem hlt]; rfl)
    rw [hi] at g1
    cases g1
    exact ⟨rows[i], g2.tupI_inv gS_sub, hr _ (List.getElem_mem hlt)⟩
  · obtain ⟨es2, pe, hes⟩ := DVs.perm hp h2
    obtain ⟨ms, rfl, pm⟩ := perm_map unI_tup pe
    have pw : ms.Pairwise (fun a b => TS.code B a ≤ TS.code B b) := by
      have : ∀ {ys : List V} {ms : List (List Int)}, DVs K (gS M S1 H1) ys (ms.map tupI) → ys.Pairwise (fun x y => ∀ n m, TupI K H1 x n → TupI K H1 y m → TS.code B n ≤ TS.code B m) → ms.Pairwise (fun a b => TS.code B a ≤ TS.code B b) := by
        intro ys ms h
        induction ms generalizing ys with
        | nil => exact fun _ => .nil
        | cons m ms ih =>
          cases h with
          | cons a r =>
            intro w
            cases w with
            | cons w1 w2 =>
              refine .cons (fun b hb => ?_) (ih r w2)
              obtain ⟨i, hi⟩ := List.getElem?_of_mem hb
              obtain ⟨v, g1, g2⟩ := r.get (d := tupI b) (i := i) (by rw [List.getElem?_map, hi]; rfl)
              exact w1 v (List.mem_of_getElem? g1) m b (a.tupI_inv gS_sub) (g2.tupI_inv gS_sub)
      exact this hes hw
    have e : ms = srt rows := srt_eq pm (List.Pairwise.imp_of_mem (fun {a b} ha hb hab => by
      have ha := hr a (pm.mem_iff.mp ha)
      have hb := hr b (pm.mem_iff.mp hb)
      exact lle_of_code a b (ha.1.trans hb.1.symm) ha.2 hb.2 hab) pw)
    subst e
    exact c _ _ _ S1 q (s1.trans (St.new (o := .lst ys) s1.ok hn)) (.d (.lst (gS_new s1.ok hn fun ps y => by cases y) (hes.mono (gS_mono (.upd hn)))))
end
end DX

set_option Elab.async false
set_option linter.all false
set_option maxRecDepth 100000
namespace DX
open PySem L2
noncomputable section

structure ExD where
  C : String
  fs : List (String × D)
def ExD.w (e : ExD) : Exn := ⟨e.C, e.fs.map fun p => (p.1, .d p.2)⟩
inductive Dr (α : Type) where
  | ok (a : α) | ex (e : ExD) | no | dr (n : Int) (k : Int → Dr α)
def Dr.bind {α β : Type} (r : Dr α) (f : α → Dr β) : Dr β := match r with
  | .ok a => f a
  | .ex e => .ex e
  | .no => .no
  | .dr n k => .dr n fun d => (k d).bind f
def Dr.wp {α : Type} (r : Dr α) (P : α → Prop) (X : ExD → Prop) : Prop := match r with
  | .ok a => P a
  | .ex e => X e
  | .no => False
  | .dr n k => (1 ≤ n ∧ n < 2 ^ 64) ∧ ∀ d, 0 ≤ d → d < n → (k d).wp P X
def Dr.calm {α : Type} (r : Dr α) : Dr α := match r with
  | .ok a => .ok a
  | .ex _ => .no
  | .no => .no
  | .dr n k => .dr n fun d => (k d).calm
section
variable {α β γ : Type}
theorem Dr.bind_ok (a : α) (f : α → Dr β) : (Dr.ok a).bind f = f a := rfl
theorem Dr.bind_ex (e : ExD) (f : α → Dr β) : (Dr.ex e).bind f = .ex e := rfl
theorem Dr.bind_no (f : α → Dr β) : (Dr.no : Dr α).bind f = .no := rfl
theorem Dr.bind_dr (n : Int) (k : Int → Dr α) (f : α → Dr β) : (Dr.dr n k).bind f = .dr n fun d => (k d).bind f := rfl
theorem Dr.wp_ok (a : α) (P : α → Prop) (X : ExD → Prop) : (Dr.ok a).wp P X = P a := rfl
theorem Dr.wp_ex (e : ExD) (P : α → Prop) (X : ExD → Prop) : (Dr.ex e : Dr α).wp P X = X e := rfl
theorem Dr.wp_no (P : α → Prop) (X : ExD → Prop) : (Dr.no : Dr α).wp P X = False := rfl
theorem Dr.wp_dr (n : Int) (k : Int → Dr α) (P : α → Prop) (X : ExD → Prop) : (Dr.dr n k).wp P X = ((1 ≤ n ∧ n < 2 ^ 64) ∧ ∀ d, 0 ≤ d → d < n → (k d).wp P X) := rfl
theorem Dr.wp_bind (r : Dr α) (f : α → Dr β) (P : β → Prop) (X : ExD → Prop) : (r.bind f).wp P X = r.wp (fun a => (f a).wp P X) X := by
  induction r with
  | ok a => rfl
  | ex e => rfl
  | no => rfl
  | dr n k ih =>
    rw [Dr.bind_dr, Dr.wp_dr, Dr.wp_dr]
    simp only [ih]
theorem Dr.bind_assoc (r : Dr α) (f : α → Dr β) (g : β → Dr γ) : (r.bind f).bind g = r.bind fun a => (f a).bind g := by
  induction r with
  | ok a => rfl
  | ex e => rfl
  | no => rfl
  | dr n k ih =>
    rw [Dr.bind_dr, Dr.bind_dr, Dr.bind_dr]
    congr 1
    funext d
    exact ih d
theorem Dr.bind_pure (r : Dr α) : (r.bind fun a => Dr.ok a) = r := by
  induction r with
  | ok a => rfl
  | ex e => rfl
  | no => rfl
  | dr n k ih =>
    rw [Dr.bind_dr]
    congr 1
    funext d
    exact ih d
theorem Dr.wp.imp {r : Dr α} {P P' : α → Prop} {X X' : ExD → Prop} (h : r.wp P X) (hp : ∀ a, P a → P' a) (hx : ∀ e, X e → X' e) : r.wp P' X' := by
  induction r with
  | ok a => exact hp a h
  | ex e => exact hx e h
  | no => exact h.elim
  | dr n k ih => exact ⟨h.1, fun d h1 h2 => ih d (h.2 d h1 h2)⟩
theorem Dr.wp_calm {r : Dr α} {P : α → Prop} {X Y : ExD → Prop} (h : r.calm.wp P X) : r.wp P Y := by
  induction r with
  | ok a => exact h
  | ex e => exact h.elim
  | no => exact h.elim
  | dr n k ih => exact ⟨h.1, fun d h1 h2 => ih d (h.2 d h1 h2)⟩
end
open Classical in
noncomputable def must {α : Type} (c : Prop) (r : Dr α) : Dr α := if c then r else .no
def opt {α β : Type} (o : Option α) (f : α → Dr β) : Dr β := match o with
  | some a => f a
  | none => .no
theorem must_ok {α : Type} {c : Prop} {r : Dr α} (h : c) : must c r = r := if_pos h
theorem must_true {α : Type} {r : Dr α} : must True r = r := if_pos trivial
theorem opt_some {α β : Type} {a : α} {f : α → Dr β} : opt (some a) f = f a := rfl
theorem must_wp {α : Type} {c : Prop} {r : Dr α} {P : α → Prop} {X : ExD → Prop} (h : (must c r).wp P X) : c ∧ r.wp P X := by
  unfold must at h
  split at h
  · exact ⟨‹_›, h⟩
  · exact h.elim
theorem opt_wp {α β : Type} {o : Option α} {f : α → Dr β} {P : β → Prop} {X : ExD → Prop} (h : (opt o f).wp P X) : ∃ a, o = some a ∧ (f a).wp P X := by
  cases o with
  | none => exact h.elim
  | some a => exact ⟨a, rfl, h⟩
def BagOk (S : Store) (p c : Addr) : Prop := ∃ (ms : List Int) (i r z n : Int), S p = some (bagC c i r z n) ∧ S c = some (bagI ms) ∧ p ≠ c ∧ ms.length ≤ 63 ∧ 0 ≤ i ∧ 0 ≤ r ∧ 0 ≤ z ∧ z < 2147483629

def cellLike : D → Bool
  | .lst _ => true
  | .dct _ => true
  | .ins _ _ => true
  | .ty _ => true
  | _ => false
def cel (w : W) (d : D) : Prop := cellLike d = true → ∃ a, w = .ref a
abbrev cellFs : List String := ["trail"]
def cellF (f : String) : Bool := cellFs.contains f
mutual
inductive Ow (S : Store) : W → D → List Addr → Prop
  | d (x : D) : Ow S (.d x) x []
  | lst {a : Addr} {ds : List D} : S a = some (.lst (ds.map .d)) → Ow S (.ref a) (.lst ds) [a]
  | dct {a : Addr} {fs : List (Key × D)} : S a = some (.dct (fs.map fun p => (p.1, .d p.2))) → Ow S (.ref a) (.dct fs) [a]
  | obj {a : Addr} {C : String} {fs : List (String × W)} {gs : List (String × D)} {L : List Addr} : S a = some (.obj C fs) → Owf S fs gs L → a ∉ L → Ow S (.ref a) (.ins C gs) (a :: L)
  | bag {p c : Addr} : BagOk S p c → Ow S (.ref p) (.ty "bag") [p, c]
inductive Owf (S : Store) : List (String × W) → List (String × D) → List Addr → Prop
  | nil : Owf S [] [] []
  | cons {f : String} {w : W} {d : D} {fs : List (String × W)} {gs : List (String × D)} {L L' : List Addr} : Ow S w d L → Owf S fs gs L' → (∀ b ∈ L, b ∉ L') → (cellF f = false → w = .d d) → (cellF f = true → cel w d) → Owf S ((f, w) :: fs) ((f, d) :: gs) (L ++ L')
end
mutual
theorem Ow.fr {S S' : Store} : ∀ {w : W} {d : D} {L : List Addr}, Ow S w d L → (∀ b ∈ L, S' b = S b) → Ow S' w d L
  | _, _, _, .d x, _ => .d x
  | _, _, _, .lst h, e => .lst (by rw [e _ (by simp)]; exact h)
  | _, _, _, .dct h, e => .dct (by rw [e _ (by simp)]; exact h)
  | _, _, _, .obj h r n, e => .obj (by rw [e _ (by simp)]; exact h) (r.fr fun b hb => e b (List.mem_cons_of_mem _ hb)) n
  | _, _, _, .bag h, e => .bag (by
    obtain ⟨ms, i, r, z, n, h1, h2, h3⟩ := h
    exact ⟨ms, i, r, z, n, by rw [e _ (by simp)]; exact h1, by rw [e _ (by simp)]; exact h2, h3⟩)
theorem Owf.fr {S S' : Store} : ∀ {fs : List (String × W)} {gs : List (String × D)} {L : List Addr}, Owf S fs gs L → (∀ b ∈ L, S' b = S b) → Owf S' fs gs L
  | _, _, _, .nil, _ => .nil
  | _, _, _, .cons h r n z y, e => .cons (h.fr fun b hb => e b (List.mem_append_left _ hb)) (r.fr fun b hb => e b (List.mem_append_right _ hb)) n z y
end
mutual
theorem Ow.al {S : Store} : ∀ {w : W} {d : D} {L : List Addr}, Ow S w d L → ∀ b ∈ L, S b ≠ none
  | _, _, _, .d x, b, hb => by cases hb
  | _, _, _, .lst h, b, hb => by rw [List.mem_singleton.mp hb, h]; simp
  | _, _, _, .dct h, b, hb => by rw [List.mem_singleton.mp hb, h]; simp
  | _, _, _, .obj h r n, b, hb => by
    rcases List.mem_cons.mp hb with rfl | hb
    · rw [h]; simp
    · exact r.al b hb
  | _, _, _, .bag h, b, hb => by
    obtain ⟨ms, i, r, z, n, h1, h2, h3⟩ := h
    rcases List.mem_cons.mp hb with rfl | hb
    · rw [h1]; simp
    · rw [List.mem_singleton.mp hb, h2]; simp
theorem Owf.al {S : Store} : ∀ {fs : List (String × W)} {gs : List (String × D)} {L : List Addr}, Owf S fs gs L → ∀ b ∈ L, S b ≠ none
  | _, _, _, .nil, b, hb => by cases hb
  | _, _, _, .cons h r n z y, b, hb => by
    rcases List.mem_append.mp hb with hb | hb
    · exact h.al b hb
    · exact r.al b hb
end
theorem Ow.frS {S S' : Store} {w : W} {d : D} {L : List Addr} (h : Ow S w d L) (e : ∀ b c, b ∈ L → S b = some c → S' b = some c) : Ow S' w d L := h.fr fun b hb => by
  cases q : S b with
  | none => exact absurd q (h.al b hb)
  | some c => exact e b c hb q
abbrev Rho := List (Option D)
structure Cf where
  own : List Nat
  pr : List Nat
  mu : List Nat
structure Bs where
  A0 : Addr → Prop
  S0 : Store
  δ0 : Slots
  ρ0 : Rho
  L0 : Nat → List Addr
  L : Nat → List Addr
def Bs.at (B : Bs) (L : Nat → List Addr) : Bs := { B with L := L }
structure EmC (c : Cf) (B : Bs) (ρ : Rho) (δ : Slots) (S : Store) (A : Addr → Prop) (L : Nat → List Addr) : Prop where
  len : δ.length = ρ.length
  tr : ∀ i d, ρ[i]? = some (some d) → i ∉ c.own → δ[i]? = some (some (.d d))
  ow : ∀ i d, ρ[i]? = some (some d) → i ∈ c.own → ∃ w, δ[i]? = some (some w) ∧ Ow S w d (L i)
  ce : ∀ i d w, ρ[i]? = some (some d) → i ∈ c.own → δ[i]? = some (some w) → cel w d
  inA : ∀ i b, b ∈ L i → A b
  dis : ∀ i j b, i ≠ j → b ∈ L i → b ∉ L j
  a0 : ∀ b, B.A0 b → A b
  a1 : ∀ b, B.A0 b → B.S0 b ≠ none
  al : ∀ b, A b → S b ≠ none
  new : ∀ b, A b → B.A0 b ∨ B.S0 b = none
  fr : ∀ b x, ¬ B.A0 b → B.S0 b = some x → S b = some x
  prd : ∀ i, i ∈ c.pr ∨ i ∈ c.mu → δ[i]? = B.δ0[i]?
  prr : ∀ i, i ∈ c.pr → ρ[i]? = B.ρ0[i]?
  prl : ∀ i, i ∈ c.pr → L i = B.L0 i
  mul : ∀ i b, i ∈ c.mu → b ∈ L i → b ∈ B.L0 i ∨ B.S0 b = none
  fresh : ∀ i b, i ∉ c.pr → i ∉ c.mu → b ∈ L i → B.S0 b = none
theorem EmC.at_ {c : Cf} {B : Bs} {ρ : Rho} {δ : Slots} {S : Store} {A : Addr → Prop} {L L' : Nat → List Addr} (k : EmC c B ρ δ S A L) : EmC c (B.at L') ρ δ S A L := ⟨k.len, k.tr, k.ow, k.ce, k.inA, k.dis, k.a0, k.a1, k.al, k.new, k.fr, k.prd, k.prr, k.prl, k.mul, k.fresh⟩
def Em (c : Cf) (B : Bs) (ρ : Rho) (δ : Slots) (S : Store) : Prop := ∃ A, EmC c B ρ δ S A B.L
def EmX (c : Cf) (B : Bs) (ρ : Rho) (δ : Slots) (S : Store) (w : W) (d : D) : Prop := ∃ A Lr, EmC c B ρ δ S A B.L ∧ Ow S w d Lr ∧ (∀ b ∈ Lr, ¬ A b ∧ B.S0 b = none) ∧ cel w d
section
variable {c : Cf} {B : Bs} {ρ ρ' : Rho} {δ δ' : Slots} {S S' : Store} {A : Addr → Prop} {L : Nat → List Addr} {i : Nat} {w : W} {d : D}
theorem EmX.em (h : EmX c B ρ δ S w d) : Em c B ρ δ S := by
  obtain ⟨A, Lr, k, _⟩ := h
  exact ⟨A, k⟩
theorem Em.x (h : Em c B ρ δ S) (n : cellLike d = false) : EmX c B ρ δ S (.d d) d := by
  obtain ⟨A, k⟩ := h
  exact ⟨A, [], k, .d d, fun b hb => (by cases hb), fun z => by rw [n] at z; cases z⟩
theorem EmC.set (k : EmC c B ρ δ S A L) (h1 : i ∉ c.own) (h2 : i ∉ c.pr) (h3 : i ∉ c.mu) : EmC c B (ρ.set i (some d)) (δ.set i (some (.d d))) S A L := by
  refine ⟨by simpa using k.len, fun j e hj ho => ?_, fun j e hj ho => ?_, fun j e w hj ho hw => ?_, k.inA, k.dis, k.a0, k.a1, k.al, k.new, k.fr, fun j hj => ?_, fun j hj => ?_, k.prl, k.mul, k.fresh⟩
  · by_cases z : i = j
    · subst z
      have hl := (List.getElem?_eq_some_iff.mp hj).1
      rw [List.length_set] at hl
      rw [List.getElem?_set_self hl] at hj
      cases hj
      rw [List.getElem?_set_self (by rw [k.len]; exact hl)]
    · rw [List.getElem?_set_ne z] at hj ⊢
      exact k.tr j e hj ho
  · have z : i ≠ j := fun z => h1 (z ▸ ho)
    rw [List.getElem?_set_ne z] at hj ⊢
    exact k.ow j e hj ho
  · have z : i ≠ j := fun z => h1 (z ▸ ho)
    rw [List.getElem?_set_ne z] at hj hw
    exact k.ce j e w hj ho hw
  · have z : i ≠ j := fun z => hj.elim (fun q => h2 (z ▸ q)) fun q => h3 (z ▸ q)
    rw [List.getElem?_set_ne z]
    exact k.prd j hj
  · have z : i ≠ j := fun z => h2 (z ▸ hj)
    rw [List.getElem?_set_ne z]
    exact k.prr j hj
theorem Em.set (k : Em c B ρ δ S) (h1 : i ∉ c.own) (h2 : i ∉ c.pr) (h3 : i ∉ c.mu) : Em c B (ρ.set i (some d)) (δ.set i (some (.d d))) S := by
  obtain ⟨A, k⟩ := k
  exact ⟨A, k.set h1 h2 h3⟩
theorem EmC.setO {Lr : List Addr} (k : EmC c B ρ δ S A B.L) (hw : Ow S w d Lr) (hr : ∀ b ∈ Lr, ¬ A b ∧ B.S0 b = none) (hc : cel w d) (h1 : i ∈ c.own) (h2 : i ∉ c.pr) (h3 : i ∉ c.mu) : EmC c B (ρ.set i (some d)) (δ.set i (some w)) S (fun b => A b ∨ b ∈ Lr) (fun j => if j = i then Lr else B.L j) := by
  refine ⟨by simpa using k.len, fun j e hj ho => ?_, fun j e hj ho => ?_, fun j e u hj ho hu => ?_, fun j b hb => ?_, fun j l b ne hb hc => ?_, fun b hb => .inl (k.a0 b hb), k.a1, fun b hb => ?_, fun b hb => ?_, k.fr, fun j hj => ?_, fun j hj => ?_, fun j hj => ?_, fun j b hj hb => ?_, fun j b p m hb => ?_⟩
  · have z : i ≠ j := fun z => ho (z ▸ h1)
    rw [List.getElem?_set_ne z] at hj ⊢
    exact k.tr j e hj ho
  · by_cases z : i = j
    · subst z
      have hl := (List.getElem?_eq_some_iff.mp hj).1
      rw [List.length_set] at hl
      rw [List.getElem?_set_self hl] at hj
      cases hj
      rw [if_pos rfl]
      exact ⟨w, by rw [List.getElem?_set_self (by rw [k.len]; exact hl)], hw⟩
    · rw [List.getElem?_set_ne z] at hj ⊢
      rw [if_neg (Ne.symm z)]
      exact k.ow j e hj ho
  · by_cases z : i = j
    · subst z
      have hl := (List.getElem?_eq_some_iff.mp hj).1
      rw [List.length_set] at hl
      rw [List.getElem?_set_self hl] at hj
      cases hj
      rw [List.getElem?_set_self (by rw [k.len]; exact hl)] at hu
      cases hu
      exact hc
    · rw [List.getElem?_set_ne z] at hj hu
      exact k.ce j e u hj ho hu
  · by_cases z : j = i
    · rw [if_pos z] at hb; exact .inr hb
    · rw [if_neg z] at hb; exact .inl (k.inA j b hb)
  · by_cases z : j = i
    · rw [if_pos z] at hb
      rw [if_neg (fun q => ne (z.trans q.symm))] at hc
      exact (hr b hb).1 (k.inA l b hc)
    · rw [if_neg z] at hb
      by_cases y : l = i
      · rw [if_pos y] at hc
        exact (hr b hc).1 (k.inA j b hb)
      · rw [if_neg y] at hc
        exact k.dis j l b ne hb hc
  · rcases hb with hb | hb
    · exact k.al b hb
    · exact hw.al b hb
  · rcases hb with hb | hb
    · exact k.new b hb
    · exact .inr (hr b hb).2
  · have z : i ≠ j := fun z => hj.elim (fun q => h2 (z ▸ q)) fun q => h3 (z ▸ q)
    rw [List.getElem?_set_ne z]
    exact k.prd j hj
  · have z : i ≠ j := fun z => h2 (z ▸ hj)
    rw [List.getElem?_set_ne z]
    exact k.prr j hj
  · have z : ¬ j = i := fun z => h2 (z ▸ hj)
    rw [if_neg z]
    exact k.prl j hj
  · have z : ¬ j = i := fun z => h3 (z ▸ hj)
    rw [if_neg z] at hb
    exact k.mul j b hj hb
  · by_cases z : j = i
    · rw [if_pos z] at hb; exact (hr b hb).2
    · rw [if_neg z] at hb; exact k.fresh j b p m hb
theorem EmX.set (k : EmX c B ρ δ S w d) (h1 : i ∈ c.own) (h2 : i ∉ c.pr) (h3 : i ∉ c.mu) : ∃ L', Em c (B.at L') (ρ.set i (some d)) (δ.set i (some w)) S := by
  obtain ⟨A, Lr, k, hw, hr, hc⟩ := k
  exact ⟨fun j => if j = i then Lr else B.L j, fun b => A b ∨ b ∈ Lr, (k.setO hw hr hc h1 h2 h3).at_⟩
theorem EmC.forget (k : EmC c B ρ δ S A L) (h : i ∉ c.pr) : EmC c B (ρ.set i none) δ S A L := by
  refine ⟨by simpa using k.len, fun j e hj ho => ?_, fun j e hj ho => ?_, fun j e w hj ho hw => ?_, k.inA, k.dis, k.a0, k.a1, k.al, k.new, k.fr, k.prd, fun j hj => ?_, k.prl, k.mul, k.fresh⟩
  · by_cases z : i = j
    · subst z
      have hl := (List.getElem?_eq_some_iff.mp hj).1
      rw [List.length_set] at hl
      rw [List.getElem?_set_self hl] at hj
      cases hj
    · rw [List.getElem?_set_ne z] at hj
      exact k.tr j e hj ho
  · by_cases z : i = j
    · subst z
      have hl := (List.getElem?_eq_some_iff.mp hj).1
      rw [List.length_set] at hl
      rw [List.getElem?_set_self hl] at hj
      cases hj
    · rw [List.getElem?_set_ne z] at hj
      exact k.ow j e hj ho
  · by_cases z : i = j
    · subst z
      have hl := (List.getElem?_eq_some_iff.mp hj).1
      rw [List.length_set] at hl
      rw [List.getElem?_set_self hl] at hj
      cases hj
    · rw [List.getElem?_set_ne z] at hj
      exact k.ce j e w hj ho hw
  · have z : i ≠ j := fun z => h (z ▸ hj)
    rw [List.getElem?_set_ne z]
    exact k.prr j hj
theorem Em.forget (k : Em c B ρ δ S) (h : i ∉ c.pr) : Em c B (ρ.set i none) δ S := by
  obtain ⟨A, k⟩ := k
  exact ⟨A, k.forget h⟩
theorem EmC.onto (k : EmC c B ρ δ S A L) (hA : ∀ b x, ¬ A b → S b = some x → S' b = some x) (hal : ∀ b, A b → S' b ≠ none) (how : ∀ i d w, ρ[i]? = some (some d) → i ∈ c.own → δ[i]? = some (some w) → Ow S w d (L i) → Ow S' w d (L i)) : EmC c B ρ δ S' A L := by
  refine ⟨k.len, k.tr, fun i d h1 h2 => ?_, k.ce, k.inA, k.dis, k.a0, k.a1, hal, k.new, fun b x h1 h2 => ?_, k.prd, k.prr, k.prl, k.mul, k.fresh⟩
  · obtain ⟨w, e, h⟩ := k.ow i d h1 h2
    exact ⟨w, e, how i d w h1 h2 e h⟩
  · refine hA b x (fun q => ?_) (k.fr b x h1 h2)
    rcases k.new b q with z | z
    · exact h1 z
    · rw [h2] at z; cases z
theorem Em.swap (k' : Em c B ρ' δ' S') (k : Em c B ρ δ S) (h : ∀ j, j ∈ c.own ∨ j ∈ c.pr ∨ j ∈ c.mu → ρ'[j]? = ρ[j]? ∧ δ'[j]? = δ[j]?) : Em c B ρ δ S' := by
  obtain ⟨A, k'⟩ := k'
  obtain ⟨A1, k⟩ := k
  refine ⟨A, k.len, k.tr, fun i d h1 h2 => ?_, k.ce, k'.inA, k'.dis, k'.a0, k'.a1, k'.al, k'.new, k'.fr, k.prd, k.prr, k'.prl, k'.mul, k'.fresh⟩
  obtain ⟨e1, e2⟩ := h i (.inl h2)
  rw [← e1] at h1
  rw [← e2]
  exact k'.ow i d h1 h2
theorem Em.newX {a : Addr} {x : Cell} (k : Em c B ρ δ S) (ha : S a = none) (hw : Ow (upS S a x) (.ref a) d [a]) : EmX c B ρ δ (upS S a x) (.ref a) d := by
  obtain ⟨A, k⟩ := k
  have na : ¬ A a := fun q => k.al a q ha
  have ne : ∀ b, A b → b ≠ a := fun b q z => na (z ▸ q)
  refine ⟨A, [a], k.onto (fun b y h1 h2 => ?_) (fun b hb => ?_) (fun i d w h1 h2 h3 h4 => h4.fr fun b hb => ?_), hw, fun b hb => ?_, fun _ => ⟨a, rfl⟩⟩
  · rw [upS_ne (fun z => by rw [z, ha] at h2; cases h2)]; exact h2
  · rw [upS_ne (ne b hb)]; exact k.al b hb
  · exact upS_ne (ne b (k.inA i b hb))
  · rw [List.mem_singleton.mp hb]
    refine ⟨na, ?_⟩
    cases q : B.S0 a with
    | none => rfl
    | some y =>
      by_cases z : B.A0 a
      · exact absurd ha (k.al a (k.a0 a z))
      · rw [k.fr a y z q] at ha; cases ha
end
end
end DX

set_option Elab.async false
set_option linter.all false
set_option maxRecDepth 100000
namespace DX
open PySem L2
noncomputable section
abbrev FE := Rho → Dr D
abbrev FT := Rho → Dr Bool
abbrev FAs := Rho → Dr (List D)
def getR : Rho → Nat → Option D
  | [], _ => none
  | x :: _, 0 => x
  | _ :: l, n + 1 => getR l n
theorem getR_at : ∀ {ρ : Rho} {i : Nat} {d : D}, getR ρ i = some d → ρ[i]? = some (some d)
  | [], _, _, h => by cases h
  | x :: l, 0, d, h => by simpa [getR] using h
  | x :: l, n + 1, d, h => by
    rw [List.getElem?_cons_succ]
    exact getR_at h
section
variable (c : Cf)
def QE (m : EM) (f : FE) : Prop := ∀ B ρ δ S P X, Em c B ρ δ S → (f ρ).wp (fun d => ∀ S', Em c B ρ δ S' → P (.d d) S') (fun e => ∀ S', Em c B ρ δ S' → X e.w S') → m δ S P X
def QO (m : EM) (f : FE) : Prop := ∀ B ρ δ S P X, Em c B ρ δ S → (f ρ).wp (fun d => ∀ S' w, EmX c B ρ δ S' w d → P w S') (fun e => ∀ S', Em c B ρ δ S' → X e.w S') → m δ S P X
def QT (m : TM) (f : FT) : Prop := ∀ B ρ δ S P X, Em c B ρ δ S → (f ρ).wp (fun d => ∀ S', Em c B ρ δ S' → P d S') (fun e => ∀ S', Em c B ρ δ S' → X e.w S') → m δ S P X
end
inductive AR (c : Cf) (ρ : Rho) (δ : Slots) : List (Option Nat) → List W → List D → Prop
  | nil : AR c ρ δ [] [] []
  | tr {os : List (Option Nat)} {ws : List W} {ds : List D} (d : D) : AR c ρ δ os ws ds → AR c ρ δ (none :: os) (.d d :: ws) (d :: ds)
  | ow {os : List (Option Nat)} {ws : List W} {ds : List D} {i : Nat} {w : W} {d : D} : i ∈ c.own → δ[i]? = some (some w) → ρ[i]? = some (some d) → AR c ρ δ os ws ds → AR c ρ δ (some i :: os) (w :: ws) (d :: ds)
def QA (c : Cf) (os : List (Option Nat)) (m : AM) (f : FAs) : Prop := ∀ B ρ δ S P X, Em c B ρ δ S → (f ρ).wp (fun ds => ∀ S' ws, Em c B ρ δ S' → AR c ρ δ os ws ds → P ws S') (fun e => ∀ S', Em c B ρ δ S' → X e.w S') → m δ S P X
section
variable {c : Cf} {m ma mb mc : EM} {f fa fb fc : FE} {t u : TM} {ft fu : FT} {mr : AM} {fr : FAs} {os : List (Option Nat)}
def fPl (f : FE) : FE := fun ρ => (f ρ).bind fun d => must (cellLike d = false) (.ok d)
theorem QE.o (h : QE c m f) : QO c m (fPl f) := fun B ρ δ S P X k q => by
  unfold fPl at q
  rw [Dr.wp_bind] at q
  refine h B ρ δ S P X k (q.imp (fun d z S' e => ?_) fun e z => z)
  obtain ⟨n, z⟩ := must_wp z
  exact z S' _ (e.x n)

def fC (d : D) : FE := fun _ => .ok d
def fVar (i : Nat) : FE := fun ρ => opt (getR ρ i) .ok
theorem qe_c {d : D} : QE c (mC d) (fC d) := fun B ρ δ S P X k q => q S k
theorem qe_var {i : Nat} (h : i ∉ c.own) : QE c (mVar i) (fVar i) := fun B ρ δ S P X k q => by
  obtain ⟨d, e, q⟩ := opt_wp q
  obtain ⟨A, k'⟩ := id k
  unfold mVar
  rw [k'.tr i d (getR_at e) h]
  exact q S k
theorem Em.own {B : Bs} {ρ : Rho} {δ : Slots} {S : Store} {i : Nat} {d : D} (k : Em c B ρ δ S) (e : getR ρ i = some d) (h : i ∈ c.own) : ∃ w L, δ[i]? = some (some w) ∧ Ow S w d L := by
  obtain ⟨A, k⟩ := k
  obtain ⟨w, h1, h2⟩ := k.ow i d (getR_at e) h
  exact ⟨w, _, h1, h2⟩
abbrev F2 := D → D → Option D
abbrev F1 := D → Option D
def SO2 (o : O2) (fo : F2) : Prop := ∀ S x y d e L L' P r, Ow S x d L → Ow S y e L' → fo d e = some r → P (.d r) S → o x y S P
def fOp (fo : F2) (fa fb : FE) : FE := fun ρ => (fa ρ).bind fun a => (fb ρ).bind fun b => opt (fo a b) .ok
def fUn (fo : F1) (fa : FE) : FE := fun ρ => (fa ρ).bind fun a => opt (fo a) .ok
theorem qe_op {o : O2} {fo : F2} (ho : SO2 o fo) (ha : QE c ma fa) (hb : QE c mb fb) : QE c (mOp o ma mb) (fOp fo fa fb) := fun B ρ δ S P X k q => by
  unfold fOp at q
  rw [Dr.wp_bind] at q
  refine ha B ρ δ S _ X k (q.imp (fun a q S1 k1 => ?_) fun e z => z)
  rw [Dr.wp_bind] at q
  refine hb B ρ δ S1 _ X k1 (q.imp (fun b q S2 k2 => ?_) fun e z => z)
  obtain ⟨r, e, q⟩ := opt_wp q
  exact ho S2 _ _ _ _ _ _ _ r (.d a) (.d b) e (q S2 k2)
theorem qe_opR {o : O2} {fo : F2} {i : Nat} (ho : SO2 o fo) (hi : i ∈ c.own) (ha : QE c ma fa) : QE c (mOp o ma (mVar i)) (fOp fo fa (fVar i)) := fun B ρ δ S P X k q => by
  unfold fOp at q
  rw [Dr.wp_bind] at q
  refine ha B ρ δ S _ X k (q.imp (fun a q S1 k1 => ?_) fun e z => z)
  rw [Dr.wp_bind] at q
  obtain ⟨d, ed, q⟩ := opt_wp q
  obtain ⟨w, L, ew, hw⟩ := k1.own ed hi
  show (match δ[i]? with | some (some w) => _ | _ => False)
  rw [ew]
  obtain ⟨r, e, q⟩ := opt_wp (show (opt (fo a d) .ok).wp _ _ from q)
  exact ho S1 _ _ _ _ _ _ _ r (.d a) hw e (q S1 k1)
def fChain (o o' : F2) (fa fb fc : FE) : FE := fun ρ => (fa ρ).bind fun a => (fb ρ).bind fun b => opt (o a b) fun z => match z with
  | .bl true => (fc ρ).bind fun w => opt (o' b w) .ok
  | .bl false => .ok (.bl false)
  | _ => .no
def truD : D → Option Bool
  | .non => some false
  | .bl b => some b
  | .int i => some (i != 0)
  | .str s => if s.length ≤ 100000 then some ((s.length : Int) != 0) else none
  | .dct l => some (!l.isEmpty)
  | .lst l => some (!l.isEmpty)
  | .tup l => some (!l.isEmpty)
  | _ => none
theorem tru_ow {S : Store} {w : W} {d : D} {L : List Addr} {b : Bool} (h : Ow S w d L) (e : truD d = some b) : truW S w = some b := by
  cases h with
  | d =>
    cases d with
    | lst l =>
      cases e
      show some (!(l.map W.d).isEmpty) = _
      cases l <;> rfl
    | tup l =>
      cases e
      show some (!(l.map W.d).isEmpty) = _
      cases l <;> rfl
    | ins C l => cases e
    | cls C => cases e
    | ty C => cases e
    | _ => exact e
  | lst h =>
    rename_i a ds
    cases e
    unfold truW seqW lseq
    dsimp only
    rw [h]
    cases ds <;> rfl
  | dct h =>
    rename_i a ds
    cases e
    unfold truW seqW lseq tseq
    dsimp only
    rw [h]
    cases ds <;> rfl
  | obj h r n => cases e
  | bag h => cases e
def fTru (fa : FE) : FT := fun ρ => (fa ρ).bind fun a => opt (truD a) .ok
def fBl (fa : FE) : FT := fun ρ => (fa ρ).bind fun a => match a with
  | .bl b => .ok b
  | _ => .no
def fAnd (t u : FT) : FT := fun ρ => (t ρ).bind fun b => if b = true then u ρ else .ok false
def fOr (t u : FT) : FT := fun ρ => (t ρ).bind fun b => if b = true then .ok true else u ρ
def fNot (t : FT) : FT := fun ρ => (t ρ).bind fun b => .ok (!b)
theorem qt_tru (ha : QE c ma fa) : QT c (mTru ma) (fTru fa) := fun B ρ δ S P X k q => by
  unfold fTru at q
  rw [Dr.wp_bind] at q
  refine ha B ρ δ S _ X k (q.imp (fun a q S1 k1 => ?_) fun e z => z)
  obtain ⟨r, e, q⟩ := opt_wp q
  rw [tru_ow (.d a) e]
  exact q S1 k1
theorem qt_bl (ha : QE c ma fa) : QT c (mBl ma) (fBl fa) := fun B ρ δ S P X k q => by
  unfold fBl at q
  rw [Dr.wp_bind] at q
  refine ha B ρ δ S _ X k (q.imp (fun a q S1 k1 => ?_) fun e z => z)
  cases a with
  | bl b => exact q S1 k1
  | _ => exact q.elim
theorem qt_and (ht : QT c t ft) (hu : QT c u fu) : QT c (mAnd t u) (fAnd ft fu) := fun B ρ δ S P X k q => by
  unfold fAnd at q
  rw [Dr.wp_bind] at q
  refine ht B ρ δ S _ X k (q.imp (fun a q S1 k1 => ?_) fun e z => z)
  cases a with
  | true => exact hu B ρ δ S1 P X k1 q
  | false => exact q S1 k1
theorem qt_or (ht : QT c t ft) (hu : QT c u fu) : QT c (mOr t u) (fOr ft fu) := fun B ρ δ S P X k q => by
  unfold fOr at q
  rw [Dr.wp_bind] at q
  refine ht B ρ δ S _ X k (q.imp (fun a q S1 k1 => ?_) fun e z => z)
  cases a with
  | false => exact hu B ρ δ S1 P X k1 q
  | true => exact q S1 k1
theorem qt_not (ht : QT c t ft) : QT c (mNot t) (fNot ft) := fun B ρ δ S P X k q => by
  unfold fNot at q
  rw [Dr.wp_bind] at q
  exact ht B ρ δ S _ X k (q.imp (fun a q S1 k1 => q S1 k1) fun e z => z)
def fAndV (fa fb : FE) : FE := fun ρ => (fa ρ).bind fun a => opt (truD a) fun b => if b = true then fb ρ else .ok a
def fOrV (fa fb : FE) : FE := fun ρ => (fa ρ).bind fun a => opt (truD a) fun b => if b = true then .ok a else fb ρ
def fNotV (fa : FE) : FE := fun ρ => (fa ρ).bind fun a => opt (truD a) fun b => .ok (.bl (!b))
theorem qe_andV (ha : QE c ma fa) (hb : QE c mb fb) : QE c (mAndV ma mb) (fAndV fa fb) := fun B ρ δ S P X k q => by
  unfold fAndV at q
  rw [Dr.wp_bind] at q
  refine ha B ρ δ S _ X k (q.imp (fun a q S1 k1 => ?_) fun e z => z)
  obtain ⟨r, e, q⟩ := opt_wp q
  rw [tru_ow (.d a) e]
  cases r with
  | true => exact hb B ρ δ S1 P X k1 q
  | false => exact q S1 k1
theorem qe_orV (ha : QE c ma fa) (hb : QE c mb fb) : QE c (mOrV ma mb) (fOrV fa fb) := fun B ρ δ S P X k q => by
  unfold fOrV at q
  rw [Dr.wp_bind] at q
  refine ha B ρ δ S _ X k (q.imp (fun a q S1 k1 => ?_) fun e z => z)
  obtain ⟨r, e, q⟩ := opt_wp q
  rw [tru_ow (.d a) e]
  cases r with
  | false => exact hb B ρ δ S1 P X k1 q
  | true => exact q S1 k1
def fIf (t : FT) (fa fb : FE) : FE := fun ρ => (t ρ).bind fun b => if b = true then fa ρ else fb ρ
def fNil : FAs := fun _ => .ok []
def fCons (fa : FE) (fr : FAs) : FAs := fun ρ => (fa ρ).bind fun a => (fr ρ).bind fun r => .ok (a :: r)
theorem qa_nil : QA c [] aNil fNil := fun B ρ δ S P X k q => q S [] k .nil
theorem qa_cons (ha : QE c ma fa) (hr : QA c os mr fr) : QA c (none :: os) (aCons ma mr) (fCons fa fr) := fun B ρ δ S P X k q => by
  unfold fCons at q
  rw [Dr.wp_bind] at q
  refine ha B ρ δ S _ X k (q.imp (fun a q S1 k1 => ?_) fun e z => z)
  rw [Dr.wp_bind] at q
  exact hr B ρ δ S1 _ X k1 (q.imp (fun r q S2 ws k2 h => q S2 _ k2 (.tr a h)) fun e z => z)
theorem qa_own {i : Nat} (hi : i ∈ c.own) (hr : QA c os mr fr) : QA c (some i :: os) (aCons (mVar i) mr) (fCons (fVar i) fr) := fun B ρ δ S P X k q => by
  unfold fCons at q
  rw [Dr.wp_bind] at q
  obtain ⟨d, ed, q⟩ := opt_wp q
  obtain ⟨w, L, ew, hw⟩ := k.own ed hi
  have q : ((fr ρ).bind fun r => .ok (d :: r)).wp _ _ := q
  rw [Dr.wp_bind] at q
  show (match δ[i]? with | some (some w) => _ | _ => False)
  rw [ew]
  exact hr B ρ δ S _ X k (q.imp (fun r q S2 ws k2 h => q S2 _ k2 (.ow hi ew (getR_at ed) h)) fun e z => z)
theorem AR.trees {ρ : Rho} {δ : Slots} {ws : List W} {ds : List D} (h : AR c ρ δ os ws ds) (n : os.all (·.isNone) = true) : ws = ds.map .d := by
  induction h with
  | nil => rfl
  | tr d h ih => rw [ih (by simpa using n)]; rfl
  | ow h1 h2 h3 h4 ih => simp at n
def fTup (fr : FAs) : FE := fun ρ => (fr ρ).bind fun ds => must (ds.length ≤ 1000) (.ok (.tup ds))
def fLst (fr : FAs) : FE := fun ρ => (fr ρ).bind fun ds => must (ds.length ≤ 1000) (.ok (.lst ds))
theorem qe_tup (hr : QA c os mr fr) (n : os.all (·.isNone) = true := by rfl) : QE c (mTup mr) (fTup fr) := fun B ρ δ S P X k q => by
  unfold fTup at q
  rw [Dr.wp_bind] at q
  refine hr B ρ δ S _ X k (q.imp (fun ds q S1 ws k1 h => ?_) fun e z => z)
  obtain ⟨l, q⟩ := must_wp q
  rw [h.trees n]
  exact ⟨by rw [List.length_map]; exact l, by rw [mkT_map]; exact q S1 k1⟩
theorem newLC_f {ds : List D} {S : Store} {P : W → Store → Prop} (h : P (.d (.lst ds)) S) : newLC false (ds.map .d) S P := by
  rw [x_newMap]
  exact h
theorem newLC_t {ds : List D} {B : Bs} {ρ : Rho} {δ : Slots} {S : Store} {P : W → Store → Prop} (k : Em c B ρ δ S) (h : ∀ S' w, EmX c B ρ δ S' w (.lst ds) → P w S') : newLC true (ds.map .d) S P := by
  rw [x_newT]
  exact fun a ha => h _ _ (k.newX ha (.lst upS_same))
theorem qe_lst (hr : QA c os mr fr) (n : os.all (·.isNone) = true := by rfl) : QE c (mLst false mr) (fLst fr) := fun B ρ δ S P X k q => by
  unfold fLst at q
  rw [Dr.wp_bind] at q
  refine hr B ρ δ S _ X k (q.imp (fun ds q S1 ws k1 h => ?_) fun e z => z)
  obtain ⟨l, q⟩ := must_wp q
  rw [h.trees n]
  exact ⟨by rw [List.length_map]; exact l, newLC_f (q S1 k1)⟩
theorem qo_lst (hr : QA c os mr fr) (n : os.all (·.isNone) = true := by rfl) : QO c (mLst true mr) (fLst fr) := fun B ρ δ S P X k q => by
  unfold fLst at q
  rw [Dr.wp_bind] at q
  refine hr B ρ δ S _ X k (q.imp (fun ds q S1 ws k1 h => ?_) fun e z => z)
  obtain ⟨l, q⟩ := must_wp q
  rw [h.trees n]
  exact ⟨by rw [List.length_map]; exact l, newLC_t k1 q⟩
end
end
end DX

set_option Elab.async false
set_option linter.all false
set_option maxRecDepth 100000
namespace DX
open PySem L2
noncomputable section
section
variable {S : Store} {w : W} {d : D} {L : List Addr} {ds : List D}
theorem Ow.int {i : Int} (h : Ow S w (.int i) L) : w = .d (.int i) := by cases h; rfl
theorem Ow.bl {i : Bool} (h : Ow S w (.bl i) L) : w = .d (.bl i) := by cases h; rfl
theorem Ow.str {i : Str} (h : Ow S w (.str i) L) : w = .d (.str i) := by cases h; rfl
theorem Ow.non (h : Ow S w .non L) : w = .d .non := by cases h; rfl
theorem Ow.tup (h : Ow S w (.tup ds) L) : w = .d (.tup ds) := by cases h; rfl
theorem Ow.cls {C : String} (h : Ow S w (.cls C) L) : w = .d (.cls C) := by cases h; rfl
theorem Ow.lseq (h : Ow S w (.lst ds) L) : lseq S w = some (ds.map .d) := by
  cases h with
  | d => rfl
  | lst h => unfold DX.lseq; dsimp only; rw [h]
def seqD : D → Option (List D)
  | .lst l => some l
  | .tup l => some l
  | _ => none
theorem Ow.seq (h : Ow S w d L) (e : seqD d = some ds) : seqW S w = some (ds.map .d) := by
  cases d with
  | lst l =>
    cases e
    unfold seqW
    rw [h.lseq]
  | tup l =>
    cases e
    rw [h.tup]
    rfl
  | _ => cases e
theorem ofCat {α β : Type} (f : α → β) (a b : List α) : a.map f ++ b.map f = (a ++ b).map f := by simp
end
open Classical in
def ite_ {α : Type} (c : Prop) (r : Option α) : Option α := if c then r else none
theorem ite_some {α : Type} {c : Prop} {r : Option α} {a : α} (h : ite_ c r = some a) : c ∧ r = some a := by
  unfold ite_ at h
  split at h
  · exact ⟨‹_›, h⟩
  · cases h
def foAdd : F2
  | .int a, .int b => some (.int (a + b))
  | .str a, .str b => ite_ (a.length + b.length ≤ 1000000) (some (.str (a ++ b)))
  | .lst a, .lst b => ite_ (a.length + b.length ≤ 100000) (some (.lst (a ++ b)))
  | .tup a, .tup b => ite_ (a.length + b.length ≤ 100000) (some (.tup (a ++ b)))
  | _, _ => none
theorem so_add : SO2 (oAdd false) foAdd := fun S x y d e L L' P r hx hy h p => by
  unfold foAdd at h
  split at h
  · cases h; rw [hx.int, hy.int]; exact p
  · obtain ⟨h1, h⟩ := ite_some h
    cases h
    rw [hx.str, hy.str]
    exact ⟨h1, p⟩
  · obtain ⟨h1, h⟩ := ite_some h
    cases h
    have e1 := hx.lseq
    have e2 := hy.lseq
    have z : oAdd false x y S P = catO false x y S P := by
      cases hx with
      | d => cases hy with
        | d => rfl
        | lst _ => rfl
      | lst _ => rfl
    rw [z]
    unfold catO
    rw [e1, e2]
    refine ⟨by simpa using h1, ?_⟩
    rw [ofCat]
    exact newLC_f p
  · obtain ⟨h1, h⟩ := ite_some h
    cases h
    rw [hx.tup, hy.tup]
    show _ ∧ P (mkT (_ ++ _)) S
    rw [ofCat, mkT_map]
    exact ⟨by simpa using h1, p⟩
  · cases h
def foSub : F2
  | .int a, .int b => some (.int (a - b))
  | _, _ => none
def foMod : F2
  | .int a, .int b => ite_ (0 < b) (some (.int (a % b)))
  | _, _ => none
def foDiv : F2
  | .int a, .int b => ite_ (0 < b ∧ b < 2 ^ 64) (some (.int (a / b)))
  | _, _ => none
def foPow : F2
  | .int a, .int b => ite_ (0 ≤ b ∧ b ≤ 100 ∧ a.natAbs < 2 ^ 64) (some (.int (a ^ b.toNat)))
  | _, _ => none
def foLt : F2
  | .int a, .int b => some (.bl (decide (a < b)))
  | _, _ => none
def foLe : F2
  | .int a, .int b => some (.bl (decide (a ≤ b)))
  | _, _ => none
def foGt : F2
  | .int a, .int b => some (.bl (decide (b < a)))
  | _, _ => none
def foGe : F2
  | .int a, .int b => some (.bl (decide (b ≤ a)))
  | _, _ => none
theorem so_i2 {o : O2} {fo : F2} {f : Int → Int → (D → Prop) → Prop} (ho : o = i2 f) (h1 : ∀ a b r, fo (.int a) (.int b) = some r → ∀ p : D → Prop, p r → f a b p) (h2 : ∀ d e r, fo d e = some r → ∃ a b, d = .int a ∧ e = .int b) : SO2 o fo := fun S x y d e L L' P r hx hy h p => by
  obtain ⟨a, b, rfl, rfl⟩ := h2 _ _ _ h
  rw [hx.int, hy.int, ho]
  exact h1 a b r h _ p
theorem so_sub : SO2 oSub foSub := so_i2 rfl (fun a b r h p q => by cases h; exact q) fun d e r h => by
  unfold foSub at h
  split at h
  · exact ⟨_, _, rfl, rfl⟩
  · cases h
theorem so_pow : SO2 oPow foPow := so_i2 rfl (fun a b r h p q => by
    obtain ⟨h1, h⟩ := ite_some h
    cases h
    exact ⟨h1, q⟩) fun d e r h => by
  unfold foPow at h
  split at h
  · exact ⟨_, _, rfl, rfl⟩
  · cases h
theorem so_le : SO2 oLe foLe := so_i2 rfl (fun a b r h p q => by cases h; exact q) fun d e r h => by
  unfold foLe at h
  split at h
  · exact ⟨_, _, rfl, rfl⟩
  · cases h
theorem so_gt : SO2 oGt foGt := so_i2 rfl (fun a b r h p q => by cases h; exact q) fun d e r h => by
  unfold foGt at h
  split at h
  · exact ⟨_, _, rfl, rfl⟩
  · cases h
instance (a b : Int) : Decidable (CMul a b) := by unfold CMul; infer_instance
def foMul : F2
  | .int a, .int b => ite_ (CMul a b) (some (.int (a * b)))
  | .lst a, .int n => ite_ (-10000 ≤ n ∧ n ≤ 10000 ∧ a.length ≤ 1000) (some (.lst (List.replicate n.toNat a).flatten))
  | .tup a, .int n => ite_ (a ≠ [] ∧ 0 ≤ n ∧ n ≤ 1000 ∧ a.length ≤ 1000) (some (.tup (List.replicate n.toNat a).flatten))
  | _, _ => none
theorem rep_map {α β : Type} (f : α → β) (n : Nat) (a : List α) : (List.replicate n (a.map f)).flatten = (List.replicate n a).flatten.map f := by
  rw [List.map_flatten, List.map_replicate]
theorem so_mul : SO2 (oMul false) foMul := fun S x y d e L L' P r hx hy h p => by
  unfold foMul at h
  split at h
  · obtain ⟨h1, h⟩ := ite_some h
    cases h
    rw [hx.int, hy.int]
    exact ⟨h1, p⟩
  · obtain ⟨h1, h⟩ := ite_some h
    cases h
    rename_i a n
    rw [hy.int]
    have z : oMul false x (.d (.int n)) S P = repO false x n S P := by
      cases hx with
      | d => rfl
      | lst _ => rfl
    rw [z]
    unfold repO
    rw [hx.lseq]
    refine ⟨h1.1, h1.2.1, by simpa using h1.2.2, ?_⟩
    rw [rep_map]
    exact newLC_f p
  · obtain ⟨h1, h⟩ := ite_some h
    cases h
    rw [hx.tup, hy.int]
    refine ⟨by simpa using h1.1, h1.2.1, h1.2.2.1, by simpa using h1.2.2.2, ?_⟩
    rw [rep_map, mkT_map]
    exact p
  · cases h
def foNeg : F1
  | .int a => some (.int (-a))
  | _ => none
def eqV : D → D → Option Bool
  | .int i, .int j => some (decide (i = j))
  | .str i, .str j => some (decide (i = j))
  | .bl i, .bl j => some (decide (i = j))
  | .non, .str _ => some false
  | .str _, .non => some false
  | .int _, .str _ => some false
  | .str _, .int _ => some false
  | a, b => ite_ (okD a = true ∧ okD b = true) (some (eqD a b))
theorem fEq_of {g : Bool → Bool} {a b : D} {q : Bool} {p : D → Prop} (h : eqV a b = some q) (hp : p (.bl (g q))) : fEq g a b p := by
  unfold eqV at h
  unfold fEq
  split at h
  all_goals first
    | (cases h; exact hp)
    | (obtain ⟨h1, h⟩ := ite_some h
       cases h
       (try exact ⟨h1, hp⟩)
       all_goals split
       all_goals first
         | exact ⟨h1, hp⟩
         | (exfalso; rename_i n1 n2 n3 n4 n5 n6 n7; first | exact n1 _ _ rfl rfl | exact n2 _ _ rfl rfl | exact n3 _ _ rfl rfl | exact n4 _ rfl rfl | exact n5 _ rfl rfl | exact n6 _ _ rfl rfl | exact n7 _ _ rfl rfl))
theorem okN_ins {n : Nat} {C : String} {l : List (String × D)} : okN n (.ins C l) = false := by cases n <;> rfl
theorem okN_ty {n : Nat} {l : String} : okN n (.ty l) = false := by cases n <;> rfl
theorem eqV_ok {a b : D} {q : Bool} (h : eqV a b = some q) : (∀ C l, a ≠ .ins C l) ∧ (∀ l, a ≠ .ty l) ∧ (∀ C l, b ≠ .ins C l) ∧ ∀ l, b ≠ .ty l := by
  refine ⟨fun C l e => ?_, fun l e => ?_, fun C l e => ?_, fun l e => ?_⟩
  · subst e
    unfold eqV at h
    obtain ⟨h1, h⟩ := ite_some h
    rw [okD, okN_ins] at h1
    exact absurd h1.1 (by decide)
  · subst e
    unfold eqV at h
    obtain ⟨h1, h⟩ := ite_some h
    rw [okD, okN_ty] at h1
    exact absurd h1.1 (by decide)
  · subst e
    unfold eqV at h
    split at h
    all_goals first
      | (rename_i z; cases z)
      | (obtain ⟨h1, h⟩ := ite_some h
         rw [okD, okD, okN_ins] at h1
         exact absurd h1.2 (by decide))
  · subst e
    unfold eqV at h
    split at h
    all_goals first
      | (rename_i z; cases z)
      | (obtain ⟨h1, h⟩ := ite_some h
         rw [okD, okD, okN_ty] at h1
         exact absurd h1.2 (by decide))
theorem Ow.rd {S : Store} {w : W} {d : D} {L : List Addr} (h : Ow S w d L) (h1 : ∀ C l, d ≠ .ins C l) (h2 : ∀ l, d ≠ .ty l) : rd S w = some d := by
  cases h with
  | d => rfl
  | lst h =>
    show rdW 4 S (.ref _) = _
    unfold rdW
    rw [h]
    dsimp only
    rw [mapO_d]
    rfl
  | dct h =>
    show rdW 4 S (.ref _) = _
    unfold rdW
    rw [h]
    dsimp only
    have e : ∀ fs : List (Key × D), mapO (fun p => (rdW 3 S p.2).map fun d => (p.1, d)) (fs.map fun p => (p.1, W.d p.2)) = some fs := by
      intro fs
      induction fs with
      | nil => rfl
      | cons x l ih =>
        rw [List.map_cons]
        unfold mapO
        have z : rdW 3 S (W.d x.2) = some x.2 := rfl
        rw [z]
        dsimp only [Option.map_some]
        rw [ih]
        rfl
    rw [e]
    rfl
  | obj h r n => exact absurd rfl (h1 _ _)
  | bag h => exact absurd rfl (h2 _)
def foEq : F2 := fun a b => (eqV a b).map .bl
def foNe : F2 := fun a b => (eqV a b).map fun q => .bl (!q)
theorem so_eqG {g : Bool → Bool} {fo : F2} (hf : ∀ a b, fo a b = (eqV a b).map fun q => .bl (g q)) : SO2 (rd2 (fEq g)) fo := fun S x y d e L L' P r hx hy h p => by
  rw [hf] at h
  cases q : eqV d e with
  | none => rw [q] at h; cases h
  | some t =>
    rw [q] at h
    cases h
    obtain ⟨a1, a2, a3, a4⟩ := eqV_ok q
    unfold rd2
    rw [hx.rd a1 a2, hy.rd a3 a4]
    exact fEq_of q p
theorem so_eq : SO2 oEq foEq := so_eqG fun a b => rfl
theorem so_ne : SO2 oNe foNe := so_eqG fun a b => rfl
def isNon : D → Bool
  | .non => true
  | _ => false
def foIsN : F2
  | a, .non => some (.bl (isNon a))
  | _, _ => none
def foNotN : F2
  | a, .non => some (.bl (!isNon a))
  | _, _ => none
theorem Ow.isN {S : Store} {w : W} {d : D} {L : List Addr} (h : Ow S w d L) : w.isN = isNon d := by
  cases h with
  | d => cases d <;> rfl
  | _ => rfl
theorem so_isN : SO2 oIsN foIsN := fun S x y d e L L' P r hx hy h p => by
  unfold foIsN at h
  split at h
  · cases h; rw [hy.non]; unfold oIsN; dsimp only; rw [hx.isN]; exact p
  · cases h
def inD : D → D → Option Bool
  | .str s, .str t => match oneSign s with
    | some c => some (decide (c ∈ t.cps.toList))
    | none => none
  | a, .lst ds => match a.sc, mapSc ds with
    | some u, some us => some (inV u us)
    | _, _ => ite_ (okD a = true ∧ okD (.lst ds) = true) (some (ds.any fun z => eqD z a))
  | a, .tup ds => match a.sc, mapSc ds with
    | some u, some us => some (inV u us)
    | _, _ => none
  | _, _ => none
theorem fIn_of {g : Bool → Bool} {a b : D} {q : Bool} {p : D → Prop} (h : inD a b = some q) (hp : p (.bl (g q))) : fIn g a b p := by
  unfold inD at h
  split at h
  · rename_i s t
    unfold fIn
    dsimp only
    split at h
    · first | (cases h; exact hp; done) | (rename_i e; rw [e]; cases h; exact hp)
    · cases h
  · unfold fIn
    dsimp only
    split at h
    · first | (cases h; exact hp; done) | (rename_i e1 e2; rw [e1, e2]; cases h; exact hp)
    · rename_i n
      obtain ⟨h1, h⟩ := ite_some h
      cases h
      first
        | exact ⟨h1, hp⟩
        | (split
           · rename_i u us e1 e2; exact absurd e2 (n _ _ e1)
           · exact ⟨h1, hp⟩)
  · unfold fIn
    dsimp only
    split at h
    · first | (cases h; exact hp; done) | (rename_i e1 e2; rw [e1, e2]; cases h; exact hp)
    · cases h
  · cases h
theorem inD_ok {a b : D} {q : Bool} (h : inD a b = some q) : (∀ C l, a ≠ .ins C l) ∧ (∀ l, a ≠ .ty l) ∧ (∀ C l, b ≠ .ins C l) ∧ ∀ l, b ≠ .ty l := by
  refine ⟨fun C l e => ?_, fun l e => ?_, fun C l e => ?_, fun l e => ?_⟩
  · subst e
    unfold inD at h
    split at h
    · rename_i z; cases z
    · rename_i ds _
      have e : (D.ins C l).sc = none := rfl
      rw [e] at h
      obtain ⟨h1, h⟩ := ite_some h
      rw [okD, okN_ins] at h1
      exact absurd h1.1 (by decide)
    · have e : (D.ins C l).sc = none := rfl
      rw [e] at h
      cases h
    · cases h
  · subst e
    unfold inD at h
    split at h
    · rename_i z; cases z
    · rename_i ds _
      have e : (D.ty l).sc = none := rfl
      rw [e] at h
      obtain ⟨h1, h⟩ := ite_some h
      rw [okD, okN_ty] at h1
      exact absurd h1.1 (by decide)
    · have e : (D.ty l).sc = none := rfl
      rw [e] at h
      cases h
    · cases h
  · subst e
    unfold inD at h
    split at h <;> first | (rename_i z; cases z) | (cases h)
  · subst e
    unfold inD at h
    split at h <;> first | (rename_i z; cases z) | (cases h)
def foIn : F2 := fun a b => (inD a b).map .bl
def foNin : F2 := fun a b => (inD a b).map fun q => .bl (!q)
theorem so_inG0 {g : Bool → Bool} {fo : F2} (hf : ∀ a b, fo a b = (inD a b).map fun q => .bl (g q)) : SO2 (rd2 (fIn g)) fo := fun S x y d e L L' P r hx hy h p => by
  rw [hf] at h
  cases q : inD d e with
  | none => rw [q] at h; cases h
  | some t =>
    rw [q] at h
    cases h
    obtain ⟨a1, a2, a3, a4⟩ := inD_ok q
    unfold rd2
    rw [hx.rd a1 a2, hy.rd a3 a4]
    exact fIn_of q p
theorem so_nin : SO2 oNin foNin := so_inG0 fun a b => rfl
def foIx : F2
  | .lst l, .int i => L2.atI l i
  | .tup l, .int i => L2.atI l i
  | .str z, .int i => ite_ (z.length ≤ 100000) ((L2.atI z.cps.toList i).map fun c => .str ⟨#[c]⟩)
  | _, _ => none
theorem atI_map {α β : Type} (f : α → β) (l : List α) (i : Int) : L2.atI (l.map f) i = (L2.atI l i).map f := by
  unfold L2.atI
  rw [List.length_map]
  cases ixN l.length i with
  | none => rfl
  | some j => exact List.getElem?_map ..
theorem so_ix : SO2 oIx foIx := fun S x y d e L L' P r hx hy h p => by
  unfold foIx at h
  split at h
  · rw [hy.int]
    unfold oIx
    dsimp only
    rw [hx.lseq]
    dsimp only
    rw [atI_map, h]
    exact p
  · rw [hy.int, hx.tup]
    unfold oIx
    have e1 : ∀ l : List D, lseq S (.d (.tup l)) = none := fun _ => rfl
    have e2 : ∀ l : List D, tseq (.d (.tup l)) = some (l.map .d) := fun _ => rfl
    dsimp only
    rw [e1, e2]
    dsimp only
    rw [atI_map, h]
    exact p
  · rename_i z i
    obtain ⟨h1, h⟩ := ite_some h
    rw [hy.int, hx.str]
    unfold oIx
    have e1 : ∀ l : Str, lseq S (.d (.str l)) = none := fun _ => rfl
    have e2 : ∀ l : Str, tseq (.d (.str l)) = none := fun _ => rfl
    dsimp only
    rw [e1, e2]
    dsimp only
    cases q : L2.atI z.cps.toList i with
    | none => rw [q] at h; cases h
    | some t =>
      rw [q] at h
      cases h
      exact ⟨h1, p⟩
  · cases h
def foSl (d : D) (lo hi : Option Int) : Option D := match d with
  | .lst l => some (.lst (cutW l lo hi))
  | .tup l => some (.tup (cutW l lo hi))
  | .str z => ite_ (z.length ≤ 100000) (some (.str (L2.cutS z lo hi)))
  | _ => none
inductive Ows (S : Store) : List W → List D → Prop
  | nil : Ows S [] []
  | cons {w : W} {d : D} {L : List Addr} {ws : List W} {ds : List D} : Ow S w d L → Ows S ws ds → Ows S (w :: ws) (d :: ds)
abbrev FN := List D → Option D
def SON (o : ON) (fo : FN) : Prop := ∀ S ws ds P r, Ows S ws ds → fo ds = some r → P (.d r) S → o ws S P
section
variable {S : Store} {w : W} {ws : List W} {d : D} {ds : List D}
theorem Ows.one (h : Ows S ws [d]) : ∃ w L, ws = [w] ∧ Ow S w d L := by
  cases h with
  | cons h r => cases r; exact ⟨_, _, rfl, h⟩
theorem Ows.two {e : D} (h : Ows S ws [d, e]) : ∃ w u L L', ws = [w, u] ∧ Ow S w d L ∧ Ow S u e L' := by
  cases h with
  | cons h r => obtain ⟨u, L', rfl, h2⟩ := r.one; exact ⟨_, _, _, _, rfl, h, h2⟩
end
def fbLen : FN
  | [.lst l] => some (.int l.length)
  | [.tup l] => some (.int l.length)
  | [.str z] => ite_ (z.length ≤ 100000) (some (.int z.length))
  | _ => none
theorem sn_len : SON bLen fbLen := fun S ws ds P r hw h p => by
  unfold fbLen at h
  split at h
  · cases h
    obtain ⟨w, L, rfl, hv⟩ := hw.one
    unfold bLen
    dsimp only
    rw [hv.seq rfl]
    dsimp only
    rw [List.length_map]
    exact p
  · cases h
    obtain ⟨w, L, rfl, hv⟩ := hw.one
    unfold bLen
    dsimp only
    rw [hv.seq rfl]
    dsimp only
    rw [List.length_map]
    exact p
  · obtain ⟨h1, h⟩ := ite_some h
    cases h
    obtain ⟨w, L, rfl, hv⟩ := hw.one
    rw [hv.str]
    exact ⟨h1, p⟩
  · cases h
def fbInt : FN
  | [.int i] => some (.int i)
  | [.bl b] => some (.int (if b then 1 else 0))
  | _ => none
def allBD : List D → Option (List Bool)
  | [] => some []
  | .bl b :: l => (allBD l).map (b :: ·)
  | _ => none
def allID : List D → Option (List Int)
  | [] => some []
  | .int b :: l => (allID l).map (b :: ·)
  | _ => none
theorem allB_of : ∀ {l : List D} {bs : List Bool}, allBD l = some bs → allB (l.map .d) = some bs
  | [], bs, h => h
  | .bl b :: l, bs, h => by
    unfold allBD at h
    cases q : allBD l with
    | none => rw [q] at h; cases h
    | some cs =>
      rw [q] at h
      rw [List.map_cons]
      unfold allB
      rw [allB_of q]
      exact h
def fbAll : FN
  | [.lst l] => (allBD l).map fun bs => .bl (bs.all id)
  | _ => none
def fbAny : FN
  | [.lst l] => (allBD l).map fun bs => .bl (bs.any id)
  | _ => none
def fbSum : FN
  | [.lst l] => (allID l).map fun bs => .int bs.sum
  | _ => none
def fbMax : FN
  | [.int a, .int b] => some (.int (max a b))
  | [.lst l] => match allID l with
    | some ns => ite_ (ns ≠ []) (some (.int (mx ns)))
    | none => none
  | _ => none
def fbMin : FN
  | [.int a, .int b] => some (.int (min a b))
  | [.lst l] => match allID l with
    | some ns => ite_ (ns ≠ []) (some (.int (mn ns)))
    | none => none
  | _ => none
theorem sn_all : SON bAll fbAll := fun S ws ds P r hw h p => by
  unfold fbAll at h
  split at h
  · rename_i l
    cases q : allBD l with
    | none => rw [q] at h; cases h
    | some bs =>
      rw [q] at h
      cases h
      obtain ⟨w, L, rfl, hv⟩ := hw.one
      unfold bAll
      dsimp only
      rw [hv.lseq]
      dsimp only
      rw [allB_of q]
      exact p
  · cases h
theorem sn_any : SON bAny fbAny := fun S ws ds P r hw h p => by
  unfold fbAny at h
  split at h
  · rename_i l
    cases q : allBD l with
    | none => rw [q] at h; cases h
    | some bs =>
      rw [q] at h
      cases h
      obtain ⟨w, L, rfl, hv⟩ := hw.one
      unfold bAny
      dsimp only
      rw [hv.lseq]
      dsimp only
      rw [allB_of q]
      exact p
  · cases h
def fbList : FN
  | [.lst l] => some (.lst l)
  | [.tup l] => some (.lst l)
  | _ => none
def fbTup : FN
  | [.lst l] => some (.tup l)
  | [.tup l] => some (.tup l)
  | _ => none
theorem sn_tup : SON bTup fbTup := fun S ws ds P r hw h p => by
  unfold fbTup at h
  split at h
  all_goals first
    | (cases h
       obtain ⟨w, L, rfl, hv⟩ := hw.one
       unfold bTup
       dsimp only
       rw [hv.seq rfl]
       dsimp only
       rw [mkT_map]
       exact p)
    | cases h
def fbStr : FN
  | [.int i] => ite_ (i.natAbs < 2 ^ 60) (some (.str (toString i)))
  | [.str s] => some (.str s)
  | _ => none
theorem sn_str : SON bStr fbStr := fun S ws ds P r hw h p => by
  unfold fbStr at h
  split at h
  · obtain ⟨h1, h⟩ := ite_some h
    cases h
    obtain ⟨w, L, rfl, hv⟩ := hw.one
    rw [hv.int]
    exact ⟨h1, p⟩
  · cases h
    obtain ⟨w, L, rfl, hv⟩ := hw.one
    rw [hv.str]
    exact p
  · cases h
theorem Ow.tg {S : Store} {w : W} {d : D} {L : List Addr} {t : Tg} (h : Ow S w d L) (e : d.tg = some t) : w.tg S = some t := by
  cases h with
  | d => exact e
  | lst h => unfold W.tg; dsimp only; rw [h]; exact e
  | dct h => unfold W.tg; dsimp only; rw [h]; exact e
  | obj h r n => unfold W.tg; dsimp only; rw [h]; exact e
  | bag h => cases e
def fbIsi (cs : List String) (sub : String → String → Bool) : FN
  | [x, y] => match x.tg, y.ctg with
    | some t, some u => (isI cs sub t u).map .bl
    | _, _ => none
  | _ => none
theorem sn_isi {cs : List String} {sub : String → String → Bool} : SON (bIsi cs sub) (fbIsi cs sub) := fun S ws ds P r hw h p => by
  unfold fbIsi at h
  split at h
  · rename_i x y
    split at h
    · rename_i t u e1 e2
      obtain ⟨w, v, L, L', rfl, h1, h2⟩ := hw.two
      have hv : v = .d y := by
        cases h2 with
        | d => rfl
        | lst _ => cases e2
        | dct _ => cases e2
        | obj _ _ _ => cases e2
        | bag _ => cases e2
      rw [hv]
      unfold bIsi
      dsimp only
      rw [h1.tg e1, e2]
      dsimp only
      cases q : isI cs sub t u with
      | none => rw [q] at h; cases h
      | some b => rw [q] at h; cases h; exact p
    · cases h
  · cases h
end
end DX

set_option Elab.async false
set_option linter.all false
set_option maxRecDepth 100000
namespace DX
open PySem L2
noncomputable section
section
variable {c : Cf} {B : Bs} {ρ : Rho} {δ : Slots} {S S' : Store} {os : List (Option Nat)} {ws : List W} {ds : List D} {m ma mb mo : EM} {f fa fb fo' : FE} {mr : AM} {fr : FAs}
theorem AR.ows (k : Em c B ρ δ S) (h : AR c ρ δ os ws ds) : Ows S ws ds := by
  induction h with
  | nil => exact .nil
  | tr d h ih => exact .cons (.d d) ih
  | ow h1 h2 h3 h4 ih =>
    obtain ⟨A, k⟩ := k
    obtain ⟨w, e, hw⟩ := k.ow _ _ h3 h1
    rw [h2] at e
    cases e
    exact .cons hw ih
def fCB (fo : FN) (fr : FAs) : FE := fun ρ => (fr ρ).bind fun ds => opt (fo ds) .ok
theorem qe_cb {o : ON} {fo : FN} (ho : SON o fo) (hr : QA c os mr fr) : QE c (mCB o mr) (fCB fo fr) := fun B ρ δ S P X k q => by
  unfold fCB at q
  rw [Dr.wp_bind] at q
  refine hr B ρ δ S _ X k (q.imp (fun ds q S1 ws k1 h => ?_) fun e z => z)
  obtain ⟨r, e, q⟩ := opt_wp q
  exact ho S1 ws ds _ r (h.ows k1) e (q S1 k1)
def fIsT (cs : List String) (sub : String → String → Bool) (fa : FE) (fr : FAs) : FE := fun ρ => (fa ρ).bind fun a => (fr ρ).bind fun ds => must (ds.length ≤ 1000) (opt a.tg fun t => opt (isAny cs sub t ds) fun b => must (ds.all (fun d => d.ctg.isSome) = true) (match t with
  | .own C => must (C ∈ cs) (.ok (.bl b))
  | _ => .ok (.bl b)))
theorem qe_isiT {cs : List String} {sub : String → String → Bool} (ha : QE c ma fa) (hr : QA c os mr fr) (n : os.all (·.isNone) = true := by rfl) : QE c (mIsiT cs sub ma mr) (fIsT cs sub fa fr) := fun B ρ δ S P X k q => by
  unfold fIsT at q
  rw [Dr.wp_bind] at q
  refine ha B ρ δ S _ X k (q.imp (fun a q S1 k1 => ?_) fun e z => z)
  rw [Dr.wp_bind] at q
  refine hr B ρ δ S1 _ X k1 (q.imp (fun ds q S2 ws k2 h => ?_) fun e z => z)
  obtain ⟨h1, q⟩ := must_wp q
  obtain ⟨t, h2, q⟩ := opt_wp q
  obtain ⟨b, h3, q⟩ := opt_wp q
  obtain ⟨h4, q⟩ := must_wp q
  rw [h.trees n]
  refine ⟨by simpa using h1, ?_⟩
  unfold fIsiT
  rw [allD_map]
  have e : (W.d a).tg S2 = some t := h2
  dsimp only
  rw [e]
  dsimp only
  rw [h3]
  cases t with
  | own C =>
    obtain ⟨h5, q⟩ := must_wp q
    exact ⟨h5, h4, q S2 k2⟩
  | _ => exact ⟨trivial, h4, q S2 k2⟩
abbrev FP := Rho → Dr (Option Int)
def fpNo : FP := fun _ => .ok none
def fpAt (fa : FE) : FP := fun ρ => (fa ρ).bind fun a => match a with
  | .int i => .ok (some i)
  | _ => .no
def fSl (fa : FE) (lo hi : FP) : FE := fun ρ => (fa ρ).bind fun a => (lo ρ).bind fun l => (hi ρ).bind fun h => opt (foSl a l h) .ok
inductive OwA (S : Store) : List Bool → List W → List D → List (List Addr) → Prop
  | nil : OwA S [] [] [] []
  | tr {bs : List Bool} {ws : List W} {ds : List D} {Ls : List (List Addr)} (d : D) : OwA S bs ws ds Ls → OwA S (false :: bs) (.d d :: ws) (d :: ds) ([] :: Ls)
  | ow {bs : List Bool} {ws : List W} {ds : List D} {Ls : List (List Addr)} {w : W} {d : D} {L : List Addr} : Ow S w d L → OwA S bs ws ds Ls → (∀ b ∈ L, ∀ L' ∈ Ls, b ∉ L') → cel w d → OwA S (true :: bs) (w :: ws) (d :: ds) (L :: Ls)
def FrL (Ls : List (List Addr)) (S S' : Store) : Prop := ∀ b x, (∀ L ∈ Ls, b ∉ L) → S b = some x → S' b = some x
abbrev DF := List D → Dr D
def QF (bs : List Bool) (sp : DSp) (F : DF) : Prop := ∀ ws ds S Ls P X, OwA S bs ws ds Ls → (F ds).wp (fun d => ∀ S', FrL Ls S S' → OwA S' bs ws ds Ls → P (.d d) S') (fun e => ∀ S', FrL Ls S S' → OwA S' bs ws ds Ls → X e.w S') → sp ws S P X
def QFO (bs : List Bool) (sp : DSp) (F : DF) : Prop := ∀ ws ds S Ls P X, OwA S bs ws ds Ls → (F ds).wp (fun d => ∀ S' w Lr, FrL Ls S S' → OwA S' bs ws ds Ls → Ow S' w d Lr → (∀ b ∈ Lr, S b = none) → cel w d → P w S') (fun e => ∀ S', FrL Ls S S' → OwA S' bs ws ds Ls → X e.w S') → sp ws S P X
theorem OwA.al {bs : List Bool} {Ls : List (List Addr)} (h : OwA S bs ws ds Ls) : ∀ L ∈ Ls, ∀ b ∈ L, S b ≠ none := by
  induction h with
  | nil => intro L hL; cases hL
  | tr d h ih =>
    intro L hL b hb
    rcases List.mem_cons.mp hL with rfl | hL
    · cases hb
    · exact ih L hL b hb
  | ow h1 h2 h3 _ ih =>
    intro L hL b hb
    rcases List.mem_cons.mp hL with rfl | hL
    · exact h1.al b hb
    · exact ih L hL b hb
def cellsAt (L : Nat → List Addr) : Option Nat → List Addr
  | none => []
  | some i => L i
theorem AR.mem {ρ : Rho} {δ : Slots} {i : Nat} (h : AR c ρ δ os ws ds) (hi : some i ∈ os) : i ∈ c.own ∧ ∃ w d, δ[i]? = some (some w) ∧ ρ[i]? = some (some d) := by
  induction h with
  | nil => cases hi
  | tr d h ih =>
    rcases List.mem_cons.mp hi with e | hi
    · cases e
    · exact ih hi
  | ow h1 h2 h3 h4 ih =>
    rcases List.mem_cons.mp hi with e | hi
    · cases e; exact ⟨h1, _, _, h2, h3⟩
    · exact ih hi
theorem AR.owa {A : Addr → Prop} {L : Nat → List Addr} (k : EmC c B ρ δ S A L) (h : AR c ρ δ os ws ds) (n : (os.filterMap id).Nodup) : OwA S (os.map (·.isSome)) ws ds (os.map (cellsAt L)) := by
  induction h with
  | nil => exact .nil
  | tr d h ih => exact .tr d (ih n)
  | ow h1 h2 h3 h4 ih =>
    rename_i os ws ds i w d
    have n : (i :: os.filterMap id).Nodup := n
    obtain ⟨w', e, hw⟩ := k.ow _ _ h3 h1
    rw [h2] at e
    cases e
    refine .ow hw (ih (List.nodup_cons.mp n).2) (fun b hb L' hL' hb' => ?_) (k.ce _ _ _ h3 h1 h2)
    obtain ⟨o, ho, rfl⟩ := List.mem_map.mp hL'
    cases o with
    | none => cases hb'
    | some j =>
      have ne : i ≠ j := fun z => (List.nodup_cons.mp n).1 (List.mem_filterMap.mpr ⟨some j, ho, by rw [z]; rfl⟩)
      exact k.dis i j b ne hb hb'
theorem AR.back {L : Nat → List Addr} (h : AR c ρ δ os ws ds) : OwA S' (os.map (·.isSome)) ws ds (os.map (cellsAt L)) → ∀ i d w, some i ∈ os → ρ[i]? = some (some d) → δ[i]? = some (some w) → Ow S' w d (L i) := by
  induction h with
  | nil => intro _ i d w hi; cases hi
  | tr d h ih =>
    intro q i e w hi h1 h2
    rcases List.mem_cons.mp hi with z | hi
    · cases z
    · generalize hL : List.map (cellsAt L) _ = Ls at q
      cases q with
      | tr _ q =>
        rw [List.map_cons] at hL
        injection hL with _ hL
        rw [← hL] at q
        exact ih q i e w hi h1 h2
  | ow h1 h2 h3 h4 ih =>
    intro q i e w hi g1 g2
    generalize hL : List.map (cellsAt L) _ = Ls at q
    cases q with
    | ow q1 q2 q3 _ =>
      rw [List.map_cons] at hL
      injection hL with hL0 hL
      rw [← hL] at q2
      rcases List.mem_cons.mp hi with z | hi
      · cases z
        rw [h2] at g2
        cases g2
        rw [h3] at g1
        cases g1
        rw [← hL0] at q1
        exact q1
      · exact ih q2 i e w hi g1 g2
theorem EmC.call {A : Addr → Prop} {L : Nat → List Addr} (k : EmC c B ρ δ S A L) (h : AR c ρ δ os ws ds) (f : FrL (os.map (cellsAt L)) S S') (q : OwA S' (os.map (·.isSome)) ws ds (os.map (cellsAt L))) : EmC c B ρ δ S' A L := by
  refine k.onto (fun b x h1 h2 => f b x (fun L' hL' hb => ?_) h2) (fun b hb => ?_) (fun i d w h1 h2 h3 h4 => ?_)
  · obtain ⟨o, ho, rfl⟩ := List.mem_map.mp hL'
    cases o with
    | none => cases hb
    | some j => exact h1 (k.inA j b hb)
  · by_cases z : ∃ L' ∈ os.map (cellsAt L), b ∈ L'
    · obtain ⟨L', h1, h2⟩ := z
      exact q.al L' h1 b h2
    · cases e : S b with
      | none => exact absurd e (k.al b hb)
      | some x =>
        rw [f b x (fun L' h1 h2 => z ⟨L', h1, h2⟩) e]
        simp
  · by_cases z : some i ∈ os
    · exact h.back q i d w z h1 h3
    · refine h4.frS fun b x hb e => f b x (fun L' hL' hb' => ?_) e
      obtain ⟨o, ho, rfl⟩ := List.mem_map.mp hL'
      cases o with
      | none => cases hb'
      | some j => exact k.dis i j b (fun y => z (y ▸ ho)) hb hb'
theorem EmC.none_ {A : Addr → Prop} {L : Nat → List Addr} (k : EmC c B ρ δ S A L) {b : Addr} (h : S b = none) : ¬ A b ∧ B.S0 b = none := by
  refine ⟨fun q => k.al b q h, ?_⟩
  cases q : B.S0 b with
  | none => rfl
  | some y =>
    by_cases z : B.A0 b
    · exact absurd h (k.al b (k.a0 b z))
    · rw [k.fr b y z q] at h; cases h
def fCall (F : DF) (fr : FAs) : FE := fun ρ => (fr ρ).bind F
theorem qe_call {bs : List Bool} {sp : DSp} {F : DF} (hF : QF bs sp F) (hr : QA c os mr fr) (hb : os.map (·.isSome) = bs := by rfl) (n : (os.filterMap id).Nodup := by decide) : QE c (mCall sp mr) (fCall F fr) := fun B ρ δ S P X k q => by
  subst hb
  unfold fCall at q
  rw [Dr.wp_bind] at q
  refine hr B ρ δ S _ X k (q.imp (fun ds q S1 ws k1 h => ?_) fun e z => z)
  obtain ⟨A, k1⟩ := k1
  exact hF ws ds S1 _ P X (h.owa k1 n) (q.imp (fun d q S' f o => q S' ⟨A, k1.call h f o⟩) fun e q S' f o => q S' ⟨A, k1.call h f o⟩)
theorem qo_call {bs : List Bool} {sp : DSp} {F : DF} (hF : QFO bs sp F) (hr : QA c os mr fr) (hb : os.map (·.isSome) = bs := by rfl) (n : (os.filterMap id).Nodup := by decide) : QO c (mCall sp mr) (fCall F fr) := fun B ρ δ S P X k q => by
  subst hb
  unfold fCall at q
  rw [Dr.wp_bind] at q
  refine hr B ρ δ S _ X k (q.imp (fun ds q S1 ws k1 h => ?_) fun e z => z)
  obtain ⟨A, k1⟩ := k1
  exact hF ws ds S1 _ P X (h.owa k1 n) (q.imp (fun d q S' w Lr f o hw hr hc => q S' w ⟨A, Lr, k1.call h f o, hw, fun b hb => k1.none_ (hr b hb), hc⟩) fun e q S' f o => q S' ⟨A, k1.call h f o⟩)
theorem OwA.app {bs : List Bool} {Ls : List (List Addr)} (h : OwA S bs ws ds Ls) (es : List D) : OwA S (bs ++ es.map fun _ => false) (ws ++ es.map .d) (ds ++ es) (Ls ++ es.map fun _ => []) := by
  induction h with
  | nil =>
    induction es with
    | nil => exact .nil
    | cons e es ih => exact .tr e ih
  | tr d h ih => exact .tr d ih
  | ow h1 h2 h3 h4 ih =>
    refine .ow h1 ih (fun b hb L' hL' => ?_) h4
    rcases List.mem_append.mp hL' with hL' | hL'
    · exact h3 b hb L' hL'
    · obtain ⟨_, _, rfl⟩ := List.mem_map.mp hL'
      simp
theorem OwA.unapp {es : List D} : ∀ {bs : List Bool} {ws : List W} {ds : List D} {Ls : List (List Addr)}, bs.length = ws.length → ws.length = ds.length → ws.length = Ls.length → OwA S (bs ++ es.map fun _ => false) (ws ++ es.map .d) (ds ++ es) (Ls ++ es.map fun _ => []) → OwA S bs ws ds Ls
  | [], [], [], [], _, _, _, _ => .nil
  | b :: bs, w :: ws, d :: ds, L :: Ls, h1, h2, h3, h => by
    simp only [List.cons_append] at h
    cases h with
    | tr d h => exact .tr d (OwA.unapp (by simpa using h1) (by simpa using h2) (by simpa using h3) h)
    | ow g1 g2 g3 g4 => exact .ow g1 (OwA.unapp (by simpa using h1) (by simpa using h2) (by simpa using h3) g2) (fun b hb L' hL' => g3 b hb L' (List.mem_append_left _ hL')) g4
  | [], _ :: _, _, _, h, _, _, _ => by simp at h
  | _ :: _, [], _, _, h, _, _, _ => by simp at h
  | [], [], _ :: _, _, _, h, _, _ => by simp at h
  | _ :: _, _ :: _, [], _, _, h, _, _ => by simp at h
  | [], [], [], _ :: _, _, _, h, _ => by simp at h
  | _ :: _, _ :: _, _ :: _, [], _, _, h, _ => by simp at h
theorem OwA.lens {bs : List Bool} {Ls : List (List Addr)} (h : OwA S bs ws ds Ls) : bs.length = ws.length ∧ ws.length = ds.length ∧ ws.length = Ls.length := by
  induction h with
  | nil => exact ⟨rfl, rfl, rfl⟩
  | tr d h ih => exact ⟨congrArg (· + 1) ih.1, congrArg (· + 1) ih.2.1, congrArg (· + 1) ih.2.2⟩
  | ow h1 h2 h3 _ ih => exact ⟨congrArg (· + 1) ih.1, congrArg (· + 1) ih.2.1, congrArg (· + 1) ih.2.2⟩
theorem FrL.app {Ls : List (List Addr)} {es : List D} (h : FrL (Ls ++ es.map fun _ => []) S S') : FrL Ls S S' := fun b x h1 h2 => h b x (fun L hL hb => by
  rcases List.mem_append.mp hL with hL | hL
  · exact h1 L hL hb
  · obtain ⟨_, _, rfl⟩ := List.mem_map.mp hL
    cases hb) h2
theorem qf_dfl {bs bs' : List Bool} {sp : DSp} {F : DF} {es : List D} {us : List W} (hF : QF bs sp F) (hu : us = es.map .d) (hb : bs = bs' ++ es.map fun _ => false) : QF bs' (fun ws => sp (ws ++ us)) (fun ds => F (ds ++ es)) := fun ws ds S Ls P X h q => by
  subst hu hb
  obtain ⟨l1, l2, l3⟩ := h.lens
  exact hF _ _ S _ P X (h.app es) (q.imp (fun d q S' f o => q S' f.app (o.unapp l1 l2 l3)) fun e q S' f o => q S' f.app (o.unapp l1 l2 l3))
theorem OwA.trees {ds : List D} : ∀ {n : Nat}, ds.length = n → OwA S (List.replicate n false) (ds.map .d) ds (List.replicate n []) := by
  induction ds with
  | nil => intro n h; cases h; exact .nil
  | cons d ds ih => intro n h; cases h; exact .tr d (ih rfl)
theorem OwA.allT {n : Nat} {Ls : List (List Addr)} (h : OwA S (List.replicate n false) ws ds Ls) : ws = ds.map .d := by
  generalize hb : List.replicate n false = bs at h
  induction h generalizing n with
  | nil => rfl
  | tr d h ih =>
    cases n with
    | zero => cases hb
    | succ n =>
      rw [List.replicate_succ] at hb
      injection hb with _ hb
      rw [ih hb]
      rfl
  | ow h1 h2 h3 _ ih =>
    cases n with
    | zero => cases hb
    | succ n => rw [List.replicate_succ] at hb; injection hb with hb; cases hb
theorem FrL.trees {n : Nat} (h : FrL (List.replicate n []) S S') : ∀ b x, S b = some x → S' b = some x := fun b x e => h b x (fun L hL hb => by
  rw [(List.mem_replicate.mp hL).2] at hb
  cases hb) e
theorem qf_re {n j : Nat} {sp : DSp} {F : DF} {g : List W → List W} {gd : List D → List D} (hF : QF (List.replicate n false) sp F) (hg : ∀ ds, ds.length = j → g (ds.map .d) = (gd ds).map .d ∧ (gd ds).length = n) : QF (List.replicate j false) (fun ws => sp (g ws)) (fun ds => F (gd ds)) := fun ws ds S Ls P X h q => by
  have e := h.allT
  have l := h.lens
  subst e
  have hl : ds.length = j := by rw [← l.2.1, ← l.1]; simp
  obtain ⟨g1, g2⟩ := hg ds hl
  show sp (g (ds.map .d)) S P X
  rw [g1]
  refine hF _ _ S _ P X (.trees g2) (q.imp (fun d q S' f o => q S' (fun b x h1 h2 => f.trees b x h2) ?_) fun e q S' f o => q S' (fun b x h1 h2 => f.trees b x h2) ?_)
  all_goals
    have hk : ∀ {bs : List Bool} {ws : List W} {ds : List D} {Ls : List (List Addr)}, OwA S bs ws ds Ls → (∀ b x, S b = some x → S' b = some x) → OwA S' bs ws ds Ls := fun {bs ws ds Ls} h e => by
      induction h with
      | nil => exact .nil
      | tr d h ih => exact .tr d ih
      | ow h1 h2 h3 h4 ih => exact .ow (h1.frS fun b x _ h => e b x h) ih h3 h4
    exact hk h f.trees
def fCallK (F : DF) (fr fk : FAs) : FE := fun ρ => (fr ρ).bind fun ds => (fk ρ).bind fun es => F (ds ++ es)
theorem AR.app {os' : List (Option Nat)} {us : List W} {es : List D} (h : AR c ρ δ os ws ds) (g : AR c ρ δ os' us es) : AR c ρ δ (os ++ os') (ws ++ us) (ds ++ es) := by
  induction h with
  | nil => exact g
  | tr d h ih => exact .tr d ih
  | ow h1 h2 h3 h4 ih => exact .ow h1 h2 h3 ih
theorem AR.len (h : AR c ρ δ os ws ds) : ws.length = os.length := by
  induction h with
  | nil => rfl
  | tr d h ih => exact congrArg (· + 1) ih
  | ow h1 h2 h3 h4 ih => exact congrArg (· + 1) ih
theorem qe_callK {bs : List Bool} {sp : DSp} {F : DF} {os' : List (Option Nat)} {mk : AM} {fk : FAs} {n j : Nat} (hF : QF bs sp F) (hr : QA c os mr fr) (hk : QA c os' mk fk) (hn : os.length = n := by rfl) (hj : os'.length = j := by rfl) (hb : (os ++ os').map (·.isSome) = bs := by rfl) (nd : ((os ++ os').filterMap id).Nodup := by decide) : QE c (mCallK n j sp mr mk) (fCallK F fr fk) := fun B ρ δ S P X k q => by
  subst hb
  unfold fCallK at q
  rw [Dr.wp_bind] at q
  refine hr B ρ δ S _ X k (q.imp (fun ds q S1 ws k1 h => ?_) fun e z => z)
  rw [Dr.wp_bind] at q
  refine hk B ρ δ S1 _ X k1 (q.imp (fun es q S2 us k2 h' => ?_) fun e z => z)
  obtain ⟨A, k2⟩ := k2
  refine ⟨h.len.trans hn, h'.len.trans hj, ?_⟩
  exact hF _ _ S2 _ P X ((h.app h').owa k2 nd) (q.imp (fun d q S' f o => q S' ⟨A, k2.call (h.app h') f o⟩) fun e q S' f o => q S' ⟨A, k2.call (h.app h') f o⟩)
theorem qo_callK {bs : List Bool} {sp : DSp} {F : DF} {os' : List (Option Nat)} {mk : AM} {fk : FAs} {n j : Nat} (hF : QFO bs sp F) (hr : QA c os mr fr) (hk : QA c os' mk fk) (hn : os.length = n := by rfl) (hj : os'.length = j := by rfl) (hb : (os ++ os').map (·.isSome) = bs := by rfl) (nd : ((os ++ os').filterMap id).Nodup := by decide) : QO c (mCallK n j sp mr mk) (fCallK F fr fk) := fun B ρ δ S P X k q => by
  subst hb
  unfold fCallK at q
  rw [Dr.wp_bind] at q
  refine hr B ρ δ S _ X k (q.imp (fun ds q S1 ws k1 h => ?_) fun e z => z)
  rw [Dr.wp_bind] at q
  refine hk B ρ δ S1 _ X k1 (q.imp (fun es q S2 us k2 h' => ?_) fun e z => z)
  obtain ⟨A, k2⟩ := k2
  refine ⟨h.len.trans hn, h'.len.trans hj, ?_⟩
  exact hF _ _ S2 _ P X ((h.app h').owa k2 nd) (q.imp (fun d q S' w Lr f o hw hr hc => q S' w ⟨A, Lr, k2.call (h.app h') f o, hw, fun b hb => k2.none_ (hr b hb), hc⟩) fun e q S' f o => q S' ⟨A, k2.call (h.app h') f o⟩)
end
end
end DX

set_option Elab.async false
set_option linter.all false
set_option maxRecDepth 100000
namespace DX
open PySem L2
noncomputable section
section
variable {c : Cf} {B : Bs} {ρ : Rho} {δ : Slots} {S S' : Store} {os : List (Option Nat)} {ws : List W} {ds : List D} {m ma mb mo : EM} {f fa fb fo : FE} {mr mk : AM} {fr fk : FAs} {name : String}
theorem lookup_d {f : String} : ∀ fs : List (String × D), (fs.map fun p => (p.1, W.d p.2)).lookup f = (fs.lookup f).map .d
  | [] => rfl
  | (g, d) :: fs => by
    rw [List.map_cons, List.lookup_cons, List.lookup_cons]
    cases f == g with
    | true => rfl
    | false => exact lookup_d fs
inductive FAt where
  | fld | con (d : D) | prp (F : DF)
inductive AtR : AtK → FAt → Prop
  | fld : AtR .fld .fld
  | con (d : D) : AtR (.con d) (.con d)
  | prp {sp : DSp} {F : DF} : QF [false] sp F → AtR (.prp sp) (.prp F)
inductive TbR {α β : Type} (R : α → β → Prop) : List (String × α) → List (String × β) → Prop
  | nil : TbR R [] []
  | cons {n : String} {a : α} {b : β} {l : List (String × α)} {r : List (String × β)} : R a b → TbR R l r → TbR R ((n, a) :: l) ((n, b) :: r)
theorem TbR.at {α β : Type} {R : α → β → Prop} {l : List (String × α)} {r : List (String × β)} {n : String} {b : β} (h : TbR R l r) (e : r.lookup n = some b) : ∃ a, l.lookup n = some a ∧ R a b := by
  induction h with
  | nil => cases e
  | cons h t ih =>
    rename_i n0 a0 b0 l r
    rw [List.lookup_cons] at e ⊢
    cases q : n == n0 with
    | true => rw [q] at e; cases e; exact ⟨_, rfl, h⟩
    | false => rw [q] at e; exact ih e
def atF (name : String) (tb : List (String × FAt)) (o : D) : Dr D := match o with
  | .ins C fs => match tb.lookup C with
    | some .fld => opt (fs.lookup name) .ok
    | some (.con d) => must ((fs.lookup name).isNone = true) (.ok d)
    | some (.prp F) => (F [o]).calm
    | none => .no
  | _ => .no
def fAttr (name : String) (tb : List (String × FAt)) (fo : FE) : FE := fun ρ => (fo ρ).bind (atF name tb)
theorem qe_attr {tb : List (String × AtK)} {tf : List (String × FAt)} (ho : QE c mo fo) (ht : TbR AtR tb tf) : QE c (mAttr name tb mo) (fAttr name tf fo) := fun B ρ δ S P X k q => by
  unfold fAttr at q
  rw [Dr.wp_bind] at q
  refine ho B ρ δ S _ X k (q.imp (fun o q S1 k1 => ?_) fun e z => z)
  cases o with
  | ins C fs =>
    unfold atF at q
    dsimp only at q
    show (match tb.lookup C with | some .fld => _ | some (.con d) => _ | some (.prp sp) => _ | none => False)
    cases e : tf.lookup C with
    | none => rw [e] at q; exact q.elim
    | some t =>
      rw [e] at q
      obtain ⟨a, ea, r⟩ := ht.at e
      rw [ea]
      cases r with
      | fld =>
        obtain ⟨v, ev, q⟩ := opt_wp q
        dsimp only
        rw [lookup_d, ev]
        exact q S1 k1
      | con d =>
        obtain ⟨h, q⟩ := must_wp q
        dsimp only
        rw [lookup_d, Option.isNone_iff_eq_none.mp h]
        exact ⟨rfl, q S1 k1⟩
      | prp hF =>
        obtain ⟨A, k1⟩ := k1
        have h0 : OwA S1 [false] [.d (.ins C fs)] [.ins C fs] [[]] := .tr _ .nil
        have q : ((_ : Dr D).calm).wp _ _ := q
        exact hF _ _ S1 _ P (fun _ _ => False) h0 (Dr.wp_calm (q.imp (fun d q S' f o => q S' ⟨A, k1.call (os := [none]) (.tr (.ins C fs) .nil) f o⟩) fun e z => z))
  | _ => exact q.elim
def methF (name : String) (tb : List (String × DF)) (o : D) (k : DF → Dr D) : Dr D := match o with
  | .ins C fs => must ((fs.lookup name).isNone = true) (opt (tb.lookup C) k)
  | _ => .no
def fMeth (name : String) (tb : List (String × DF)) (fo : FE) (fr : FAs) : FE := fun ρ => (fo ρ).bind fun o => methF name tb o fun F => (fr ρ).bind fun ds => F (o :: ds)
def fMethK (name : String) (tb : List (String × DF)) (fo : FE) (fr fk : FAs) : FE := fun ρ => (fo ρ).bind fun o => methF name tb o fun F => (fr ρ).bind fun ds => (fk ρ).bind fun es => F (o :: (ds ++ es))
theorem methF_wp {name : String} {tb : List (String × DSp)} {tf : List (String × DF)} {o : D} {k : DF → Dr D} {P : D → Prop} {X : ExD → Prop} {R : DSp → DF → Prop} (ht : TbR R tb tf) (q : (methF name tf o k).wp P X) : ∃ C fs sp F, o = .ins C fs ∧ (fs.map fun p => (p.1, W.d p.2)).lookup name = none ∧ tb.lookup C = some sp ∧ R sp F ∧ (k F).wp P X := by
  cases o with
  | ins C fs =>
    obtain ⟨h, q⟩ := must_wp q
    obtain ⟨F, e, q⟩ := opt_wp q
    obtain ⟨sp, ea, r⟩ := ht.at e
    exact ⟨C, fs, sp, F, rfl, by rw [lookup_d, Option.isNone_iff_eq_none.mp h]; rfl, ea, r, q⟩
  | _ => exact q.elim
def fStar (n : Nat) (F : DF) : DF := fun ds => must (n ≤ ds.length ∧ ds.length ≤ 1000000) (F (ds.take n ++ [.tup (ds.drop n)]))
theorem OwA.keep {bs : List Bool} {Ls : List (List Addr)} (h : OwA S bs ws ds Ls) (e : ∀ b x, S b = some x → S' b = some x) : OwA S' bs ws ds Ls := by
  induction h with
  | nil => exact .nil
  | tr d h ih => exact .tr d ih
  | ow h1 h2 h3 h4 ih => exact .ow (h1.frS fun b x _ h => e b x h) ih h3 h4
def fMethS (name : String) (tb : List (String × DF)) (fo fa : FE) : FE := fun ρ => (fo ρ).bind fun o => methF name tb o fun F => (fa ρ).bind fun d => opt (seqD d) fun ds => F (o :: ds)
abbrev MF := List D → Dr (D × D)
def QM (bs : List Bool) (sp : DSp) (F : MF) : Prop := ∀ w g L0 ws ds S Ls P X, Ow S w g L0 → cel w g → OwA S bs ws ds Ls → (∀ b ∈ L0, ∀ L' ∈ Ls, b ∉ L') → (F (g :: ds)).wp (fun r => ∀ S' L1, FrL (L0 :: Ls) S S' → Ow S' w r.2 L1 → (∀ b ∈ L1, b ∈ L0 ∨ S b = none) → OwA S' bs ws ds Ls → (∀ b ∈ L0, S' b ≠ none) → P (.d r.1) S')
  (fun e => ∀ S', FrL (L0 :: Ls) S S' → OwA S' bs ws ds Ls → (∀ b ∈ L0, S' b ≠ none) → X e.w S') → sp (w :: ws) S P X
def fMk (C : String) (F : MF) : DF := fun ds => (F (.ins C [] :: ds)).bind fun r => match r.1 with
  | .non => .ok r.2
  | _ => .no
theorem qf_mk {C : String} {bs : List Bool} {sp : DSp} {F : MF} (hF : QM bs sp F) : QFO bs (mkD C sp) (fMk C F) := fun ws ds S Ls P X h q => by
  unfold fMk at q
  rw [Dr.wp_bind] at q
  intro a ha
  have up : ∀ b x, S b = some x → upS S a (.obj C []) b = some x := fun b x e => by
    rw [upS_ne (fun z => by rw [z, ha] at e; cases e)]
    exact e
  have dn : ∀ b, upS S a (.obj C []) b = none → S b = none := fun b e => by
    cases q : S b with
    | none => rfl
    | some x => rw [up b x q] at e; cases e
  refine hF (.ref a) (.ins C []) [a] ws ds _ Ls _ X (.obj upS_same .nil (by simp)) (fun _ => ⟨a, rfl⟩) (h.keep up) (fun b hb L' hL' hb' => ?_) (q.imp (fun r q S' L1 f o n oa _ => ?_) fun e q S' f oa _ => q S' (fun b x h1 h2 => f b x (fun L hL hb => ?_) (up b x h2)) oa)
  · rw [List.mem_singleton.mp hb] at hb'
    exact h.al L' hL' a hb' ha
  · obtain ⟨r1, r2⟩ := r
    cases r1 with
    | non =>
      refine q S' _ L1 (fun b x h1 h2 => f b x (fun L hL hb => ?_) (up b x h2)) oa o (fun b hb => ?_) fun _ => ⟨a, rfl⟩
      · rcases List.mem_cons.mp hL with rfl | hL
        · rw [List.mem_singleton.mp hb, ha] at h2; cases h2
        · exact h1 L hL hb
      · rcases n b hb with z | z
        · rw [List.mem_singleton.mp z]; exact ha
        · exact dn b z
    | _ => exact q.elim
  · rcases List.mem_cons.mp hL with rfl | hL
    · rw [List.mem_singleton.mp hb, ha] at h2; cases h2
    · exact h1 L hL hb
def flatD : D → Bool
  | .ins _ gs => gs.all fun p => !cellF p.1
  | _ => false
def fFrz (f : FE) : FE := fun ρ => (f ρ).bind fun d => must (flatD d = true) (.ok d)
theorem Owf.flat {fs : List (String × W)} {gs : List (String × D)} {L : List Addr} (h : Owf S fs gs L) (n : (gs.all fun p => !cellF p.1) = true) : fs = gs.map (fun p => (p.1, W.d p.2)) ∧ L = [] := by
  match h with
  | .nil => exact ⟨rfl, rfl⟩
  | .cons h r _ z _ =>
    rw [List.all_cons, Bool.and_eq_true] at n
    obtain ⟨e1, e2⟩ := r.flat n.2
    have e := z (by simpa using n.1)
    subst e
    rw [e1, e2]
    refine ⟨rfl, ?_⟩
    cases h
    rfl
theorem frzf_d {n : Nat} : ∀ (gs : List (String × D)) (S : Store), frzW.frzf (frzW n) S (gs.map fun p => (p.1, W.d p.2)) = some (gs, S)
  | [], S => rfl
  | (g, d) :: gs, S => by
    have e : frzW n S (.d d) = some (d, S) := by cases n <;> rfl
    simp only [List.map_cons, frzW.frzf, e, frzf_d gs S, Option.map_some]
end
end
end DX

set_option Elab.async false
set_option linter.all false
set_option maxRecDepth 100000
namespace DX
open PySem L2
noncomputable section
section
variable {c : Cf} {B : Bs} {ρ ρ' : Rho} {δ δ' : Slots} {S S' : Store} {os : List (Option Nat)} {ws : List W} {ds : List D} {m ma mb mo : EM} {f fa fb fo : FE} {mr mk : AM} {fr fk : FAs} {t u : TM} {ft fu : FT}
abbrev FG := D → Rho → Dr Rho
def Only (vs : List Nat) (ρ ρ' : Rho) (δ δ' : Slots) : Prop := ∀ j, j ∉ vs → ρ'[j]? = ρ[j]? ∧ δ'[j]? = δ[j]?
def QG (c : Cf) (vs : List Nat) (g : GM) (fg : FG) : Prop := ∀ B ρ δ S d Ps X, Em c B ρ δ S → (fg d ρ).wp (fun ρ' => ∀ δ' S', Em c B ρ' δ' S' → Only vs ρ ρ' δ δ' → Ps δ' S') (fun e => ∀ S', Em c B ρ δ S' → X e.w S') → g (.d d) δ S Ps X
def QGs (c : Cf) (vs : List Nat) (g : GsM) (fg : List D → Rho → Dr Rho) : Prop := ∀ B ρ δ S ds Ps X, Em c B ρ δ S → (fg ds ρ).wp (fun ρ' => ∀ δ' S', Em c B ρ' δ' S' → Only vs ρ ρ' δ δ' → Ps δ' S') (fun e => ∀ S', Em c B ρ δ S' → X e.w S') → g (ds.map .d) δ S Ps X
def ftN (i : Nat) : FG := fun d ρ => .ok (ρ.set i (some d))
def ftNil : List D → Rho → Dr Rho := fun ds ρ => match ds with
  | [] => .ok ρ
  | _ => .no
def ftCons (i : Nat) (gs : List D → Rho → Dr Rho) : List D → Rho → Dr Rho := fun ds ρ => match ds with
  | d :: ds => gs ds (ρ.set i (some d))
  | [] => .no
def ftT (n : Nat) (gs : List D → Rho → Dr Rho) : FG := fun d ρ => match d with
  | .tup ds => must (ds.length = n) (gs ds ρ)
  | _ => .no
theorem qg_n {i : Nat} (h1 : i ∉ c.own := by decide) (h2 : i ∉ c.pr := by decide) (h3 : i ∉ c.mu := by decide) : QG c [i] (tgN i) (ftN i) := fun B ρ δ S d Ps X k q => q _ S (k.set h1 h2 h3) fun j hj => by
  have ne : i ≠ j := fun z => hj (by simp [z])
  rw [List.getElem?_set_ne ne, List.getElem?_set_ne ne]
  exact ⟨rfl, rfl⟩
theorem qgs_nil : QGs c [] tgsNil ftNil := fun B ρ δ S ds Ps X k q => by
  cases ds with
  | nil => exact q δ S k fun j _ => ⟨rfl, rfl⟩
  | cons d ds => exact q.elim
theorem qgs_cons {i : Nat} {vs : List Nat} {ms : GsM} {gs : List D → Rho → Dr Rho} (hr : QGs c vs ms gs) (h1 : i ∉ c.own := by decide) (h2 : i ∉ c.pr := by decide) (h3 : i ∉ c.mu := by decide) : QGs c (i :: vs) (tgsCons (tgN i) ms) (ftCons i gs) := fun B ρ δ S ds Ps X k q => by
  cases ds with
  | nil => exact q.elim
  | cons d ds =>
    have q : (gs ds (ρ.set i (some d))).wp _ _ := q
    refine hr B _ _ S ds Ps X (k.set h1 h2 h3) (q.imp (fun ρ' q δ' S' k' o => q δ' S' k' fun j hj => ?_) fun e q S' k' => q S' ?_)
    · have ne : i ≠ j := fun z => hj (by simp [z])
      obtain ⟨a, b⟩ := o j fun z => hj (List.mem_cons_of_mem _ z)
      rw [a, b, List.getElem?_set_ne ne, List.getElem?_set_ne ne]
      exact ⟨rfl, rfl⟩
    · exact k'.swap k fun j hj => by
        have ne : i ≠ j := fun z => hj.elim (fun q => h1 (z ▸ q)) fun q => q.elim (fun q => h2 (z ▸ q)) fun q => h3 (z ▸ q)
        rw [List.getElem?_set_ne ne, List.getElem?_set_ne ne]
        exact ⟨rfl, rfl⟩
theorem qg_t {n : Nat} {vs : List Nat} {ms : GsM} {gs : List D → Rho → Dr Rho} (hr : QGs c vs ms gs) : QG c vs (tgT n ms) (ftT n gs) := fun B ρ δ S d Ps X k q => by
  cases d with
  | tup ds =>
    obtain ⟨h, q⟩ := must_wp q
    exact ⟨by simpa using h, hr B ρ δ S ds Ps X k q⟩
  | _ => exact q.elim

abbrev FI := Rho → Dr (List D)
def QI (c : Cf) (im : IM) (it : FI) : Prop := ∀ B ρ δ S P X, Em c B ρ δ S → (it ρ).wp (fun xs => ∀ S' gd, Em c B ρ δ S' → (∀ T, Em c B ρ δ T → gd T) → P (xs.map .d) gd S') (fun e => ∀ S', Em c B ρ δ S' → X e.w S') → im δ S P X
def QI0 (c : Cf) (im : IM) (it : FI) : Prop := ∀ B ρ δ S P X, Em c B ρ δ S → (it ρ).wp (fun xs => ∀ S' gd, Em c B ρ δ S' → (∀ L' ρ' δ' T, Em c (B.at L') ρ' δ' T → gd T) → P (xs.map .d) gd S') (fun e => ∀ S', Em c B ρ δ S' → X e.w S') → im δ S P X
theorem QI0.i {im : IM} {it : FI} (h : QI0 c im it) : QI c im it := fun B ρ δ S P X k q => h B ρ δ S P X k (q.imp (fun xs q S' gd k' g => q S' gd k' fun T kT => g B.L ρ δ T kT) fun e z => z)
def fiSeq (fa : FE) : FI := fun ρ => (fa ρ).bind fun d => opt (seqD d) .ok
theorem items_d {S : Store} {d : D} {ds : List D} (e : seqD d = some ds) : itemsOf S (.d d) = some (ds.map .d, allS) := by
  unfold itemsOf
  dsimp only
  rw [(Ow.d (S := S) d).seq e]
theorem qi_seq (ha : QE c ma fa) : QI0 c (itSeq ma) (fiSeq fa) := fun B ρ δ S P X k q => by
  unfold fiSeq at q
  rw [Dr.wp_bind] at q
  refine ha B ρ δ S _ X k (q.imp (fun d q S1 k1 => ?_) fun e z => z)
  obtain ⟨ds, e, q⟩ := opt_wp q
  rw [items_d e]
  exact q S1 _ k1 fun _ _ _ T _ => trivial
theorem qi_seqO {i : Nat} (hi : i ∈ c.own) : QI c (itSeq (mVar i)) (fiSeq (fVar i)) := fun B ρ δ S P X k q => by
  unfold fiSeq at q
  rw [Dr.wp_bind] at q
  obtain ⟨d, ed, q⟩ := opt_wp q
  obtain ⟨w, L, ew, hw⟩ := k.own ed hi
  obtain ⟨ds, e, q⟩ := opt_wp (show (opt (seqD d) .ok).wp _ _ from q)
  show (match δ[i]? with | some (some w) => _ | _ => False)
  rw [ew]
  cases hw with
  | d =>
    dsimp only
    rw [items_d e]
    exact q S _ k fun T _ => trivial
  | lst h =>
    cases e
    have z : itemsOf S (.ref ‹Addr›) = some (ds.map .d, fun T => T ‹Addr› = some (.lst (ds.map .d))) := by
      unfold itemsOf
      dsimp only
      rw [h]
    dsimp only
    rw [z]
    refine q S _ k fun T kT => ?_
    obtain ⟨w2, L2, ew2, hw2⟩ := kT.own ed hi
    rw [ew] at ew2
    cases ew2
    cases hw2 with
    | lst h => exact h
  | dct h => cases e
  | obj h r n => cases e
  | bag h => cases e
theorem qi_seqP {i : Nat} (hi : i ∈ c.own) (hp : i ∈ c.pr) : QI0 c (itSeq (mVar i)) (fiSeq (fVar i)) := fun B ρ δ S P X k q => by
  unfold fiSeq at q
  rw [Dr.wp_bind] at q
  obtain ⟨d, ed, q⟩ := opt_wp q
  obtain ⟨w, L, ew, hw⟩ := k.own ed hi
  obtain ⟨ds, e, q⟩ := opt_wp (show (opt (seqD d) .ok).wp _ _ from q)
  show (match δ[i]? with | some (some w) => _ | _ => False)
  rw [ew]
  cases hw with
  | d =>
    dsimp only
    rw [items_d e]
    exact q S _ k fun _ _ _ T _ => trivial
  | lst h =>
    cases e
    have z : itemsOf S (.ref ‹Addr›) = some (ds.map .d, fun T => T ‹Addr› = some (.lst (ds.map .d))) := by
      unfold itemsOf
      dsimp only
      rw [h]
    dsimp only
    rw [z]
    refine q S _ k fun L' ρ' δ' T kT => ?_
    obtain ⟨A1, k1⟩ := k
    obtain ⟨A2, k2⟩ := kT
    have e1 : ρ'[i]? = some (some (.lst ds)) := (k2.prr i hp).trans ((k1.prr i hp).symm.trans (getR_at ed))
    have e2 : δ'[i]? = some (some (.ref ‹Addr›)) := (k2.prd i (.inl hp)).trans ((k1.prd i (.inl hp)).symm.trans ew)
    obtain ⟨w2, ew2, hw2⟩ := k2.ow i _ e1 hi
    rw [e2] at ew2
    cases ew2
    generalize (B.at L').L i = Li at hw2
    cases hw2 with
    | lst h => exact h
  | dct h => cases e
  | obj h r n => cases e
  | bag h => cases e
def rngD (lo : Int) (n : Nat) : List D := (List.range n).map fun (i : Nat) => D.int (lo + (i : Int))
theorem rng_map (lo : Int) (n : Nat) : rng lo n = (rngD lo n).map .d := by
  unfold rng rngD
  rw [List.map_map]
  rfl
open Classical in
def rngOk (j : Int) : Bool := decide (-(2 ^ 62) ≤ j ∧ j < 2 ^ 62)
theorem rngOk_ok {j : Int} (h : rngOk j = true) : -(2 ^ 62) ≤ j ∧ j < 2 ^ 62 := of_decide_eq_true h
theorem rngOk_of {j : Int} (h1 : -1000000 ≤ j) (h2 : j ≤ 1000000) : rngOk j = true := decide_eq_true ⟨Int.le_trans (by decide) h1, Int.lt_of_le_of_lt h2 (by decide)⟩
theorem rngOk_nat {n : Nat} (h : n ≤ 1000000) : rngOk (n : Int) = true := rngOk_of (by omega) (by omega)
def fiRng1 (fr : FAs) : FI := fun ρ => (fr ρ).bind fun ds => match ds with
  | [.int j] => must (rngOk j = true) (.ok (rngD 0 j.toNat))
  | _ => .no
def fiRng2 (fr : FAs) : FI := fun ρ => (fr ρ).bind fun ds => match ds with
  | [.int i, .int j] => must (rngOk i = true ∧ rngOk j = true) (.ok (rngD i (j - i).toNat))
  | _ => .no
theorem qi_rng1 (hr : QA c os mr fr) (n : os.all (·.isNone) = true := by rfl) : QI0 c (itRng1 mr) (fiRng1 fr) := fun B ρ δ S P X k q => by
  unfold fiRng1 at q
  rw [Dr.wp_bind] at q
  refine hr B ρ δ S _ X k (q.imp (fun ds q S1 ws k1 h => ?_) fun e z => z)
  rw [h.trees n]
  split at q
  · obtain ⟨h1, q⟩ := must_wp q
    refine ⟨rngOk_ok h1, ?_⟩
    rw [rng_map]
    exact q S1 _ k1 fun _ _ _ T _ => trivial
  · exact q.elim
def zipD (a b : List D) : List D := List.zipWith (fun x y => .tup [x, y]) a b
theorem zip_map : ∀ a b : List D, zipW (a.map .d) (b.map .d) = (zipD a b).map .d
  | [], b => rfl
  | a :: as, [] => rfl
  | a :: as, b :: bs => by
    have := zip_map as bs
    unfold zipW zipD at this ⊢
    rw [List.map_cons, List.map_cons, List.zipWith_cons_cons, List.zipWith_cons_cons, List.map_cons, this]
    rfl
def fiZip (fr : FAs) : FI := fun ρ => (fr ρ).bind fun ds => match ds with
  | [.lst a, .lst b] => .ok (zipD a b)
  | [.tup a, .tup b] => .ok (zipD a b)
  | _ => .no
theorem qi_zip (hr : QA c os mr fr) (n : os.all (·.isNone) = true := by rfl) : QI0 c (itZip mr) (fiZip fr) := fun B ρ δ S P X k q => by
  unfold fiZip at q
  rw [Dr.wp_bind] at q
  refine hr B ρ δ S _ X k (q.imp (fun ds q S1 ws k1 h => ?_) fun e z => z)
  rw [h.trees n]
  split at q
  · rename_i a b
    show P (zipW (a.map .d) (b.map .d)) _ S1
    rw [zip_map]
    exact q S1 _ k1 fun _ _ _ T _ => ⟨trivial, trivial⟩
  · rename_i a b
    show P (zipW (a.map .d) (b.map .d)) _ S1
    rw [zip_map]
    exact q S1 _ k1 fun _ _ _ T _ => trivial
  · exact q.elim
def enumD (a : List D) : List D := a.zipIdx.map fun p => .tup [.int (p.2 : Int), p.1]
def fiEnum (fr : FAs) : FI := fun ρ => (fr ρ).bind fun ds => match ds with
  | [.lst a] => .ok (enumD a)
  | _ => .no
def strD (s : Str) : List D := s.cps.toList.map fun c => .str ⟨#[c]⟩
def fiStr (fa : FE) : FI := fun ρ => (fa ρ).bind fun d => match d with
  | .str s => .ok (strD s)
  | _ => .no
def ftYes : FT := fun _ => .ok true
theorem qt_yes : QT c mYes ftYes := fun B ρ δ S P X k q => q S k
def wipeR (ρ : Rho) : List Nat → Rho
  | [] => ρ
  | v :: vs => (wipeR ρ vs).set v none
theorem Em.wipe {vs : List Nat} (k : Em c B ρ δ S) (h : ∀ v ∈ vs, v ∉ c.own ∧ v ∉ c.pr ∧ v ∉ c.mu) : Em c B (wipeR ρ vs) (wipeD δ vs) S := by
  induction vs with
  | nil => exact k
  | cons v vs ih =>
    obtain ⟨A, k⟩ := ih fun x hx => h x (List.mem_cons_of_mem _ hx)
    obtain ⟨h1, h2, h3⟩ := h v (by simp)
    unfold wipeR wipeD
    refine ⟨A, by simpa using k.len, fun j e hj ho => ?_, fun j e hj ho => ?_, fun j e w hj ho hw => ?_, k.inA, k.dis, k.a0, k.a1, k.al, k.new, k.fr, fun j hj => ?_, fun j hj => ?_, k.prl, k.mul, k.fresh⟩
    · by_cases z : v = j
      · subst z
        have hl := (List.getElem?_eq_some_iff.mp hj).1
        rw [List.length_set] at hl
        rw [List.getElem?_set_self hl] at hj
        cases hj
      · rw [List.getElem?_set_ne z] at hj ⊢
        exact k.tr j e hj ho
    · have z : v ≠ j := fun z => h1 (z ▸ ho)
      rw [List.getElem?_set_ne z] at hj ⊢
      exact k.ow j e hj ho
    · have z : v ≠ j := fun z => h1 (z ▸ ho)
      rw [List.getElem?_set_ne z] at hj hw
      exact k.ce j e w hj ho hw
    · have z : v ≠ j := fun z => hj.elim (fun q => h2 (z ▸ q)) fun q => h3 (z ▸ q)
      rw [List.getElem?_set_ne z]
      exact k.prd j hj
    · have z : v ≠ j := fun z => h2 (z ▸ hj)
      rw [List.getElem?_set_ne z]
      exact k.prr j hj
theorem wipe_ne {vs : List Nat} {j : Nat} (h : j ∉ vs) : (wipeR ρ vs)[j]? = ρ[j]? ∧ (wipeD δ vs)[j]? = δ[j]? := by
  induction vs with
  | nil => exact ⟨rfl, rfl⟩
  | cons v vs ih =>
    have ne : v ≠ j := fun z => h (by simp [z])
    unfold wipeR wipeD
    rw [List.getElem?_set_ne ne, List.getElem?_set_ne ne]
    exact ih fun z => h (List.mem_cons_of_mem _ z)
def lcF (g : FG) (t : FT) (m : FE) (ρ : Rho) : List D → Dr (List D)
  | [] => .ok []
  | x :: xs => (g x ρ).calm.bind fun ρ1 => (t ρ1).calm.bind fun b => if b = true then (m ρ1).calm.bind fun y => (lcF g t m ρ xs).bind fun ys => .ok (y :: ys) else lcF g t m ρ xs
def fLc (vs : List Nat) (it : FI) (g : FG) (t : FT) (m : FE) : FE := fun ρ => (it ρ).bind fun xs => must (xs.length < 10000000) ((lcF g t m (wipeR ρ vs) xs).bind fun ys => .ok (.lst ys))
abbrev Free (c : Cf) (vs : List Nat) : Prop := ∀ v ∈ vs, v ∉ c.own ∧ v ∉ c.pr ∧ v ∉ c.mu
theorem Only.hold {vs : List Nat} (h : Only vs ρ ρ' δ δ') (n : Free c vs) : ∀ j, j ∈ c.own ∨ j ∈ c.pr ∨ j ∈ c.mu → ρ'[j]? = ρ[j]? ∧ δ'[j]? = δ[j]? := fun j hj => h j fun z => by
  obtain ⟨h1, h2, h3⟩ := n j z
  exact hj.elim h1 fun q => q.elim h2 h3
theorem lc_ok {vs : List Nat} {gd : Store → Prop} {g : GM} {fg : FG} {f : FE} {m : EM} {P : List W → Store → Prop} {X : ExD → Prop} (hg : QG c vs g fg) (n : Free c vs) (ht : QT c t ft) (hm : QE c m f) (hgd : ∀ T, Em c B ρ δ T → gd T) : ∀ (xs acc : List D) (S : Store), Em c B ρ δ S →
    (lcF fg ft f ρ xs).wp (fun ys => ∀ S', Em c B ρ δ S' → P ((acc ++ ys).map .d) S') X → lcW gd g t m δ P (xs.map .d) (acc.map .d) S
  | [], acc, S, k, q => ⟨hgd S k, by simpa using q S k⟩
  | x :: xs, acc, S, k, q => by
    refine ⟨hgd S k, ?_⟩
    unfold lcF at q
    rw [Dr.wp_bind] at q
    refine hg B ρ δ S x _ _ k (Dr.wp_calm (q.imp (fun ρ1 q δ1 S1 k1 o => ?_) fun e z => z))
    rw [Dr.wp_bind] at q
    have hold := o.hold n
    refine ht B ρ1 δ1 S1 _ _ k1 (Dr.wp_calm (q.imp (fun b q S2 k2 => ?_) fun e z => z))
    cases b with
    | false => exact lc_ok hg n ht hm hgd xs acc S2 (k2.swap k hold) q
    | true =>
      have q : ((f ρ1).calm.bind fun y => (lcF fg ft f ρ xs).bind fun ys => .ok (y :: ys)).wp _ _ := q
      rw [Dr.wp_bind] at q
      refine hm B ρ1 δ1 S2 _ _ k2 (Dr.wp_calm (q.imp (fun y q S3 k3 => ?_) fun e z => z))
      rw [Dr.wp_bind] at q
      have := lc_ok hg n ht hm hgd xs (acc ++ [y]) S3 (P := P) (k3.swap k hold) (q.imp (fun ys q S' k' => by
        rw [List.append_assoc]
        exact q S' k') fun e z => z)
      simpa using this
theorem qe_lc {vs vs' : List Nat} {im : IM} {it : FI} {g : GM} {fg : FG} (hi : QI c im it) (hg : QG c vs' g fg) (ht : QT c t ft) (hm : QE c m f) (n : Free c vs := by decide) (n' : Free c vs' := by decide) : QE c (mLc false vs im g t m) (fLc vs it fg ft f) := fun B ρ δ S P X k q => by
  unfold fLc at q
  rw [Dr.wp_bind] at q
  refine hi B ρ δ S _ X k (q.imp (fun xs q S1 gd k1 hgd => ?_) fun e z => z)
  obtain ⟨h1, q⟩ := must_wp q
  rw [Dr.wp_bind] at q
  refine ⟨by simpa using h1, ?_⟩
  have hold : ∀ j, j ∈ c.own ∨ j ∈ c.pr ∨ j ∈ c.mu → (wipeR ρ vs)[j]? = ρ[j]? ∧ (wipeD δ vs)[j]? = δ[j]? := fun j hj => wipe_ne fun z => by
    obtain ⟨a1, a2, a3⟩ := n j z
    exact hj.elim a1 fun q => q.elim a2 a3
  refine lc_ok hg n' ht hm (fun T kT => hgd T (kT.swap k hold)) xs [] S1 (k1.wipe n) (q.imp (fun ys q S' k' => ?_) fun e z => z)
  exact newLC_f (q S' (k'.swap k hold))
def isLst : D → Bool
  | .lst _ => true
  | _ => false
def fLs (f : FE) : FE := fun ρ => (f ρ).bind fun d => must (isLst d = true) (.ok d)
theorem qo_list (hr : QA c os mr fr) : QO c (mCB (bList true) mr) (fCB fbList fr) := fun B ρ δ S P X k q => by
  unfold fCB at q
  rw [Dr.wp_bind] at q
  refine hr B ρ δ S _ X k (q.imp (fun ds q S1 ws k1 h => ?_) fun e z => z)
  obtain ⟨r, e, q⟩ := opt_wp q
  have ho := h.ows k1
  unfold fbList at e
  split at e
  all_goals first
    | (cases e
       obtain ⟨w, L, rfl, hv⟩ := ho.one
       unfold bList
       dsimp only
       rw [hv.seq rfl]
       exact newLC_t k1 q)
    | cases e
end
end
end DX

set_option Elab.async false
set_option linter.all false
set_option maxRecDepth 100000
namespace DX
open PySem L2
noncomputable section
inductive Fl where
  | nx (ρ : Rho) | rt (d : D) (ρ : Rho) | bk (ρ : Rho) | ct (ρ : Rho)
abbrev FS := Rho → Dr Fl
section
variable {c : Cf} {B : Bs} {ρ ρ' : Rho} {δ δ' : Slots} {S S' : Store} {os : List (Option Nat)} {ws : List W} {ds : List D} {m ma mb mo : EM} {f fa fb fo : FE} {mr mk : AM} {fr fk : FAs} {t u : TM} {ft fu : FT} {o : Bool}
def EndF (c : Cf) (B : Bs) (o : Bool) (C : Ct) (r : Fl) : Prop := match r with
  | .nx ρ' => ∀ L' δ' S', Em c (B.at L') ρ' δ' S' → C.nx δ' S'
  | .bk ρ' => ∀ L' δ' S', Em c (B.at L') ρ' δ' S' → C.bk δ' S'
  | .ct ρ' => ∀ L' δ' S', Em c (B.at L') ρ' δ' S' → C.ct δ' S'
  | .rt d ρ' => match o with
    | false => ∀ L' δ' S', Em c (B.at L') ρ' δ' S' → C.rt (.d d) S'
    | true => ∀ L' δ' S' w, EmX c (B.at L') ρ' δ' S' w d → C.rt w S'
def QS (c : Cf) (o : Bool) (m : SM) (f : FS) : Prop := ∀ B ρ δ S C, Em c B ρ δ S → (f ρ).wp (EndF c B o C) (fun e => ∀ L' ρ' δ' S', Em c (B.at L') ρ' δ' S' → C.X e.w δ' S') → m C δ S
theorem xf_of {C : Ct} {e : ExD} (h : ∀ L' ρ' δ' S', Em c (B.at L') ρ' δ' S' → C.X e.w δ' S') : ∀ S', Em c B ρ δ S' → XF C δ e.w S' := fun S' k => h B.L ρ δ S' k
theorem EndF.rt_ {C : Ct} {d : D} (h : EndF c B o C (.rt d ρ)) (k : Em c B ρ δ S) (n : o = false ∨ cellLike d = false) : C.rt (.d d) S := by
  cases o with
  | false => exact h B.L δ S k
  | true => exact h B.L δ S _ (k.x (n.elim (fun z => by cases z) id))
def fSNil : FS := fun ρ => .ok (.nx ρ)
def fSCons (f g : FS) : FS := fun ρ => (f ρ).bind fun r => match r with
  | .nx ρ' => g ρ'
  | r => .ok r
def fSNo : FS := fun _ => .no
def fBrk : FS := fun ρ => .ok (.bk ρ)
def fCnt : FS := fun ρ => .ok (.ct ρ)
theorem qs_nil : QS c o mNil fSNil := fun B ρ δ S C k q => q B.L δ S k
theorem qs_no : QS c o mNoS fSNo := fun B ρ δ S C k q => q
theorem qs_cons {m n : SM} {f g : FS} (hm : QS c o m f) (hn : QS c o n g) : QS c o (mCons m n) (fSCons f g) := fun B ρ δ S C k q => by
  unfold fSCons at q
  rw [Dr.wp_bind] at q
  refine hm B ρ δ S _ k (q.imp (fun r q => ?_) fun e z => z)
  cases r with
  | nx ρ' => exact fun L' δ' S' k' => hn (B.at L') ρ' δ' S' C k' q
  | rt d ρ' => exact q
  | bk ρ' => exact q
  | ct ρ' => exact q
def fSet (i : Nat) (f : FE) : FS := fun ρ => (f ρ).bind fun d => .ok (.nx (ρ.set i (some d)))
theorem qs_set {i : Nat} (h : QE c m f) (h1 : i ∉ c.own := by decide) (h2 : i ∉ c.pr := by decide) (h3 : i ∉ c.mu := by decide) : QS c o (mSet i m) (fSet i f) := fun B ρ δ S C k q => by
  unfold fSet at q
  rw [Dr.wp_bind] at q
  exact h B ρ δ S _ (XF C δ) k (q.imp (fun d q S1 k1 => q B.L _ S1 (k1.set h1 h2 h3)) fun e z => xf_of z)
theorem qs_setO {i : Nat} (h : QO c m f) (h1 : i ∈ c.own := by decide) (h2 : i ∉ c.pr := by decide) (h3 : i ∉ c.mu := by decide) : QS c o (mSet i m) (fSet i f) := fun B ρ δ S C k q => by
  unfold fSet at q
  rw [Dr.wp_bind] at q
  exact h B ρ δ S _ (XF C δ) k (q.imp (fun d q S1 w k1 => let ⟨L', k2⟩ := k1.set h1 h2 h3; q L' _ S1 k2) fun e z => xf_of z)
def fPar (i j : Nat) (fa fb : FE) : FS := fun ρ => (fa ρ).bind fun a => (fb ρ).bind fun b => .ok (.nx ((ρ.set i (some a)).set j (some b)))
def fAsg (f : FE) (g : FG) : FS := fun ρ => (f ρ).bind fun d => (g d ρ).bind fun ρ' => .ok (.nx ρ')
def fDrp (f : FE) : FS := fun ρ => (f ρ).bind fun _ => .ok (.nx ρ)
def fRet (f : FE) : FS := fun ρ => (f ρ).bind fun d => .ok (.rt d ρ)
def fRetN : FS := fun ρ => .ok (.rt .non ρ)
theorem qs_ret (h : QE c m f) : QS c false (mRet m) (fRet f) := fun B ρ δ S C k q => by
  unfold fRet at q
  rw [Dr.wp_bind] at q
  exact h B ρ δ S _ (XF C δ) k (q.imp (fun d q S1 k1 => EndF.rt_ q k1 (.inl rfl)) fun e z => xf_of z)
theorem qs_retO (h : QO c m f) : QS c true (mRet m) (fRet f) := fun B ρ δ S C k q => by
  unfold fRet at q
  rw [Dr.wp_bind] at q
  exact h B ρ δ S _ (XF C δ) k (q.imp (fun d q S1 w k1 => q B.L δ S1 w k1) fun e z => xf_of z)
def fRetV (i : Nat) : FS := fun ρ => opt (getR ρ i) fun d => .ok (.rt d (ρ.set i none))
def frzOk : D → Bool
  | .lst _ => true
  | d => flatD d
def fRetZ (i : Nat) : FS := fun ρ => opt (getR ρ i) fun d => must (frzOk d = true) (.ok (.rt d (ρ.set i none)))
theorem EmC.out {A : Addr → Prop} {L : Nat → List Addr} {i : Nat} (k : EmC c B ρ δ S A L) (h2 : i ∉ c.pr) (h3 : i ∉ c.mu) (hS : ∀ b, b ∉ L i → S' b = S b) (hf : ∀ b x, ¬ B.A0 b → B.S0 b = some x → S' b = some x) : EmC c B (ρ.set i none) δ S' (fun b => A b ∧ b ∉ L i) (fun j => if j = i then [] else L j) := by
  have k0 := k.forget (i := i) h2
  refine ⟨k0.len, k0.tr, fun j e hj ho => ?_, k0.ce, fun j b hb => ?_, fun j l b ne hb hc => ?_, fun b hb => ?_, k.a1, fun b hb => ?_, fun b hb => k.new b hb.1, hf, k0.prd, k0.prr, fun j hj => ?_, fun j b hj hb => ?_, fun j b p q hb => ?_⟩
  · obtain ⟨w, e1, e2⟩ := k0.ow j e hj ho
    have ne : j ≠ i := fun z => by
      subst z
      have hl := (List.getElem?_eq_some_iff.mp hj).1
      rw [List.length_set] at hl
      rw [List.getElem?_set_self hl] at hj
      cases hj
    rw [if_neg ne]
    exact ⟨w, e1, e2.fr fun b hb => hS b (k.dis j i b ne hb)⟩
  · by_cases z : j = i
    · rw [if_pos z] at hb; cases hb
    · rw [if_neg z] at hb; exact ⟨k.inA j b hb, k.dis j i b z hb⟩
  · by_cases z : j = i
    · rw [if_pos z] at hb; cases hb
    · rw [if_neg z] at hb
      by_cases y : l = i
      · rw [if_pos y] at hc; cases hc
      · rw [if_neg y] at hc; exact k.dis j l b ne hb hc
  · exact ⟨k.a0 b hb, fun q => k.a1 b hb (k.fresh i b h2 h3 q)⟩
  · rw [hS b hb.2]; exact k.al b hb.1
  · have z : ¬ j = i := fun z => h2 (z ▸ hj)
    rw [if_neg z]; exact k.prl j hj
  · have z : ¬ j = i := fun z => h3 (z ▸ hj)
    rw [if_neg z] at hb; exact k.mul j b hj hb
  · by_cases z : j = i
    · rw [if_pos z] at hb; cases hb
    · rw [if_neg z] at hb; exact k.fresh j b p q hb
theorem qs_retV {i : Nat} (h1 : i ∈ c.own := by decide) (h2 : i ∉ c.pr := by decide) (h3 : i ∉ c.mu := by decide) : QS c true (mRet (mVar i)) (fRetV i) := fun B ρ δ S C k q => by
  obtain ⟨d, ed, q⟩ := opt_wp q
  obtain ⟨A, k⟩ := k
  obtain ⟨w, ew, hw⟩ := k.ow i d (getR_at ed) h1
  show (match δ[i]? with | some (some w) => _ | _ => False)
  rw [ew]
  exact q _ δ S w ⟨_, B.L i, (k.out h2 h3 (fun b _ => rfl) k.fr).at_, hw, (fun b hb => ⟨fun z => z.2 hb, k.fresh i b h2 h3 hb⟩), k.ce i d w (getR_at ed) h1 ew⟩
theorem qs_retZ {i : Nat} (h1 : i ∈ c.own := by decide) (h2 : i ∉ c.pr := by decide) (h3 : i ∉ c.mu := by decide) : QS c false (mRet (mFrz (mVar i))) (fRetZ i) := fun B ρ δ S C k q => by
  obtain ⟨d, ed, q⟩ := opt_wp q
  obtain ⟨hz, q⟩ := must_wp q
  have k0 := k
  obtain ⟨A, k⟩ := k
  obtain ⟨w, ew, hw⟩ := k.ow i d (getR_at ed) h1
  show (match δ[i]? with | some (some w) => _ | _ => False)
  rw [ew]
  have gone : ∀ a, B.L i = [a] → Em c (B.at fun j => if j = i then [] else B.L j) (ρ.set i none) δ (erS S a) := fun a e => by
    have hf : ∀ b, b ∈ B.L i → B.S0 b = none := fun b hb => k.fresh i b h2 h3 hb
    refine ⟨_, (k.out h2 h3 (fun b hb => ?_) fun b x g1 g2 => ?_).at_⟩
    · have nb : b ≠ a := fun z => hb (by rw [e, z]; simp)
      exact erS_ne nb
    · have nb : b ≠ a := fun z => by
        rw [hf b (by rw [e, z]; simp)] at g2
        cases g2
      rw [erS_ne nb]
      exact k.fr b x g1 g2
  generalize hL : B.L i = Li at hw
  have rt_ : ∀ {L' : Nat → List Addr} {d : D} {ρ' : Rho} {S' : Store}, EndF c B false C (.rt d ρ') → Em c (B.at L') ρ' δ S' → C.rt (.d d) S' := fun {L' d ρ' S'} h k => h L' δ S' k
  cases hw with
  | d => exact EndF.rt_ q (k0.forget h2) (.inl rfl)
  | @lst a ds ha =>
    have e : frzW 4 S (.ref a) = some (.lst ds, erS S a) := by
      simp only [frzW, ha, frzs_d, Option.map_some]
    dsimp only
    rw [e]
    exact rt_ q (gone a hL)
  | dct ha => cases hz
  | @obj a Cl fs gs L' ha hf nn =>
    have fl : (gs.all fun p => !cellF p.1) = true := hz
    obtain ⟨e1, e2⟩ := hf.flat fl
    subst e1 e2
    have e : frzW 4 S (.ref a) = some (.ins Cl gs, erS S a) := by
      simp only [frzW, ha, frzf_d, Option.map_some]
    dsimp only
    rw [e]
    exact rt_ q (gone a hL)
  | bag h => cases hz
theorem EmC.put {A : Addr → Prop} {L : Nat → List Addr} {i : Nat} {d' : D} {w : W} {Li : List Addr} (k : EmC c B ρ δ S A L) (ew : δ[i]? = some (some w)) (h2 : i ∉ c.pr) (hw : Ow S' w d' Li) (hL : ∀ b ∈ Li, b ∈ L i) (hS : ∀ b, b ∉ L i → S' b = S b) (hal : ∀ b ∈ L i, S' b ≠ none) (h1 : i ∈ c.own) (hc : cel w d') : EmC c B (ρ.set i (some d')) δ S' A (fun j => if j = i then Li else L j) := by
  have li : ∀ j b, b ∈ (if j = i then Li else L j) → b ∈ L j := fun j b hb => by
    by_cases z : j = i
    · rw [if_pos z] at hb; rw [z]; exact hL b hb
    · rw [if_neg z] at hb; exact hb
  refine ⟨by simpa using k.len, fun j e hj ho => ?_, fun j e hj ho => ?_, fun j e u hj ho hu => ?_, fun j b hb => k.inA j b (li j b hb), fun j l b ne hb hc => k.dis j l b ne (li j b hb) (li l b hc), k.a0, k.a1, fun b hb => ?_, k.new, fun b x g1 g2 => ?_, k.prd, fun j hj => ?_, fun j hj => ?_, fun j b hj hb => k.mul j b hj (li j b hb), fun j b p q hb => k.fresh j b p q (li j b hb)⟩
  · have z : i ≠ j := fun z => ho (z ▸ h1)
    rw [List.getElem?_set_ne z] at hj
    exact k.tr j e hj ho
  · by_cases z : i = j
    · subst z
      have hl := (List.getElem?_eq_some_iff.mp hj).1
      rw [List.length_set] at hl
      rw [List.getElem?_set_self hl] at hj
      cases hj
      rw [if_pos rfl]
      exact ⟨w, ew, hw⟩
    · rw [List.getElem?_set_ne z] at hj
      rw [if_neg (Ne.symm z)]
      obtain ⟨u, e1, e2⟩ := k.ow j e hj ho
      exact ⟨u, e1, e2.fr fun b hb => hS b fun y => k.dis j i b (Ne.symm z) hb y⟩
  · by_cases z : i = j
    · subst z
      have hl := (List.getElem?_eq_some_iff.mp hj).1
      rw [List.length_set] at hl
      rw [List.getElem?_set_self hl] at hj
      cases hj
      rw [ew] at hu
      cases hu
      exact hc
    · rw [List.getElem?_set_ne z] at hj
      exact k.ce j e u hj ho hu
  · by_cases z : b ∈ L i
    · exact hal b z
    · rw [hS b z]; exact k.al b hb
  · have nb : b ∉ L i := fun z => by
      rcases k.new b (k.inA i b z) with y | y
      · exact g1 y
      · rw [y] at g2; cases g2
    rw [hS b nb]
    exact k.fr b x g1 g2
  · have z : i ≠ j := fun z => h2 (z ▸ hj)
    rw [List.getElem?_set_ne z]
    exact k.prr j hj
  · have z : ¬ j = i := fun z => h2 (z ▸ hj)
    rw [if_neg z]; exact k.prl j hj
theorem Em.putL {i : Nat} {a : Addr} {ds ds' : List D} (k : Em c B ρ δ S) (ew : δ[i]? = some (some (.ref a))) (er : getR ρ i = some (.lst ds)) (h1 : i ∈ c.own) (h2 : i ∉ c.pr) : S a = some (.lst (ds.map .d)) ∧ ∃ L', Em c (B.at L') (ρ.set i (some (.lst ds'))) δ (upS S a (.lst (ds'.map .d))) := by
  obtain ⟨A, k⟩ := k
  obtain ⟨w, e, hw⟩ := k.ow i _ (getR_at er) h1
  rw [ew] at e
  cases e
  generalize hL : B.L i = Li at hw
  cases hw with
  | lst ha =>
    refine ⟨ha, _, A, EmC.at_ (B := B) (k.put (Li := [a]) ew h2 (.lst upS_same) (fun b hb => by rw [hL]; exact hb) (fun b hb => upS_ne fun z => hb (by rw [hL, z]; simp)) (fun b hb => ?_) h1 (fun _ => ⟨a, rfl⟩))⟩
    rw [hL] at hb
    rw [List.mem_singleton.mp hb, upS_same]
    simp
theorem Em.ownL {i : Nat} {ds : List D} (k : Em c B ρ δ S) (er : getR ρ i = some (.lst ds)) (h1 : i ∈ c.own) (h2 : i ∉ c.pr) : ∃ a, δ[i]? = some (some (.ref a)) := by
  obtain ⟨A, k⟩ := k
  obtain ⟨w, e, hw⟩ := k.ow i _ (getR_at er) h1
  obtain ⟨a, rfl⟩ := k.ce i _ w (getR_at er) h1 e rfl
  exact ⟨a, e⟩
end
end
end DX

set_option Elab.async false
set_option linter.all false
set_option maxRecDepth 100000
namespace DX
open PySem L2
noncomputable section
section
variable {c : Cf} {B : Bs} {ρ ρ' : Rho} {δ δ' : Slots} {S S' : Store} {os : List (Option Nat)} {ws : List W} {ds : List D} {m ma mb mo mi : EM} {f fa fb fo fi : FE} {mr mk : AM} {fr fk : FAs} {t u : TM} {ft fu : FT} {o : Bool}
def fAppend (i : Nat) (f : FE) : FS := fun ρ => opt (getR ρ i) fun l => match l with
  | .lst ds => (f ρ).bind fun d => must (ds.length < 10000000) (.ok (.nx (ρ.set i (some (.lst (ds ++ [d]))))))
  | _ => .no
theorem qs_app {i : Nat} (h : QE c m f) (h1 : i ∈ c.own := by decide) (h2 : i ∉ c.pr := by decide) : QS c o (mDrp (mBM "list" omAppend (mVar i) (aCons m aNil))) (fAppend i f) := fun B ρ δ S C k q => by
  obtain ⟨l, er, q⟩ := opt_wp q
  cases l with
  | lst ds =>
    obtain ⟨a, ea⟩ := k.ownL er h1 h2
    obtain ⟨ha, _⟩ := k.putL (ds' := ds) ea er h1 h2
    show (match δ[i]? with | some (some w) => _ | _ => False)
    rw [ea]
    refine ⟨by unfold tyW; dsimp only; rw [ha]; rfl, ?_⟩
    have q : ((f ρ).bind fun d => must (ds.length < 10000000) (Dr.ok (Fl.nx (ρ.set i (some (.lst (ds ++ [d]))))))).wp _ _ := q
    rw [Dr.wp_bind] at q
    refine h B ρ δ S _ (XF C δ) k (q.imp (fun d q S2 k2 => ?_) fun e z => xf_of z)
    obtain ⟨hl, q⟩ := must_wp q
    obtain ⟨hb, L', k3⟩ := k2.putL (ds' := ds ++ [d]) ea er h1 h2
    show (match S2 a with | some (.lst l) => _ | _ => False)
    rw [hb]
    refine ⟨by simpa using hl, ?_⟩
    have e : ds.map W.d ++ [W.d d] = (ds ++ [d]).map W.d := by simp
    rw [e]
    exact q L' δ _ k3
  | _ => exact q.elim
def fSetI (i : Nat) (fi f : FE) : FS := fun ρ => (f ρ).bind fun d => opt (getR ρ i) fun l => match l with
  | .lst ds => (fi ρ).bind fun y => match y with
    | .int n => opt (ixN ds.length n) fun j => .ok (.nx (ρ.set i (some (.lst (ds.set j d)))))
    | _ => .no
  | _ => .no
def putD (f : String) (d : D) : List (String × D) → List (String × D)
  | [] => [(f, d)]
  | (g, u) :: r => if g = f then (g, d) :: r else (g, u) :: putD f d r
theorem Owf.len {fs : List (String × W)} {gs : List (String × D)} {L : List Addr} (h : Owf S fs gs L) : fs.length = gs.length := by
  match h with
  | .nil => rfl
  | .cons h r _ _ _ => rw [List.length_cons, List.length_cons, r.len]
theorem Owf.put {f : String} {v : D} {fs : List (String × W)} {gs : List (String × D)} {L : List Addr} (hv : cellF f = true → cel (.d v) v) (h : Owf S fs gs L) : ∃ L', Owf S (putW f (.d v) fs) (putD f v gs) L' ∧ ∀ b ∈ L', b ∈ L := by
  match h with
  | .nil => exact ⟨[], by simpa [putW, putD] using (Owf.cons (f := f) (.d v) .nil (fun b hb => by cases hb) (fun _ => rfl) (hv ·) : Owf S [(f, .d v)] [(f, v)] ([] ++ [])), fun b hb => hb⟩
  | .cons (f := g) (L := L1) (L' := L2) h r n z y =>
    unfold putW putD
    by_cases e : g = f
    · rw [if_pos e, if_pos e]
      exact ⟨[] ++ L2, by rw [e]; exact .cons (.d v) r (fun b hb => by cases hb) (fun _ => rfl) hv, fun b hb => List.mem_append_right _ hb⟩
    · rw [if_neg e, if_neg e]
      obtain ⟨L', h1, h2⟩ := r.put (f := f) (v := v) hv
      refine ⟨L1 ++ L', .cons h h1 (fun b hb hc => n b hb (h2 b hc)) z y, fun b hb => ?_⟩
      rcases List.mem_append.mp hb with hb | hb
      · exact List.mem_append_left _ hb
      · exact List.mem_append_right _ (h2 b hb)
def fFld (f : String) (cs : List String) (i : Nat) (fv : FE) : FS := fun ρ => (fv ρ).bind fun v => opt (getR ρ i) fun g => match g with
  | .ins C gs => must (cs.contains C = true ∧ gs.length < 1000 ∧ (cellF f = false ∨ cellLike v = false)) (.ok (.nx (ρ.set i (some (.ins C (putD f v gs))))))
  | _ => .no
theorem qs_fld {f : String} {cs : List String} {i : Nat} {fv : FE} (h : QE c m fv) (h1 : i ∈ c.own := by decide) (h2 : i ∉ c.pr := by decide) : QS c o (mFldS f cs (mVar i) m) (fFld f cs i fv) := fun B ρ δ S C k q => by
  unfold fFld at q
  rw [Dr.wp_bind] at q
  refine h B ρ δ S _ (XF C δ) k (q.imp (fun v q S1 k1 => ?_) fun e z => xf_of z)
  obtain ⟨g, er, q⟩ := opt_wp q
  split at q
  · rename_i Cl gs
    obtain ⟨⟨hc, hl, hv⟩, q⟩ := must_wp q
    have hv : cellF f = true → cel (.d v) v := fun a b => by
      rcases hv with z | z
      · rw [z] at a; cases a
      · rw [z] at b; cases b
    obtain ⟨A, k1⟩ := k1
    obtain ⟨w, ew, hw⟩ := k1.ow i _ (getR_at er) h1
    obtain ⟨a, rfl⟩ := k1.ce i _ w (getR_at er) h1 ew rfl
    show (match δ[i]? with | some (some w) => _ | _ => False)
    rw [ew]
    generalize hL : B.L i = Li at hw
    cases hw with
    | @obj _ _ fs _ L1 ha hf nn =>
      show (match S1 a with | some (.obj cl fs) => _ | _ => False)
      rw [ha]
      refine ⟨hc, by rw [hf.len]; exact hl, ?_⟩
      obtain ⟨L2, g1, g2⟩ := Owf.put (f := f) (v := v) hv hf
      have na : ∀ b ∈ L2, b ≠ a := fun b hb z => nn (z ▸ g2 b hb)
      refine q _ δ _ ⟨A, EmC.at_ (B := B) (k1.put (Li := a :: L2) ew h2 (.obj upS_same (g1.fr fun b hb => upS_ne (na b hb)) fun z => na a z rfl) (fun b hb => ?_) (fun b hb => upS_ne fun z => hb (by rw [hL, z]; simp)) (fun b hb => ?_) h1 (fun _ => ⟨a, rfl⟩))⟩
      · rw [hL]
        rcases List.mem_cons.mp hb with rfl | hb
        · simp
        · exact List.mem_cons_of_mem _ (g2 b hb)
      · by_cases z : b = a
        · rw [z, upS_same]; simp
        · rw [upS_ne z]; exact k1.al b (k1.inA i b hb)
  · exact q.elim
def fIfS (t : FT) (f g : FS) : FS := fun ρ => (t ρ).bind fun b => if b = true then f ρ else g ρ
theorem qs_if {m n : SM} {f g : FS} (ht : QT c t ft) (hm : QS c o m f) (hn : QS c o n g) : QS c o (mIfS t m n) (fIfS ft f g) := fun B ρ δ S C k q => by
  unfold fIfS at q
  rw [Dr.wp_bind] at q
  refine ht B ρ δ S _ (XF C δ) k (q.imp (fun b q S1 k1 => ?_) fun e z => xf_of z)
  cases b with
  | true => exact hm B ρ δ S1 C k1 q
  | false => exact hn B ρ δ S1 C k1 q
def fForL (g : FG) (body : FS) (dead : List Nat) : List D → Rho → Dr Fl
  | [], ρ => .ok (.nx ρ)
  | x :: xs, ρ => (g x ρ).bind fun ρ1 => (body ρ1).bind fun r => match r with
    | .nx ρ2 => fForL g body dead xs (wipeR ρ2 dead)
    | .ct ρ2 => fForL g body dead xs (wipeR ρ2 dead)
    | .bk ρ2 => .ok (.nx (wipeR ρ2 dead))
    | .rt d ρ2 => .ok (.rt d ρ2)
def fFor (it : FI) (g : FG) (body : FS) (dead : List Nat) : FS := fun ρ => (it ρ).bind fun xs => fForL g body dead xs ρ
theorem Em.forgets {vs : List Nat} (k : Em c B ρ δ S) (h : ∀ v ∈ vs, v ∉ c.pr) : Em c B (wipeR ρ vs) δ S := by
  induction vs with
  | nil => exact k
  | cons v vs ih => exact (ih fun x hx => h x (List.mem_cons_of_mem _ hx)).forget (h v (by simp))
theorem qs_for {vs : List Nat} {im : IM} {it : FI} {g : GM} {fg : FG} {body : SM} {fb : FS} {dead : List Nat} (hi : QI0 c im it) (hg : QG c vs g fg) (hb : QS c o body fb) (hd : ∀ v ∈ dead, v ∉ c.pr := by decide) : QS c o (mFor im g body) (fFor it fg fb dead) := fun B ρ δ S C k q => by
  unfold fFor at q
  rw [Dr.wp_bind] at q
  refine hi B ρ δ S _ (XF C δ) k (q.imp (fun xs q S1 gd k1 hgd => ?_) fun e z => xf_of z)
  refine ⟨fun n δ2 S2 => n ≤ xs.length ∧ ∃ L2 ρ2, Em c (B.at L2) ρ2 δ2 S2 ∧ (fForL fg fb dead (xs.drop n) ρ2).wp (EndF c B o C) (fun e => ∀ L' ρ' δ' S', Em c (B.at L') ρ' δ' S' → C.X e.w δ' S'), ⟨Nat.zero_le _, B.L, ρ, k1, q⟩, fun n δ2 S2 ⟨hn, L2, ρ2, k2, q2⟩ => ⟨by simpa using hn, hgd L2 ρ2 δ2 S2 k2, fun w hw => ?_, fun e => ?_⟩⟩
  · rw [List.getElem?_map] at hw
    cases ex : xs[n]? with
    | none => rw [ex] at hw; cases hw
    | some x =>
      rw [ex] at hw
      cases hw
      have hl := (List.getElem?_eq_some_iff.mp ex).1
      have e : xs.drop n = x :: xs.drop (n + 1) := by
        rw [List.drop_eq_getElem_cons hl, (List.getElem?_eq_some_iff.mp ex).2]
      rw [e] at q2
      unfold fForL at q2
      rw [Dr.wp_bind] at q2
      refine hg (B.at L2) ρ2 δ2 S2 x _ (XF C δ2) k2 (q2.imp (fun ρ3 q δ3 S3 k3 _ => ?_) fun e z => xf_of z)
      rw [Dr.wp_bind] at q
      have dn : ∀ {P : Slots → Store → Prop} {δ : Slots} {S : Store}, P δ S → Dn P δ S := fun {P δ S} h => ⟨δ, S, fun _ _ h => h, Nat.le_refl _, fun _ _ h => h, h⟩
      refine hb (B.at L2) ρ3 δ3 S3 _ k3 (q.imp (fun r q => ?_) fun e z => z)
      cases r with
      | nx ρ4 => exact fun L' δ' S' k' => dn ⟨hl, L', _, k'.forgets hd, q⟩
      | ct ρ4 => exact fun L' δ' S' k' => dn ⟨hl, L', _, k'.forgets hd, q⟩
      | bk ρ4 => exact fun L' δ' S' k' => q L' δ' S' (k'.forgets hd)
      | rt d ρ4 => exact q
  · have e2 : xs.drop n = [] := by
      rw [List.drop_eq_nil_iff]
      rw [List.length_map] at e
      omega
    rw [e2] at q2
    exact q2 L2 δ2 S2 k2
end
end
end DX

set_option Elab.async false
set_option linter.all false
set_option maxRecDepth 100000
namespace DX
open PySem L2
noncomputable section
def startR (N : Nat) (ds : List D) : Rho := ds.map some ++ List.replicate (N - ds.length) none
def argsB (c : Cf) (bs : List Bool) : Bool := (c.pr.all fun i => decide (bs[i]? = some true) && c.own.contains i) && ((List.range bs.length).all fun i => if bs[i]? = some true then (c.pr.contains i || c.mu.contains i) && c.own.contains i else !c.own.contains i)
theorem argsB_t {c : Cf} {bs : List Bool} (k : argsB c bs = true) {i : Nat} (h : bs[i]? = some true) : (i ∈ c.pr ∨ i ∈ c.mu) ∧ i ∈ c.own := by
  unfold argsB at k
  rw [Bool.and_eq_true] at k
  have := List.all_eq_true.mp k.2 i (List.mem_range.mpr (List.getElem?_eq_some_iff.mp h).1)
  rw [if_pos h] at this
  simpa using this
theorem argsB_f {c : Cf} {bs : List Bool} (k : argsB c bs = true) {i : Nat} (h : bs[i]? = some false) : i ∉ c.own := by
  unfold argsB at k
  rw [Bool.and_eq_true] at k
  have := List.all_eq_true.mp k.2 i (List.mem_range.mpr (List.getElem?_eq_some_iff.mp h).1)
  rw [if_neg (by rw [h]; simp)] at this
  simpa using this
section
variable {S S' : Store} {bs : List Bool} {ws : List W} {ds : List D} {Ls : List (List Addr)}
theorem OwA.at_ (h : OwA S bs ws ds Ls) : ∀ {i : Nat} {d : D}, ds[i]? = some d → ∃ w, ws[i]? = some w ∧ ((bs[i]? = some false ∧ w = .d d ∧ Ls[i]? = some []) ∨ (bs[i]? = some true ∧ ∃ L, Ls[i]? = some L ∧ Ow S w d L ∧ cel w d)) := by
  induction h with
  | nil => intro i d e; simp at e
  | tr d h ih =>
    intro i e he
    cases i with
    | zero => simp at he; subst he; exact ⟨_, rfl, .inl ⟨rfl, rfl, rfl⟩⟩
    | succ i => simpa using ih (i := i) (by simpa using he)
  | ow h1 h2 h3 h4 ih =>
    intro i e he
    cases i with
    | zero => simp at he; subst he; exact ⟨_, rfl, .inr ⟨rfl, _, rfl, h1, h4⟩⟩
    | succ i => simpa using ih (i := i) (by simpa using he)
theorem OwA.dis (h : OwA S bs ws ds Ls) : ∀ {i j : Nat} {b : Addr}, i ≠ j → b ∈ Ls[i]?.getD [] → b ∉ Ls[j]?.getD [] := by
  induction h with
  | nil => intro i j b ne hb; simp at hb
  | tr d h ih =>
    intro i j b ne hb
    cases i with
    | zero => simp at hb
    | succ i => cases j with
      | zero => simp
      | succ j => simpa using ih (i := i) (j := j) (fun z => ne (by rw [z])) (by simpa using hb)
  | @ow bs ws ds Ls w d L h1 h2 h3 h4 ih =>
    have mem : ∀ {j : Nat} {b : Addr}, b ∈ Ls[j]?.getD [] → ∃ L' ∈ Ls, b ∈ L' := fun {j b} hb => by
      cases e : Ls[j]? with
      | none => rw [e] at hb; cases hb
      | some L' => rw [e] at hb; exact ⟨L', List.mem_of_getElem? e, hb⟩
    intro i j b ne hb
    cases i with
    | zero =>
      cases j with
      | zero => exact absurd rfl ne
      | succ j =>
        intro hc
        obtain ⟨L', g1, g2⟩ := mem (j := j) (b := b) (by simpa using hc)
        exact h3 b (by simpa using hb) L' g1 g2
    | succ i => cases j with
      | zero =>
        intro hc
        obtain ⟨L', g1, g2⟩ := mem (j := i) (b := b) (by simpa using hb)
        exact h3 b (by simpa using hc) L' g1 g2
      | succ j => simpa using ih (i := i) (j := j) (fun z => ne (by rw [z])) (by simpa using hb)
theorem OwA.re (h : OwA S bs ws ds Ls) : (∀ (i : Nat) (w : W) (d : D) (L : List Addr), ws[i]? = some w → ds[i]? = some d → Ls[i]? = some L → bs[i]? = some true → Ow S' w d L) → OwA S' bs ws ds Ls := by
  induction h with
  | nil => intro _; exact .nil
  | tr d h ih => intro q; exact .tr d (ih fun i w e L h1 h2 h3 h4 => q (i + 1) w e L (by simpa using h1) (by simpa using h2) (by simpa using h3) (by simpa using h4))
  | ow h1 h2 h3 h4 ih => intro q; exact .ow (q 0 _ _ _ rfl rfl rfl rfl) (ih fun i w e L h1 h2 h3 h4 => q (i + 1) w e L (by simpa using h1) (by simpa using h2) (by simpa using h3) (by simpa using h4)) h3 h4
theorem startR_at {N i : Nat} {d : D} (h : (startR N ds)[i]? = some (some d)) : ds[i]? = some d := by
  unfold startR at h
  by_cases l : i < ds.length
  · rw [List.getElem?_append_left (by simpa using l), List.getElem?_map] at h
    cases e : ds[i]? with
    | none => rw [e] at h; cases h
    | some x => rw [e] at h; cases h; rfl
  · rw [List.getElem?_append_right (by simpa using Nat.le_of_not_lt l)] at h
    exfalso
    have := List.getElem?_eq_some_iff.mp h
    obtain ⟨a, b⟩ := this
    rw [List.getElem_replicate] at b
    cases b
theorem startR_of {N i : Nat} {d : D} (h : ds[i]? = some d) : (startR N ds)[i]? = some (some d) := by
  unfold startR
  have l := (List.getElem?_eq_some_iff.mp h).1
  rw [List.getElem?_append_left (by simpa using l), List.getElem?_map, h]
  rfl
theorem startD_of {N i : Nat} {w : W} (h : ws[i]? = some w) : (startD N ws)[i]? = some (some w) := by
  unfold startD
  have l := (List.getElem?_eq_some_iff.mp h).1
  rw [List.getElem?_append_left (by simpa using l), List.getElem?_map, h]
  rfl
def startB (S : Store) (N : Nat) (ws : List W) (ds : List D) (Ls : List (List Addr)) : Bs := ⟨fun b => ∃ L ∈ Ls, b ∈ L, S, startD N ws, startR N ds, fun i => Ls[i]?.getD [], fun i => Ls[i]?.getD []⟩
theorem em_start {c : Cf} {N : Nat} (h : OwA S bs ws ds Ls) (k : argsB c bs = true) : Em c (startB S N ws ds Ls) (startR N ds) (startD N ws) S := by
  have l := h.lens
  refine ⟨fun b => ∃ L ∈ Ls, b ∈ L, by simp [startD, startR, l.2.1], fun i d hd ho => ?_, fun i d hd ho => ?_, fun i d w hd ho hw => ?_, fun i b hb => ?_, fun i j b ne hb => h.dis ne hb, fun b hb => hb, fun b hb => ?_, fun b hb => ?_, fun b hb => .inl hb, fun b x _ h => h, fun i _ => rfl, fun i _ => rfl, fun i _ => rfl, fun i b hi hb => .inl hb, fun i b h1 h2 hb => ?_⟩
  · obtain ⟨w, hw, r⟩ := h.at_ (startR_at hd)
    rcases r with ⟨e, rfl, _⟩ | ⟨e, _⟩
    · exact startD_of hw
    · exact absurd (argsB_t k e).2 ho
  · obtain ⟨w, hw, r⟩ := h.at_ (startR_at hd)
    rcases r with ⟨e, rfl, _⟩ | ⟨e, L, hL, ow, _⟩
    · exact absurd ho (argsB_f k e)
    · exact ⟨w, startD_of hw, by show Ow S w d (Ls[i]?.getD []); rw [hL]; exact ow⟩
  · obtain ⟨w', hw', r⟩ := h.at_ (startR_at hd)
    rcases r with ⟨e, rfl, _⟩ | ⟨e, L, hL, ow, hc⟩
    · exact absurd ho (argsB_f k e)
    · rw [startD_of hw'] at hw
      cases hw
      exact hc
  · have hb : b ∈ Ls[i]?.getD [] := hb
    cases e : Ls[i]? with
    | none => rw [e] at hb; cases hb
    | some L' => rw [e] at hb; exact ⟨L', List.mem_of_getElem? e, hb⟩
  · obtain ⟨L, g1, g2⟩ := hb; exact h.al L g1 b g2
  · obtain ⟨L, g1, g2⟩ := hb; exact h.al L g1 b g2
  · exfalso
    have hb : b ∈ Ls[i]?.getD [] := hb
    cases e : Ls[i]? with
    | none => rw [e] at hb; cases hb
    | some L' =>
      rw [e] at hb
      have l2 := (List.getElem?_eq_some_iff.mp e).1
      have hd : ∃ d, ds[i]? = some d := ⟨_, List.getElem?_eq_getElem (by omega)⟩
      obtain ⟨d, hd⟩ := hd
      obtain ⟨w, hw, r⟩ := h.at_ hd
      rcases r with ⟨e1, _, e2⟩ | ⟨e1, _⟩
      · rw [e] at e2; cases e2; cases hb
      · exact (argsB_t k e1).1.elim h1 h2
theorem em_ow {c : Cf} {N : Nat} {ρ' : Rho} {δ' : Slots} {A : Addr → Prop} {L : Nat → List Addr} (q : EmC c (startB S N ws ds Ls) ρ' δ' S' A L) {i : Nat} {w : W} {d : D} {L' : List Addr} (hp : i ∈ c.pr) (ho : i ∈ c.own) (h1 : ws[i]? = some w) (h2 : ds[i]? = some d) (h3 : Ls[i]? = some L') : Ow S' w d L' := by
  obtain ⟨w', e1, e2⟩ := q.ow i d ((q.prr i hp).trans (startR_of h2)) ho
  have e3 := (q.prd i (.inl hp)).trans (startD_of (N := N) h1)
  rw [e3] at e1
  cases e1
  have e4 := q.prl i hp
  have e5 : (startB S N ws ds Ls).L0 i = Ls[i]?.getD [] := rfl
  rw [e5, h3] at e4
  rw [e4] at e2
  exact e2
theorem em_end {c : Cf} {N : Nat} {ρ' : Rho} {δ' : Slots} (h : OwA S bs ws ds Ls) (k : argsB c bs = true) (n : c.mu = []) {Lx : Nat → List Addr} (q : Em c ((startB S N ws ds Ls).at Lx) ρ' δ' S') : FrL Ls S S' ∧ OwA S' bs ws ds Ls := by
  obtain ⟨A, q⟩ := q
  have q : EmC c (startB S N ws ds Ls) ρ' δ' S' A Lx := ⟨q.len, q.tr, q.ow, q.ce, q.inA, q.dis, q.a0, q.a1, q.al, q.new, q.fr, q.prd, q.prr, q.prl, q.mul, q.fresh⟩
  refine ⟨fun b x h1 h2 => q.fr b x (fun ⟨L', g1, g2⟩ => h1 L' g1 g2) h2, h.re fun i w d L' h1 h2 h3 h4 => ?_⟩
  obtain ⟨hp, ho⟩ := argsB_t k h4
  exact em_ow q (hp.elim id fun z => by rw [n] at z; cases z) ho h1 h2 h3
end
def bodyF (n N : Nat) (f : FS) : DF := fun ds => must (ds.length = n) ((f (startR N ds)).bind fun r => match r with
  | .nx _ => .ok .non
  | .rt d _ => .ok d
  | _ => .no)
theorem qf_body {c : Cf} {bs : List Bool} {nn N : Nat} {m : SM} {f : FS} (h : QS c false m f) (k : argsB c bs = true := by decide) (n : c.mu = [] := by rfl) : QF bs (bodyD nn N m) (bodyF nn N f) := fun ws ds S Ls P X ow q => by
  obtain ⟨hl, q⟩ := must_wp q
  rw [Dr.wp_bind] at q
  refine ⟨ow.lens.2.1.trans hl, ?_⟩
  refine h (startB S N ws ds Ls) (startR N ds) (startD N ws) S _ (em_start ow k) (q.imp (fun r q => ?_) fun e q L' ρ' δ' S' k' => ?_)
  · cases r with
    | nx ρ' => exact fun L' δ' S' k' => dnW.of (q S' (em_end ow k n k').1 (em_end ow k n k').2)
    | rt d ρ' => exact fun L' δ' S' k' => dnW.of (q S' (em_end ow k n k').1 (em_end ow k n k').2)
    | _ => exact q.elim
  · exact q S' (em_end ow k n k').1 (em_end ow k n k').2
theorem qf_bodyO {c : Cf} {bs : List Bool} {nn N : Nat} {m : SM} {f : FS} (h : QS c true m f) (k : argsB c bs = true := by decide) (n : c.mu = [] := by rfl) : QFO bs (bodyD nn N m) (bodyF nn N f) := fun ws ds S Ls P X ow q => by
  obtain ⟨hl, q⟩ := must_wp q
  rw [Dr.wp_bind] at q
  refine ⟨ow.lens.2.1.trans hl, ?_⟩
  refine h (startB S N ws ds Ls) (startR N ds) (startD N ws) S _ (em_start ow k) (q.imp (fun r q => ?_) fun e q L' ρ' δ' S' k' => ?_)
  · cases r with
    | nx ρ' => exact fun L' δ' S' k' => dnW.of (q S' _ [] (em_end ow k n k').1 (em_end ow k n k').2 (.d _) (fun b hb => by cases hb) fun z => by cases z)
    | rt d ρ' =>
      intro L' δ' S' w kx
      have k' := kx.em
      obtain ⟨A, Lr, k2, hw, hr, hc⟩ := kx
      exact dnW.of (q S' w Lr (em_end ow k n k').1 (em_end ow k n k').2 hw (fun b hb => (hr b hb).2) hc)
    | _ => exact q.elim
  · exact q S' (em_end ow k n k').1 (em_end ow k n k').2
def bodyM (n N : Nat) (f : FS) : MF := fun ds => must (ds.length = n) ((f (startR N ds)).bind fun r => match r with
  | .nx ρ => opt (getR ρ 0) fun g => .ok (.non, g)
  | .rt d ρ => opt (getR ρ 0) fun g => .ok (d, g)
  | _ => .no)
theorem qm_body {c : Cf} {bs : List Bool} {nn N : Nat} {m : SM} {f : FS} (h : QS c false m f) (k : argsB c (true :: bs) = true := by decide) (n : c.mu = [0] := by rfl) (n0 : 0 ∉ c.pr := by decide) : QM bs (bodyD nn N m) (bodyM nn N f) := fun w g L0 ws ds S Ls P X hw cw ow hd q => by
  obtain ⟨hl, q⟩ := must_wp q
  rw [Dr.wp_bind] at q
  have ow2 : OwA S (true :: bs) (w :: ws) (g :: ds) (L0 :: Ls) := .ow hw ow hd cw
  refine ⟨ow2.lens.2.1.trans hl, ?_⟩
  have h0 : 0 ∈ c.own := (argsB_t k (i := 0) rfl).2
  have fin : ∀ {Lx : Nat → List Addr} {ρ' : Rho} {δ' : Slots} {S' : Store}, Em c ((startB S N (w :: ws) (g :: ds) (L0 :: Ls)).at Lx) ρ' δ' S' → FrL (L0 :: Ls) S S' ∧ OwA S' bs ws ds Ls ∧ (∀ b ∈ L0, S' b ≠ none) ∧ ∀ g', getR ρ' 0 = some g' → ∃ L1, Ow S' w g' L1 ∧ ∀ b ∈ L1, b ∈ L0 ∨ S b = none := fun {Lx ρ' δ' S'} q => by
    obtain ⟨A, q⟩ := q
    have q : EmC c (startB S N (w :: ws) (g :: ds) (L0 :: Ls)) ρ' δ' S' A Lx := ⟨q.len, q.tr, q.ow, q.ce, q.inA, q.dis, q.a0, q.a1, q.al, q.new, q.fr, q.prd, q.prr, q.prl, q.mul, q.fresh⟩
    refine ⟨fun b x h1 h2 => q.fr b x (fun ⟨L', g1, g2⟩ => h1 L' g1 g2) h2, ow.re fun i w' d L' h1 h2 h3 h4 => ?_, fun b hb => q.al b (q.a0 b ⟨L0, by simp, hb⟩), fun g' e => ?_⟩
    · obtain ⟨hp, ho⟩ := argsB_t k (i := i + 1) (by simpa using h4)
      exact em_ow q (hp.elim id fun z => by rw [n] at z; simp at z) ho (by simpa using h1) (by simpa using h2) (by simpa using h3)
    · obtain ⟨w', e1, e2⟩ := q.ow 0 g' (getR_at e) h0
      have e3 := (q.prd 0 (.inr (by rw [n]; simp))).trans (startD_of (ws := w :: ws) (N := N) (i := 0) rfl)
      rw [e3] at e1
      cases e1
      exact ⟨Lx 0, e2, fun b hb => q.mul 0 b (by rw [n]; simp) hb⟩
  refine h _ _ _ S _ (em_start ow2 k) (q.imp (fun r q => ?_) fun e q L' ρ' δ' S' k' => q S' (fin k').1 (fin k').2.1 (fin k').2.2.1)
  cases r with
  | nx ρ' =>
    intro L' δ' S' k'
    obtain ⟨g', e, q⟩ := opt_wp q
    obtain ⟨f1, f2, fa, f3⟩ := fin k'
    obtain ⟨L1, f4, f5⟩ := f3 g' e
    exact dnW.of (q S' L1 f1 f4 f5 f2 fa)
  | rt d ρ' =>
    intro L' δ' S' k'
    obtain ⟨g', e, q⟩ := opt_wp q
    obtain ⟨f1, f2, fa, f3⟩ := fin k'
    obtain ⟨L1, f4, f5⟩ := f3 g' e
    exact dnW.of (q S' L1 f1 f4 f5 f2 fa)
  | _ => exact q.elim
theorem law_of {c : Cf} {m : SM} {f : FS} {N : Nat} {p cc : Addr} {ms : List Int} {z : Int} (h : QS c false m f) (hc : (c.own.contains 1 && c.pr == [1] && c.mu.isEmpty) = true) (ne : p ≠ cc) (hl : ms.length ≤ 63) (h0 : 0 ≤ z) (h1 : z < 2147483629)
    (q : (f (none :: some (.ty "bag") :: List.replicate N none)).wp (fun r => match r with
      | .rt d _ => d = .bl true
      | _ => False) (fun _ => False)) : m lawC (none :: some (.ref p) :: List.replicate N none) (bagS p cc ms z) := by
  simp only [Bool.and_eq_true] at hc
  obtain ⟨⟨c1, c2⟩, c3⟩ := hc
  have c1 : 1 ∈ c.own := by simpa using c1
  have c2 : c.pr = [1] := by simpa using c2
  have c3 : c.mu = [] := List.isEmpty_iff.mp c3
  have hp : bagS p cc ms z p = some (bagC cc 0 0 z 0) := upS_same
  have hcc : bagS p cc ms z cc = some (bagI ms) := by
    unfold bagS
    rw [upS_ne (Ne.symm ne), upS_same]
  have hb : BagOk (bagS p cc ms z) p cc := ⟨ms, 0, 0, z, 0, hp, hcc, ne, hl, by decide, by decide, h0, h1⟩
  have nr : ∀ i d, (none :: some (D.ty "bag") :: List.replicate N none : Rho)[i]? = some (some d) → i = 1 ∧ d = .ty "bag" := fun i d e => by
    match i with
    | 0 => simp at e
    | 1 => simp at e; exact ⟨rfl, e.symm⟩
    | i + 2 =>
      exfalso
      have e : (List.replicate N (none : Option D))[i]? = some (some d) := by simpa using e
      obtain ⟨a, b⟩ := List.getElem?_eq_some_iff.mp e
      rw [List.getElem_replicate] at b
      cases b
  refine h ⟨fun b => b ∈ [p, cc], bagS p cc ms z, none :: some (.ref p) :: List.replicate N none, none :: some (.ty "bag") :: List.replicate N none, fun i => if i = 1 then [p, cc] else [], fun i => if i = 1 then [p, cc] else []⟩ _ _ _ lawC ⟨fun b => b ∈ [p, cc], by simp, fun i d hd ho => ?_, fun i d hd ho => ?_, fun i d w hd ho hw => ?_, fun i b hb' => ?_, fun i j b nij hb' hc' => ?_, fun b hb => hb, fun b hb' => ?_, fun b hb' => ?_, fun b hb => .inl hb, fun b x _ h => h, fun i _ => rfl, fun i _ => rfl, fun i _ => rfl, fun i b hi => ?_, fun i b g1 g2 hb' => ?_⟩ (q.imp (fun r q => ?_) fun e z => z.elim)
  · obtain ⟨rfl, rfl⟩ := nr i d hd
    exact absurd c1 ho
  · obtain ⟨rfl, rfl⟩ := nr i d hd
    exact ⟨_, rfl, by show Ow _ _ _ (if 1 = 1 then [p, cc] else []); rw [if_pos rfl]; exact .bag hb⟩
  · obtain ⟨rfl, rfl⟩ := nr i d hd
    have e : (some (some (W.ref p)) : Option (Option W)) = some (some w) := hw
    cases e
    exact fun _ => ⟨p, rfl⟩
  · have hb' : b ∈ (if i = 1 then [p, cc] else []) := hb'
    by_cases e : i = 1
    · rw [if_pos e] at hb'; exact hb'
    · rw [if_neg e] at hb'; cases hb'
  · have hb' : b ∈ (if i = 1 then [p, cc] else []) := hb'
    have hc' : b ∈ (if j = 1 then [p, cc] else []) := hc'
    by_cases e : i = 1
    · by_cases e' : j = 1
      · exact nij (e.trans e'.symm)
      · rw [if_neg e'] at hc'; cases hc'
    · rw [if_neg e] at hb'; cases hb'
  · rcases List.mem_cons.mp hb' with rfl | hb'
    · show bagS _ _ _ _ _ ≠ none; rw [hp]; simp
    · rw [List.mem_singleton.mp hb']; show bagS _ _ _ _ _ ≠ none; rw [hcc]; simp
  · rcases List.mem_cons.mp hb' with rfl | hb'
    · rw [hp]; simp
    · rw [List.mem_singleton.mp hb', hcc]; simp
  · rw [c3] at hi; cases hi
  · have e : i ≠ 1 := fun e => g1 (by rw [c2, e]; simp)
    have hb' : b ∈ (if i = 1 then [p, cc] else []) := hb'
    rw [if_neg e] at hb'
    cases hb'
  · cases r with
    | rt d ρ' => exact fun L' δ' S' k' => by rw [show d = .bl true from q]; rfl
    | _ => exact q.elim
def fPull : DF := fun ds => match ds with
  | [.ty _, .int n] => .dr n fun d => .ok (.int d)
  | _ => .no
theorem qf_pull {sp : DSp} (h : ∀ {p c : Addr} {many : Int} {S : Store} {P : W → Store → Prop} {X : XP}, BagOk S p c → 1 ≤ many → many < 2 ^ 64 → (∀ d cell, 0 ≤ d → d < many → BagOk (upS S p cell) p c → P (.d (.int d)) (upS S p cell)) → sp [.ref p, .d (.int many)] S P X) : QF [true, false] sp fPull := fun ws ds S Ls P X ow q => by
  cases ow with
  | ow h1 h2 h3 hc =>
    cases h2 with
    | tr e h4 =>
      cases h4
      rename_i w d L
      unfold fPull at q
      split at q
      · rename_i ds0 t n e0
        simp only [List.cons.injEq, and_true] at e0
        obtain ⟨rfl, rfl⟩ := e0
        cases h1 with
        | d =>
          obtain ⟨a, z⟩ := hc rfl
          cases z
        | bag hb =>
          rename_i p c
          obtain ⟨⟨q1, q2⟩, q3⟩ := q
          refine h hb q1 q2 fun d cell d0 d1 hb2 => q3 d d0 d1 _ (fun b x hn hx => ?_) (.ow (.bag hb2) (.tr _ .nil) (fun b hb L' hL' => by simp at hL'; subst hL'; simp) hc)
          have nb : b ≠ p := fun z => hn [p, c] (by simp) (by simp [z])
          rw [upS_ne nb]
          exact hx
      · exact q.elim
end
end DX

set_option Elab.async false
set_option linter.all false
set_option maxRecDepth 100000
namespace DX
open PySem L2
noncomputable section
section
variable {c : Cf} {B : Bs} {ρ ρ' : Rho} {δ δ' : Slots} {S S' : Store} {os : List (Option Nat)} {ws : List W} {ds : List D} {m ma mb mo mi : EM} {f fa fb fo fi : FE} {mr mk : AM} {fr fk : FAs} {t u : TM} {ft fu : FT} {o : Bool}
def fStarA (fa : FE) (fr : FAs) : FAs := fun ρ => (fa ρ).bind fun a => opt (seqD a) fun us => (fr ρ).bind fun r => .ok (us ++ r)
abbrev FAr := Rho → Dr (List D × Rho)
def frNil : FAr := fun ρ => .ok ([], ρ)
def frCons (f : FE) (g : FAr) : FAr := fun ρ => (f ρ).bind fun d => (g ρ).bind fun r => .ok (d :: r.1, r.2)
def frFrz (i : Nat) (g : FAr) : FAr := fun ρ => opt (getR ρ i) fun d => must (frzOk d = true) ((g (ρ.set i none)).bind fun r => .ok (d :: r.1, r.2))
def fRetL (g : FAr) : FS := fun ρ => (g ρ).bind fun r => must (r.1.length ≤ 1000) (.ok (.rt (.lst r.1) r.2))
def fRetT (g : FAr) : FS := fun ρ => (g ρ).bind fun r => must (r.1.length ≤ 1000) (.ok (.rt (.tup r.1) r.2))
def fFrzA (f : FE) : FE := fun ρ => (f ρ).bind fun d => must (frzOk d = true) (.ok d)
theorem qe_frzA (h : QO c m f) : QE c (mFrz m) (fFrzA f) := fun B ρ δ S P X k q => by
  unfold fFrzA at q
  rw [Dr.wp_bind] at q
  refine h B ρ δ S _ X k (q.imp (fun d q S1 w kx => ?_) fun e z => z)
  obtain ⟨hz, q⟩ := must_wp q
  obtain ⟨A, Lr, k1, hw, hr, hc⟩ := kx
  have gone : ∀ a, Lr = [a] → Em c B ρ δ (erS S1 a) := fun a e => by
    have na := (hr a (by rw [e]; simp)).1
    have n0 := (hr a (by rw [e]; simp)).2
    refine ⟨A, ⟨k1.len, k1.tr, fun i d h1 h2 => ?_, k1.ce, k1.inA, k1.dis, k1.a0, k1.a1, fun b hb => ?_, k1.new, fun b x h1 h2 => ?_, k1.prd, k1.prr, k1.prl, k1.mul, k1.fresh⟩⟩
    · obtain ⟨w, e, hw⟩ := k1.ow i d h1 h2
      exact ⟨w, e, hw.fr fun b hb => by
        have nb : b ≠ a := fun z => na (z ▸ k1.inA i b hb)
        exact erS_ne nb⟩
    · have nb : b ≠ a := fun z => na (z ▸ hb)
      rw [erS_ne nb]
      exact k1.al b hb
    · rw [erS_ne (fun z => by rw [z, n0] at h2; cases h2)]
      exact k1.fr b x h1 h2
  generalize hL : Lr = Li at hw
  cases hw with
  | d => exact q S1 ⟨A, k1⟩
  | @lst a ds ha =>
    have e : frzW 4 S1 (.ref a) = some (.lst ds, erS S1 a) := by simp only [frzW, ha, frzs_d, Option.map_some]
    rw [e]
    exact q _ (gone a hL)
  | dct ha => cases hz
  | @obj a Cl fs gs L' ha hf nn =>
    have fl : (gs.all fun p => !cellF p.1) = true := hz
    obtain ⟨e1, e2⟩ := hf.flat fl
    subst e1 e2
    have e : frzW 4 S1 (.ref a) = some (.ins Cl gs, erS S1 a) := by simp only [frzW, ha, frzf_d, Option.map_some]
    rw [e]
    exact q _ (gone a hL)
  | bag h => cases hz
def foInG (nm : String) (rows : List (Str × Int)) (g : Bool → Bool) : F2
  | .str z, .cls c => ite_ (c = nm) (some (.bl (g (rows.lookup z).isSome)))
  | _, _ => none
def foIxG (nm : String) (rows : List (Str × Int)) : F2
  | .cls c, .str z => ite_ (c = nm) ((rows.lookup z).map .int)
  | _, _ => none
theorem qf_dflO {bs bs' : List Bool} {sp : DSp} {F : DF} {es : List D} {us : List W} (hF : QFO bs sp F) (hu : us = es.map .d) (hb : bs = bs' ++ es.map fun _ => false) : QFO bs' (fun ws => sp (ws ++ us)) (fun ds => F (ds ++ es)) := fun ws ds S Ls P X h q => by
  subst hu hb
  obtain ⟨l1, l2, l3⟩ := h.lens
  exact hF _ _ S _ P X (h.app es) (q.imp (fun d q S' w Lr f o hw hr hc => q S' w Lr f.app (o.unapp l1 l2 l3) hw hr hc) fun e q S' f o => q S' f.app (o.unapp l1 l2 l3))
theorem qf_reO {n j : Nat} {sp : DSp} {F : DF} {g : List W → List W} {gd : List D → List D} (hF : QFO (List.replicate n false) sp F) (hg : ∀ ds, ds.length = j → g (ds.map .d) = (gd ds).map .d ∧ (gd ds).length = n) : QFO (List.replicate j false) (fun ws => sp (g ws)) (fun ds => F (gd ds)) := fun ws ds S Ls P X h q => by
  have e := h.allT
  have l := h.lens
  subst e
  have hl : ds.length = j := by rw [← l.2.1, ← l.1]; simp
  obtain ⟨g1, g2⟩ := hg ds hl
  show sp (g (ds.map .d)) S P X
  rw [g1]
  exact hF _ _ S _ P X (.trees g2) (q.imp (fun d q S' w Lr f o hw hr hc => q S' w Lr (fun b x h1 h2 => f.trees b x h2) (h.keep f.trees) hw hr hc) fun e q S' f o => q S' (fun b x h1 h2 => f.trees b x h2) (h.keep f.trees))
end
end
end DX

set_option Elab.async false
set_option linter.all false
set_option maxRecDepth 100000
namespace DX
open PySem L2
noncomputable section
section
variable {c : Cf} {B : Bs} {ρ ρ' : Rho} {δ δ' : Slots} {S S' : Store} {A : Addr → Prop} {L : Nat → List Addr} {os : List (Option Nat)} {ws : List W} {ds : List D} {m ma mb mo mi : EM} {f fa fb fo fi : FE} {mr mk : AM} {fr fk : FAs} {t u : TM} {ft fu : FT} {o : Bool} {name : String} {w : W} {d v : D}
theorem EmC.onto2 (k : EmC c B ρ δ S A L) (hB : ∀ b x, ¬ B.A0 b → B.S0 b = some x → S' b = some x) (hal : ∀ b, A b → S' b ≠ none) (how : ∀ i d w, ρ[i]? = some (some d) → i ∈ c.own → δ[i]? = some (some w) → Ow S w d (L i) → Ow S' w d (L i)) : EmC c B ρ δ S' A L := by
  refine ⟨k.len, k.tr, fun i d h1 h2 => ?_, k.ce, k.inA, k.dis, k.a0, k.a1, hal, k.new, hB, k.prd, k.prr, k.prl, k.mul, k.fresh⟩
  obtain ⟨w, e, h⟩ := k.ow i d h1 h2
  exact ⟨w, e, how i d w h1 h2 e h⟩
def Bs.pin (B : Bs) (S : Store) (Lr : List Addr) : Bs := { B with S0 := fun b => if b ∈ Lr then S b else B.S0 b }
theorem EmC.pin {Lr : List Addr} (k : EmC c B ρ δ S A L) (hw : Ow S w d Lr) (hr : ∀ b ∈ Lr, ¬ A b ∧ B.S0 b = none) : EmC c (B.pin S Lr) ρ δ S A L := by
  have e1 : ∀ b, b ∈ Lr → (B.pin S Lr).S0 b = S b := fun b hb => if_pos hb
  have e2 : ∀ b, b ∉ Lr → (B.pin S Lr).S0 b = B.S0 b := fun b hb => if_neg hb
  have na : ∀ b, A b → b ∉ Lr := fun b ha hb => (hr b hb).1 ha
  refine ⟨k.len, k.tr, k.ow, k.ce, k.inA, k.dis, k.a0, fun b hb => ?_, k.al, fun b hb => ?_, fun b x h1 h2 => ?_, k.prd, k.prr, k.prl, fun i b h1 h2 => ?_, fun i b h1 h2 h3 => ?_⟩
  · rw [e2 b (na b (k.a0 b hb))]; exact k.a1 b hb
  · rw [e2 b (na b hb)]; exact k.new b hb
  · by_cases z : b ∈ Lr
    · rw [e1 b z] at h2; exact h2
    · rw [e2 b z] at h2; exact k.fr b x h1 h2
  · rw [e2 b (na b (k.inA i b h2))]; exact k.mul i b h1 h2
  · rw [e2 b (na b (k.inA i b h3))]; exact k.fresh i b h1 h2 h3
theorem EmC.unpin {Lr : List Addr} {ρ2 : Rho} {δ2 : Slots} {A2 : Addr → Prop} {L2 : Nat → List Addr} (k : EmC c B ρ δ S A L) (hw : Ow S w d Lr) (hr : ∀ b ∈ Lr, ¬ A b ∧ B.S0 b = none) (k2 : EmC c (B.pin S Lr) ρ2 δ2 S' A2 L2) : EmC c B ρ2 δ2 S' A2 L2 ∧ Ow S' w d Lr ∧ ∀ b ∈ Lr, ¬ A2 b ∧ B.S0 b = none := by
  have e1 : ∀ b, b ∈ Lr → (B.pin S Lr).S0 b = S b := fun b hb => if_pos hb
  have e2 : ∀ b, b ∉ Lr → (B.pin S Lr).S0 b = B.S0 b := fun b hb => if_neg hb
  have na : ∀ b ∈ Lr, ¬ A2 b := fun b hb ha => by
    rcases k2.new b ha with z | z
    · exact (hr b hb).1 (k.a0 b z)
    · rw [e1 b hb] at z; exact hw.al b hb z
  have le : ∀ b, A2 b → (B.pin S Lr).S0 b = B.S0 b := fun b ha => e2 b fun hb => na b hb ha
  have l0 : ∀ b, B.S0 b = none ∨ (B.pin S Lr).S0 b = B.S0 b := fun b => by
    by_cases z : b ∈ Lr
    · exact .inl (hr b z).2
    · exact .inr (e2 b z)
  refine ⟨⟨k2.len, k2.tr, k2.ow, k2.ce, k2.inA, k2.dis, k2.a0, fun b hb => ?_, k2.al, fun b hb => ?_, fun b x h1 h2 => ?_, k2.prd, k2.prr, k2.prl, fun i b h1 h2 => ?_, fun i b h1 h2 h3 => ?_⟩, hw.frS fun b x hb e => ?_, fun b hb => ⟨na b hb, (hr b hb).2⟩⟩
  · rw [← le b (k2.a0 b hb)]; exact k2.a1 b hb
  · rw [← le b hb]; exact k2.new b hb
  · refine k2.fr b x h1 ?_
    rcases l0 b with z | z
    · rw [z] at h2; cases h2
    · rw [z]; exact h2
  · rw [← le b (k2.inA i b h2)]; exact k2.mul i b h1 h2
  · rw [← le b (k2.inA i b h3)]; exact k2.fresh i b h1 h2 h3
  · exact k2.fr b x (fun z => (hr b hb).1 (k.a0 b z)) (by rw [e1 b hb]; exact e)
theorem EmX.hold {P : W → Store → Prop} {X : XP} {w : W} {d : D} (kx : EmX c B ρ δ S w d) (h : QE c m f) (q : (f ρ).wp (fun e => ∀ S', EmX c B ρ δ S' w d → P (.d e) S') (fun e => ∀ S', Em c B ρ δ S' → X e.w S')) : m δ S P X := by
  obtain ⟨A, Lr, k, hw, hr, hc⟩ := kx
  refine h (B.pin S Lr) ρ δ S P X ⟨A, k.pin hw hr⟩ (q.imp (fun e q S' k' => ?_) fun e q S' k' => ?_)
  · obtain ⟨A2, k'⟩ := k'
    obtain ⟨k2, h2, h3⟩ := k.unpin hw hr k'
    exact q S' ⟨A2, Lr, k2, h2, h3, hc⟩
  · obtain ⟨A2, k'⟩ := k'
    obtain ⟨k2, h2, h3⟩ := k.unpin hw hr k'
    exact q S' ⟨A2, k2⟩

theorem Owf.get {fs : List (String × W)} {gs : List (String × D)} {L : List Addr} {f : String} {v : D} (h : Owf S fs gs L) (e : gs.lookup f = some v) : ∃ w Lf, fs.lookup f = some w ∧ Ow S w v Lf ∧ (∀ b ∈ Lf, b ∈ L) ∧ (cellF f = false → w = .d v) ∧ (cellF f = true → cel w v) := by
  match h with
  | .nil => cases e
  | .cons (f := g) (L := L1) (L' := L2) h r n z y =>
    rw [List.lookup_cons] at e
    by_cases q : (f == g) = true
    · rw [q] at e
      cases e
      have q2 : f = g := by simpa using q
      subst q2
      exact ⟨_, L1, by rw [List.lookup_cons, q], h, fun b hb => List.mem_append_left _ hb, z, y⟩
    · have q : (f == g) = false := by simpa using q
      rw [q] at e
      obtain ⟨w, Lf, h1, h2, h3, h4⟩ := r.get e
      exact ⟨w, Lf, by rw [List.lookup_cons, q]; exact h1, h2, fun b hb => List.mem_append_right _ (h3 b hb), h4⟩
theorem Em.ownO {i : Nat} {C : String} {gs : List (String × D)} (k : Em c B ρ δ S) (er : getR ρ i = some (.ins C gs)) (h1 : i ∈ c.own) : ∃ a fs L1, δ[i]? = some (some (.ref a)) ∧ S a = some (.obj C fs) ∧ Owf S fs gs L1 ∧ a ∉ L1 ∧ B.L i = a :: L1 := by
  obtain ⟨A, k⟩ := k
  obtain ⟨w, e, hw⟩ := k.ow i _ (getR_at er) h1
  obtain ⟨a, rfl⟩ := k.ce i _ w (getR_at er) h1 e rfl
  generalize hL : B.L i = Li at hw
  cases hw with
  | obj ha hf nn => exact ⟨a, _, _, e, ha, hf, nn, rfl⟩
mutual
theorem Ow.uniq {T : Store} : ∀ {w w' : W} {d : D} {L L' : List Addr}, Ow S w d L → Ow T w' d L' → cel w d → cel w' d → L.length = L'.length ∧ (L = L' → w = w')
  | _, w', _, _, L', .d x, h, c1, c2 => by
    by_cases z : cellLike x = true
    · obtain ⟨a, e⟩ := c1 z
      cases e
    · cases h with
      | d => exact ⟨rfl, fun _ => rfl⟩
      | _ => exact absurd rfl z
  | _, w', _, _, L', .lst h0, h, c1, c2 => by
    obtain ⟨a, rfl⟩ := c2 rfl
    cases h with
    | lst h1 => exact ⟨rfl, fun e => by cases e; rfl⟩
  | _, w', _, _, L', .dct h0, h, c1, c2 => by
    obtain ⟨a, rfl⟩ := c2 rfl
    cases h with
    | dct h1 => exact ⟨rfl, fun e => by cases e; rfl⟩
  | _, w', _, _, L', .bag h0, h, c1, c2 => by
    obtain ⟨a, rfl⟩ := c2 rfl
    cases h with
    | bag h1 => exact ⟨rfl, fun e => by cases e; rfl⟩
  | _, w', _, _, L', .obj h0 r n, h, c1, c2 => by
    obtain ⟨a, rfl⟩ := c2 rfl
    cases h with
    | obj h1 r1 n1 => exact ⟨congrArg (· + 1) (Owf.uniq r r1).1, fun e => by injection e with e1 e2; rw [e1]⟩
theorem Owf.uniq {T : Store} : ∀ {fs fs' : List (String × W)} {gs : List (String × D)} {L L' : List Addr}, Owf S fs gs L → Owf T fs' gs L' → L.length = L'.length ∧ (L = L' → fs = fs')
  | _, _, _, _, _, .nil, h => by cases h; exact ⟨rfl, fun _ => rfl⟩
  | _, fs', _, _, L', .cons (f := g) h r n z y, h' => by
    cases h' with
    | cons h1 r1 n1 z1 y1 =>
      obtain ⟨b1, b2⟩ := Owf.uniq r r1
      by_cases q : cellF g = true
      · obtain ⟨a1, a2⟩ := Ow.uniq h h1 (y q) (y1 q)
        refine ⟨by rw [List.length_append, List.length_append, a1, b1], fun e => ?_⟩
        obtain ⟨e1, e2⟩ := List.append_inj e a1
        rw [a2 e1, b2 e2]
      · have q : cellF g = false := by simpa using q
        have e1 := z q
        have e2 := z1 q
        subst e1 e2
        cases h
        cases h1
        exact ⟨by simpa using b1, fun e => by rw [b2 (by simpa using e)]⟩
end
def fFldR (C : String) (f : String) (i : Nat) : FE := fun ρ => opt (getR ρ i) fun o => match o with
  | .ins C' gs => must (C' = C) (opt (gs.lookup f) .ok)
  | _ => .no
theorem Em.fld {C : String} {i : Nat} {f : String} {gs : List (String × D)} {d : D} (k : Em c B ρ δ S) (hi : i ∈ c.own) (er : getR ρ i = some (.ins C gs)) (ed : gs.lookup f = some d) : ∃ w a fs, δ[i]? = some (some (.ref a)) ∧ S a = some (.obj C fs) ∧ fs.lookup f = some w ∧ (cellF f = true → cel w d) ∧ ∀ T, Em c B ρ δ T → ∃ Lf, Ow T w d Lf := by
  obtain ⟨a, fs, L1, ea, ha, hf, nn, hL⟩ := k.ownO er hi
  obtain ⟨w, Lf, h1, h2, h3, h4, h5⟩ := hf.get ed
  refine ⟨w, a, fs, ea, ha, h1, h5, fun T kT => ?_⟩
  obtain ⟨a', fs', L1', ea', ha', hf', nn', hL'⟩ := kT.ownO er hi
  rw [hL] at hL'
  injection hL' with e1 e2
  subst e1 e2
  have e := (hf.uniq hf').2 rfl
  subst e
  obtain ⟨w', Lf', g1, g2, _⟩ := hf'.get ed
  rw [h1] at g1
  cases g1
  exact ⟨Lf', g2⟩
end
end
end DX

set_option Elab.async false
set_option linter.all false
set_option maxRecDepth 100000
namespace DX
open PySem L2
noncomputable section
section
variable {c : Cf} {B : Bs} {ρ ρ' : Rho} {δ δ' : Slots} {S S' : Store} {A : Addr → Prop} {L : Nat → List Addr} {os : List (Option Nat)} {ws : List W} {ds : List D} {m ma mb mo mi : EM} {f fa fb fo fi : FE} {mr mk : AM} {fr fk : FAs} {t u : TM} {ft fu : FT} {o : Bool} {name : String} {w : W} {d v : D}
theorem EmC.remake {i : Nat} {g' : D} {L1 : List Addr} (k : EmC c B ρ δ S A B.L) (hi : i ∈ c.own) (hp : i ∉ c.pr) (ew : δ[i]? = some (some w)) (hw : Ow S' w g' L1) (hc : cel w g') (hn : ∀ b ∈ L1, b ∈ B.L i ∨ (¬ A b ∧ B.S0 b = none)) (al : ∀ b ∈ B.L i, S' b ≠ none)
    (hb : ∀ b x, ¬ B.A0 b → B.S0 b = some x → S' b = some x) (ha : ∀ b, A b → S' b ≠ none) (ho : ∀ j d w, j ≠ i → ρ[j]? = some (some d) → j ∈ c.own → δ[j]? = some (some w) → Ow S w d (B.L j) → Ow S' w d (B.L j)) : Em c (B.at fun j => if j = i then L1 else B.L j) (ρ.set i (some g')) δ S' := by
  refine ⟨fun b => A b ∨ b ∈ L1, EmC.at_ (B := B) ?_⟩
  show EmC c B (ρ.set i (some g')) δ S' (fun b => A b ∨ b ∈ L1) (fun j => if j = i then L1 else B.L j)
  have fresh : ∀ b ∈ L1, b ∉ B.L i → ¬ A b ∧ B.S0 b = none := fun b hb' h => (hn b hb').elim (fun z => absurd z h) fun z => z
  refine ⟨by simpa using k.len, fun j e hj hjo => ?_, fun j e hj hjo => ?_, fun j e u hj hjo hu => ?_, fun j b hb' => ?_, fun j l b ne hb' hc' => ?_, fun b hb' => .inl (k.a0 b hb'), k.a1, fun b hb' => ?_, fun b hb' => ?_, hb, k.prd, fun j hj => ?_, fun j hj => ?_, fun j b hj hb' => ?_, fun j b p q hb' => ?_⟩
  · have z : i ≠ j := fun z => hjo (z ▸ hi)
    rw [List.getElem?_set_ne z] at hj
    exact k.tr j e hj hjo
  · by_cases z : i = j
    · subst z
      have hl := (List.getElem?_eq_some_iff.mp hj).1
      rw [List.length_set] at hl
      rw [List.getElem?_set_self hl] at hj
      cases hj
      rw [if_pos rfl]
      exact ⟨w, ew, hw⟩
    · rw [List.getElem?_set_ne z] at hj
      rw [if_neg (Ne.symm z)]
      obtain ⟨u, e1, e2⟩ := k.ow j e hj hjo
      exact ⟨u, e1, ho j e u (Ne.symm z) hj hjo e1 e2⟩
  · by_cases z : i = j
    · subst z
      have hl := (List.getElem?_eq_some_iff.mp hj).1
      rw [List.length_set] at hl
      rw [List.getElem?_set_self hl] at hj
      cases hj
      rw [ew] at hu
      cases hu
      exact hc
    · rw [List.getElem?_set_ne z] at hj
      exact k.ce j e u hj hjo hu
  · by_cases z : j = i
    · rw [if_pos z] at hb'; exact .inr hb'
    · rw [if_neg z] at hb'; exact .inl (k.inA j b hb')
  · by_cases z : j = i
    · rw [if_pos z] at hb'
      rw [if_neg (fun y => ne (z.trans y.symm))] at hc'
      by_cases y : b ∈ B.L i
      · exact k.dis j l b ne (z ▸ y) hc'
      · exact (fresh b hb' y).1 (k.inA l b hc')
    · rw [if_neg z] at hb'
      by_cases y : l = i
      · rw [if_pos y] at hc'
        by_cases x : b ∈ B.L i
        · exact k.dis j l b ne hb' (y ▸ x)
        · exact (fresh b hc' x).1 (k.inA j b hb')
      · rw [if_neg y] at hc'
        exact k.dis j l b ne hb' hc'
  · rcases hb' with hb' | hb'
    · exact ha b hb'
    · exact hw.al b hb'
  · rcases hb' with hb' | hb'
    · exact k.new b hb'
    · by_cases y : b ∈ B.L i
      · exact k.new b (k.inA i b y)
      · exact .inr (fresh b hb' y).2
  · have z : i ≠ j := fun z => hp (z ▸ hj)
    rw [List.getElem?_set_ne z]
    exact k.prr j hj
  · have z : ¬ j = i := fun z => hp (z ▸ hj)
    rw [if_neg z]; exact k.prl j hj
  · by_cases z : j = i
    · rw [if_pos z] at hb'
      by_cases y : b ∈ B.L i
      · exact k.mul j b hj (z ▸ y)
      · exact .inr (fresh b hb' y).2
    · rw [if_neg z] at hb'; exact k.mul j b hj hb'
  · by_cases z : j = i
    · rw [if_pos z] at hb'
      by_cases y : b ∈ B.L i
      · exact k.fresh j b p q (z ▸ y)
      · exact (fresh b hb' y).2
    · rw [if_neg z] at hb'; exact k.fresh j b p q hb'
def methM (name : String) (tb : List (String × MF)) (o : D) (k : MF → Dr Fl) : Dr Fl := match o with
  | .ins C fs => must ((fs.lookup name).isNone = true) (opt (tb.lookup C) k)
  | _ => .no
def fMut (name : String) (tb : List (String × MF)) (i : Nat) (fr : FAs) : FS := fun ρ => opt (getR ρ i) fun o => methM name tb o fun F => (fr ρ).bind fun ds => (F (o :: ds)).bind fun r => .ok (.nx (ρ.set i (some r.2)))
def fMutS (name : String) (n : Nat) (tb : List (String × MF)) (i : Nat) (fa : FE) : FS := fun ρ => opt (getR ρ i) fun o => methM name tb o fun F => (fa ρ).bind fun d => opt (seqD d) fun ds => must (n ≤ ds.length + 1 ∧ ds.length + 1 ≤ 1000000 ∧ n = 1) ((F [o, .tup ds]).bind fun r => .ok (.nx (ρ.set i (some r.2))))
theorem Owf.putO {f : String} {w : W} {d : D} {Lr : List Addr} {fs : List (String × W)} {gs : List (String × D)} {L : List Addr} (hw : Ow S w d Lr) (h1 : cellF f = false → w = .d d) (h2 : cellF f = true → cel w d) (h : Owf S fs gs L) (hd : ∀ b ∈ Lr, b ∉ L) : ∃ L', Owf S (putW f w fs) (putD f d gs) L' ∧ ∀ b ∈ L', b ∈ L ∨ b ∈ Lr := by
  match h with
  | .nil => exact ⟨Lr ++ [], .cons hw .nil (fun b _ hb => by cases hb) h1 h2, fun b hb => .inr (by simpa using hb)⟩
  | .cons (f := g) (L := L1) (L' := L2) h r n z y =>
    unfold putW putD
    by_cases e : g = f
    · rw [if_pos e, if_pos e]
      refine ⟨Lr ++ L2, by rw [e]; exact .cons hw r (fun b hb hc => hd b hb (List.mem_append_right _ hc)) h1 h2, fun b hb => ?_⟩
      rcases List.mem_append.mp hb with hb | hb
      · exact .inr hb
      · exact .inl (List.mem_append_right _ hb)
    · rw [if_neg e, if_neg e]
      obtain ⟨L', g1, g2⟩ := Owf.putO hw h1 h2 r fun b hb hc => hd b hb (List.mem_append_right _ hc)
      refine ⟨L1 ++ L', .cons h g1 (fun b hb hc => ?_) z y, fun b hb => ?_⟩
      · rcases g2 b hc with q | q
        · exact n b hb q
        · exact hd b q (List.mem_append_left _ hb)
      · rcases List.mem_append.mp hb with hb | hb
        · exact .inl (List.mem_append_left _ hb)
        · exact (g2 b hb).imp (fun q => List.mem_append_right _ q) id
theorem EmC.fld {Lr : List Addr} {f : String} {i : Nat} {Cl : String} {gs : List (String × D)} {a : Addr} {fs : List (String × W)} {L1 : List Addr} (k : EmC c B ρ δ S A B.L) (hw : Ow S w d Lr) (hr : ∀ b ∈ Lr, ¬ A b ∧ B.S0 b = none) (hi : i ∈ c.own) (hp : i ∉ c.pr) (ea : δ[i]? = some (some (.ref a))) (ha : S a = some (.obj Cl fs)) (hf : Owf S fs gs L1) (nn : a ∉ L1) (hL : B.L i = a :: L1) (h1 : cellF f = false → w = .d d) (h2 : cellF f = true → cel w d) :
    ∃ L', Em c (B.at L') (ρ.set i (some (.ins Cl (putD f d gs)))) δ (upS S a (.obj Cl (putW f w fs))) := by
  have hd : ∀ b ∈ Lr, b ∉ L1 := fun b hb hc => (hr b hb).1 (k.inA i b (by rw [hL]; exact List.mem_cons_of_mem _ hc))
  have Aa : A a := k.inA i a (by rw [hL]; simp)
  obtain ⟨L', g1, g2⟩ := Owf.putO hw h1 h2 hf hd
  have na : ∀ b ∈ L', b ≠ a := fun b hb z => by
    rcases g2 b hb with q | q
    · exact nn (z ▸ q)
    · exact (hr b q).1 (z ▸ Aa)
  have nb : ∀ b, b ≠ a → upS S a (.obj Cl (putW f w fs)) b = S b := fun b h => upS_ne h
  refine ⟨_, k.remake (L1 := a :: L') hi hp ea (.obj upS_same (g1.fr fun b hb => nb b (na b hb)) fun z => na a z rfl) (fun _ => ⟨a, rfl⟩) (fun b hb => ?_) (fun b hb => ?_) (fun b x q1 q2 => ?_) (fun b hb => ?_) fun j e u ne q1 q2 q3 q4 => q4.fr fun b hb => nb b fun z => ?_⟩
  · rcases List.mem_cons.mp hb with rfl | hb
    · exact .inl (by rw [hL]; simp)
    · rcases g2 b hb with q | q
      · exact .inl (by rw [hL]; exact List.mem_cons_of_mem _ q)
      · exact .inr (hr b q)
  · by_cases z : b = a
    · rw [z, upS_same]; simp
    · rw [nb b z]; exact k.al b (k.inA i b hb)
  · have z : b ≠ a := fun z => by
      rcases k.new a Aa with y | y
      · exact q1 (z ▸ y)
      · rw [z, y] at q2; cases q2
    rw [nb b z]; exact k.fr b x q1 q2
  · by_cases z : b = a
    · rw [z, upS_same]; simp
    · rw [nb b z]; exact k.al b hb
  · exact k.dis j i b ne hb (by rw [hL, z]; simp)
theorem EmX.fld {f : String} {i : Nat} {Cl : String} {gs : List (String × D)} {a : Addr} {fs : List (String × W)} {L1 : List Addr} (kx : EmX c B ρ δ S w d) (hi : i ∈ c.own) (hp : i ∉ c.pr) (ea : δ[i]? = some (some (.ref a))) (ha : S a = some (.obj Cl fs)) (hf : Owf S fs gs L1) (nn : a ∉ L1) (hL : B.L i = a :: L1) (h1 : cellF f = false → w = .d d) (h2 : cellF f = true → cel w d) :
    ∃ L', Em c (B.at L') (ρ.set i (some (.ins Cl (putD f d gs)))) δ (upS S a (.obj Cl (putW f w fs))) := by
  obtain ⟨A, Lr, k, hw, hr, hc⟩ := kx
  exact k.fld hw hr hi hp ea ha hf nn hL h1 h2
def fFldO (f : String) (cs : List String) (i : Nat) (fv : FE) : FS := fun ρ => (fv ρ).bind fun v => opt (getR ρ i) fun g => match g with
  | .ins C gs => must (cs.contains C = true ∧ gs.length < 1000 ∧ cellF f = true) (.ok (.nx (ρ.set i (some (.ins C (putD f v gs))))))
  | _ => .no
def putDs (i : Nat) (cs : List String) (f : String) (v : D) (ρ : Rho) (k : Rho → Dr Fl) : Dr Fl := opt (getR ρ i) fun g => match g with
  | .ins C gs => must (cs.contains C = true ∧ gs.length < 1000) (k (ρ.set i (some (.ins C (putD f v gs)))))
  | _ => .no
def fFld2 (f g : String) (cs cs' : List String) (i j : Nat) (fa fb : FE) : FS := fun ρ => (fa ρ).bind fun a => (fb ρ).bind fun b => must (cellF f = false ∧ cellF g = false) (putDs i cs f a ρ fun ρ1 => putDs j cs' g b ρ1 fun ρ2 => .ok (.nx ρ2))
def fFld2OT (f g : String) (cs cs' : List String) (i j : Nat) (fa fb : FE) : FS := fun ρ => (fa ρ).bind fun a => (fb ρ).bind fun b => must (cellF f = true ∧ cellF g = false) (putDs i cs f a ρ fun ρ1 => putDs j cs' g b ρ1 fun ρ2 => .ok (.nx ρ2))
def fFld2TM (f g : String) (cs cs' : List String) (i j : Nat) (fa : FE) (C0 g0 : String) (j0 : Nat) : FS := fun ρ => (fa ρ).bind fun a => (fFldR C0 g0 j0 ρ).bind fun b => must (cellF f = false ∧ cellF g0 = true ∧ cellF g = true) (putDs i cs f a (ρ.set j0 none) fun ρ1 => putDs j cs' g b ρ1 fun ρ2 => .ok (.nx ρ2))
def fFApp (C : String) (f : String) (i : Nat) (fv : FE) : FS := fun ρ => opt (getR ρ i) fun o => match o with
  | .ins C' gs => must (C' = C ∧ cellF f = true) (opt (gs.lookup f) fun l => match l with
    | .lst ds => (fv ρ).bind fun v => must (ds.length < 10000000) (.ok (.nx (ρ.set i (some (.ins C' (putD f (.lst (ds ++ [v])) gs))))))
    | _ => .no)
  | _ => .no
def fFPop (C : String) (f : String) (i : Nat) (g : FG) : FS := fun ρ => opt (getR ρ i) fun o => match o with
  | .ins C' gs => must (C' = C ∧ cellF f = true) (opt (gs.lookup f) fun l => match l with
    | .lst ds => opt ds[ds.length - 1]? fun v => (g v (ρ.set i (some (.ins C' (putD f (.lst ds.dropLast) gs))))).bind fun ρ' => .ok (.nx ρ')
    | _ => .no)
  | _ => .no
end
end
end DX

set_option Elab.async false
set_option linter.all false
set_option maxRecDepth 100000
namespace DX
open PySem L2
noncomputable section
section
variable {c : Cf} {B : Bs} {ρ ρ' : Rho} {δ δ' : Slots} {S S' : Store} {os : List (Option Nat)} {ws : List W} {ds : List D} {mr mk : AM} {fr fk : FAs}
theorem AR.all {T : Store} (h : AR c ρ δ os ws ds) (k : Em c B ρ δ T) : Ows T ws ds := h.ows k
end
end
end DX

set_option Elab.async false
set_option linter.all false
set_option maxRecDepth 100000
namespace DX
open PySem L2
noncomputable section
variable {c : Cf} {mr : AM} {fr : FAs}
def lenF (tf : List (String × DF)) : DF := fun ds => match ds with
  | [.ins C fs] => opt (tf.lookup C) fun F => (F [.ins C fs]).bind fun r => match r with
    | .int i => must (0 ≤ i ∧ i < 2 ^ 62) (.ok (.int i))
    | _ => .no
  | _ => .no
def fLenO (tf : List (String × DF)) (fr : FAs) : FE := fun ρ => (fr ρ).bind fun ds => lenF tf ds
theorem qe_lenO {tb : List (String × DSp)} {tf : List (String × DF)} (ht : TbR (QF [false]) tb tf) (hr : QA c [none] mr fr) : QE c (mLenO tb mr) (fLenO tf fr) := fun B ρ δ S P X k q => by
  unfold fLenO at q
  rw [Dr.wp_bind] at q
  refine hr B ρ δ S _ X k (q.imp (fun ds q S2 ws k2 h => ?_) fun e z => z)
  obtain ⟨A, k2⟩ := k2
  have ow := h.owa k2 (by decide)
  cases h with
  | tr d h1 =>
    cases h1
    unfold lenF at q
    cases d with
    | ins C fs =>
      dsimp only at q ⊢
      obtain ⟨F, e, q⟩ := opt_wp q
      obtain ⟨sp, ea, hF⟩ := ht.at e
      rw [Dr.wp_bind] at q
      have ei : insOf S2 (.d (.ins C fs)) = some (C, fs.map fun p => (p.1, W.d p.2)) := rfl
      rw [ei]
      dsimp only
      rw [ea]
      dsimp only
      refine hF _ _ S2 _ _ X ow (q.imp (fun d q S' f o => ?_) fun e q S' f o => q S' ⟨A, k2.call (AR.tr _ .nil) f o⟩)
      cases d with
      | int i =>
        obtain ⟨⟨h0, h1⟩, q⟩ := must_wp q
        obtain ⟨n, rfl⟩ := Int.eq_ofNat_of_zero_le h0
        exact ⟨n, rfl, by omega, q S' ⟨A, k2.call (AR.tr _ .nil) f o⟩⟩
      | _ => exact q.elim
    | _ => exact q.elim
def enumTK : List D → Dr (List D)
  | [.tup a] => .ok (enumD a)
  | _ => .no
def fiEnumT (fr : FAs) : FI := fun ρ => (fr ρ).bind enumTK
theorem r_enumT {fr : FAs} {ρ : Rho} : fiEnumT fr ρ = (fr ρ).bind enumTK := rfl
theorem r_enumTK {a : List D} : enumTK [.tup a] = .ok (enumD a) := rfl
theorem r_lenO {tf : List (String × DF)} {fr : FAs} {ρ : Rho} : fLenO tf fr ρ = (fr ρ).bind fun ds => lenF tf ds := rfl
end
end DX

set_option Elab.async false
set_option linter.all false
set_option maxRecDepth 100000
namespace DX
open PySem L2
noncomputable section
def kChD (o' : F2) (b : D) (fc : FE) (ρ : Rho) : D → Dr D
  | .bl true => (fc ρ).bind fun w => opt (o' b w) .ok
  | .bl false => .ok (.bl false)
  | _ => .no
def blD : D → Dr Bool
  | .bl b => .ok b
  | _ => .no
def intO : D → Dr (Option Int)
  | .int i => .ok (some i)
  | _ => .no
def atK (name : String) (t : Option FAt) (C : String) (fs : List (String × D)) : Dr D := match t with
  | some .fld => opt (fs.lookup name) .ok
  | some (.con d) => must ((fs.lookup name).isNone = true) (.ok d)
  | some (.prp F) => (F [.ins C fs]).calm
  | none => .no
def mkK (r g : D) : Dr D := match r with
  | .non => .ok g
  | _ => .no
def isK (cs : List String) (t : Tg) (b : Bool) : Dr D := match t with
  | .own C => must (C ∈ cs) (.ok (.bl b))
  | _ => .ok (.bl b)
def rng1K : List D → Dr (List D)
  | [.int j] => must (rngOk j = true) (.ok (rngD 0 j.toNat))
  | _ => .no
def rng2K : List D → Dr (List D)
  | [.int i, .int j] => must (rngOk i = true ∧ rngOk j = true) (.ok (rngD i (j - i).toNat))
  | _ => .no
def zipK : List D → Dr (List D)
  | [.lst a, .lst b] => .ok (zipD a b)
  | [.tup a, .tup b] => .ok (zipD a b)
  | _ => .no
def enumK : List D → Dr (List D)
  | [.lst a] => .ok (enumD a)
  | _ => .no
def strK : D → Dr (List D)
  | .str s => .ok (strD s)
  | _ => .no
def seqK (g : FS) : Fl → Dr Fl
  | .nx ρ' => g ρ'
  | r => .ok r
def appK (i : Nat) (f : FE) (ρ : Rho) : D → Dr Fl
  | .lst ds => (f ρ).bind fun d => must (ds.length < 10000000) (.ok (.nx (ρ.set i (some (.lst (ds ++ [d]))))))
  | _ => .no
def setJ (i : Nat) (ρ : Rho) (d : D) (ds : List D) : D → Dr Fl
  | .int n => opt (ixN ds.length n) fun j => .ok (.nx (ρ.set i (some (.lst (ds.set j d)))))
  | _ => .no
def setK (i : Nat) (fi : FE) (ρ : Rho) (d : D) : D → Dr Fl
  | .lst ds => (fi ρ).bind fun y => match y with
    | .int n => opt (ixN ds.length n) fun j => .ok (.nx (ρ.set i (some (.lst (ds.set j d)))))
    | _ => .no
  | _ => .no
def fldK (f : String) (cs : List String) (i : Nat) (ρ : Rho) (v : D) : D → Dr Fl
  | .ins C gs => must (cs.contains C = true ∧ gs.length < 1000 ∧ (cellF f = false ∨ cellLike v = false)) (.ok (.nx (ρ.set i (some (.ins C (putD f v gs))))))
  | _ => .no
def fldOK (f : String) (cs : List String) (i : Nat) (ρ : Rho) (v : D) : D → Dr Fl
  | .ins C gs => must (cs.contains C = true ∧ gs.length < 1000 ∧ cellF f = true) (.ok (.nx (ρ.set i (some (.ins C (putD f v gs))))))
  | _ => .no
def fldRK (C f : String) : D → Dr D
  | .ins C' gs => must (C' = C) (opt (gs.lookup f) .ok)
  | _ => .no
def fappJ (f : String) (i : Nat) (fv : FE) (ρ : Rho) (C' : String) (gs : List (String × D)) : D → Dr Fl
  | .lst ds => (fv ρ).bind fun v => must (ds.length < 10000000) (.ok (.nx (ρ.set i (some (.ins C' (putD f (.lst (ds ++ [v])) gs))))))
  | _ => .no
def fappK (C f : String) (i : Nat) (fv : FE) (ρ : Rho) : D → Dr Fl
  | .ins C' gs => must (C' = C ∧ cellF f = true) (opt (gs.lookup f) fun l => match l with
    | .lst ds => (fv ρ).bind fun v => must (ds.length < 10000000) (.ok (.nx (ρ.set i (some (.ins C' (putD f (.lst (ds ++ [v])) gs))))))
    | _ => .no)
  | _ => .no
def fpopJ (f : String) (i : Nat) (g : FG) (ρ : Rho) (C' : String) (gs : List (String × D)) : D → Dr Fl
  | .lst ds => opt ds[ds.length - 1]? fun v => (g v (ρ.set i (some (.ins C' (putD f (.lst ds.dropLast) gs))))).bind fun ρ' => .ok (.nx ρ')
  | _ => .no
def fpopK (C f : String) (i : Nat) (g : FG) (ρ : Rho) : D → Dr Fl
  | .ins C' gs => must (C' = C ∧ cellF f = true) (opt (gs.lookup f) fun l => match l with
    | .lst ds => opt ds[ds.length - 1]? fun v => (g v (ρ.set i (some (.ins C' (putD f (.lst ds.dropLast) gs))))).bind fun ρ' => .ok (.nx ρ')
    | _ => .no)
  | _ => .no
def putDK (i : Nat) (cs : List String) (f : String) (v : D) (ρ : Rho) (k : Rho → Dr Fl) : D → Dr Fl
  | .ins C gs => must (cs.contains C = true ∧ gs.length < 1000) (k (ρ.set i (some (.ins C (putD f v gs)))))
  | _ => .no
def bodyK : Fl → Dr D
  | .nx _ => .ok .non
  | .rt d _ => .ok d
  | _ => .no
def bodyMK : Fl → Dr (D × D)
  | .nx ρ => opt (getR ρ 0) fun g => .ok (.non, g)
  | .rt d ρ => opt (getR ρ 0) fun g => .ok (d, g)
  | _ => .no
theorem r_c {d : D} {ρ : Rho} : fC d ρ = .ok d := rfl
theorem r_var {i : Nat} {ρ : Rho} : fVar i ρ = opt (getR ρ i) .ok := rfl
theorem r_get0 {x : Option D} {l : Rho} : getR (x :: l) 0 = x := rfl
theorem r_getS {x : Option D} {l : Rho} {n : Nat} : getR (x :: l) (n + 1) = getR l n := rfl
theorem r_op {o : F2} {fa fb : FE} {ρ : Rho} : fOp o fa fb ρ = (fa ρ).bind fun a => (fb ρ).bind fun b => opt (o a b) .ok := rfl
theorem r_un {o : F1} {fa : FE} {ρ : Rho} : fUn o fa ρ = (fa ρ).bind fun a => opt (o a) .ok := rfl
theorem r_chain {o o' : F2} {fa fb fc : FE} {ρ : Rho} : fChain o o' fa fb fc ρ = (fa ρ).bind fun a => (fb ρ).bind fun b => opt (o a b) fun z => kChD o' b fc ρ z := rfl
theorem r_kch {o' : F2} {b : D} {fc : FE} {ρ : Rho} {q : Bool} : kChD o' b fc ρ (.bl q) = if q = true then (fc ρ).bind fun w => opt (o' b w) .ok else .ok (.bl false) := by cases q <;> rfl
theorem r_tru {fa : FE} {ρ : Rho} : fTru fa ρ = (fa ρ).bind fun a => opt (truD a) .ok := rfl
theorem r_bl {fa : FE} {ρ : Rho} : fBl fa ρ = (fa ρ).bind blD := rfl
theorem r_blD {b : Bool} : blD (.bl b) = .ok b := rfl
theorem r_and {t u : FT} {ρ : Rho} : fAnd t u ρ = (t ρ).bind fun b => if b = true then u ρ else .ok false := rfl
theorem r_or {t u : FT} {ρ : Rho} : fOr t u ρ = (t ρ).bind fun b => if b = true then .ok true else u ρ := rfl
theorem r_not {t : FT} {ρ : Rho} : fNot t ρ = (t ρ).bind fun b => .ok (!b) := rfl
theorem r_andV {fa fb : FE} {ρ : Rho} : fAndV fa fb ρ = (fa ρ).bind fun a => opt (truD a) fun b => if b = true then fb ρ else .ok a := rfl
theorem r_orV {fa fb : FE} {ρ : Rho} : fOrV fa fb ρ = (fa ρ).bind fun a => opt (truD a) fun b => if b = true then .ok a else fb ρ := rfl
theorem r_notV {fa : FE} {ρ : Rho} : fNotV fa ρ = (fa ρ).bind fun a => opt (truD a) fun b => .ok (.bl (!b)) := rfl
theorem r_if {t : FT} {fa fb : FE} {ρ : Rho} : fIf t fa fb ρ = (t ρ).bind fun b => if b = true then fa ρ else fb ρ := rfl
theorem r_nil {ρ : Rho} : fNil ρ = .ok [] := rfl
theorem r_cons {fa : FE} {fr : FAs} {ρ : Rho} : fCons fa fr ρ = (fa ρ).bind fun a => (fr ρ).bind fun r => .ok (a :: r) := rfl
theorem r_starA {fa : FE} {fr : FAs} {ρ : Rho} : fStarA fa fr ρ = (fa ρ).bind fun a => opt (seqD a) fun us => (fr ρ).bind fun r => .ok (us ++ r) := rfl
theorem r_tup {fr : FAs} {ρ : Rho} : fTup fr ρ = (fr ρ).bind fun ds => must (ds.length ≤ 1000) (.ok (.tup ds)) := rfl
theorem r_lst {fr : FAs} {ρ : Rho} : fLst fr ρ = (fr ρ).bind fun ds => must (ds.length ≤ 1000) (.ok (.lst ds)) := rfl
theorem r_pl {f : FE} {ρ : Rho} : fPl f ρ = (f ρ).bind fun d => must (cellLike d = false) (.ok d) := rfl
theorem r_cb {fo : FN} {fr : FAs} {ρ : Rho} : fCB fo fr ρ = (fr ρ).bind fun ds => opt (fo ds) .ok := rfl
theorem r_pno {ρ : Rho} : fpNo ρ = .ok none := rfl
theorem r_pat {fa : FE} {ρ : Rho} : fpAt fa ρ = (fa ρ).bind intO := rfl
theorem r_into {i : Int} : intO (.int i) = .ok (some i) := rfl
theorem r_sl {fa : FE} {lo hi : FP} {ρ : Rho} : fSl fa lo hi ρ = (fa ρ).bind fun a => (lo ρ).bind fun l => (hi ρ).bind fun h => opt (foSl a l h) .ok := rfl
theorem r_call {F : DF} {fr : FAs} {ρ : Rho} : fCall F fr ρ = (fr ρ).bind F := rfl
theorem r_callK {F : DF} {fr fk : FAs} {ρ : Rho} : fCallK F fr fk ρ = (fr ρ).bind fun ds => (fk ρ).bind fun es => F (ds ++ es) := rfl
theorem r_attr {name : String} {tb : List (String × FAt)} {fo : FE} {ρ : Rho} : fAttr name tb fo ρ = (fo ρ).bind (atF name tb) := rfl
theorem r_at {name C : String} {tb : List (String × FAt)} {fs : List (String × D)} : atF name tb (.ins C fs) = atK name (tb.lookup C) C fs := by unfold atF atK; first | (dsimp only; done) | (dsimp only; cases tb.lookup C with | none => rfl | some t => cases t <;> rfl)
theorem r_atF {name C : String} {fs : List (String × D)} : atK name (some .fld) C fs = opt (fs.lookup name) .ok := rfl
theorem r_atC {name C : String} {fs : List (String × D)} {d : D} : atK name (some (.con d)) C fs = must ((fs.lookup name).isNone = true) (.ok d) := rfl
theorem r_atP {name C : String} {fs : List (String × D)} {F : DF} : atK name (some (.prp F)) C fs = (F [.ins C fs]).calm := rfl
theorem r_meth {name : String} {tb : List (String × DF)} {fo : FE} {fr : FAs} {ρ : Rho} : fMeth name tb fo fr ρ = (fo ρ).bind fun o => methF name tb o fun F => (fr ρ).bind fun ds => F (o :: ds) := rfl
theorem r_methK {name : String} {tb : List (String × DF)} {fo : FE} {fr fk : FAs} {ρ : Rho} : fMethK name tb fo fr fk ρ = (fo ρ).bind fun o => methF name tb o fun F => (fr ρ).bind fun ds => (fk ρ).bind fun es => F (o :: (ds ++ es)) := rfl
theorem r_methS {name : String} {tb : List (String × DF)} {fo fa : FE} {ρ : Rho} : fMethS name tb fo fa ρ = (fo ρ).bind fun o => methF name tb o fun F => (fa ρ).bind fun d => opt (seqD d) fun ds => F (o :: ds) := rfl
theorem r_mF {name C : String} {tb : List (String × DF)} {fs : List (String × D)} {k : DF → Dr D} : methF name tb (.ins C fs) k = must ((fs.lookup name).isNone = true) (opt (tb.lookup C) k) := rfl
theorem r_star {n : Nat} {F : DF} {ds : List D} : fStar n F ds = must (n ≤ ds.length ∧ ds.length ≤ 1000000) (F (ds.take n ++ [.tup (ds.drop n)])) := rfl
theorem r_mk {C : String} {F : MF} {ds : List D} : fMk C F ds = (F (.ins C [] :: ds)).bind fun r => mkK r.1 r.2 := rfl
theorem r_mkK {d : D} : mkK .non d = .ok d := rfl
theorem r_frz {f : FE} {ρ : Rho} : fFrz f ρ = (f ρ).bind fun d => must (flatD d = true) (.ok d) := rfl
theorem r_frzA {f : FE} {ρ : Rho} : fFrzA f ρ = (f ρ).bind fun d => must (frzOk d = true) (.ok d) := rfl
theorem r_ls {f : FE} {ρ : Rho} : fLs f ρ = (f ρ).bind fun d => must (isLst d = true) (.ok d) := rfl
theorem r_isT {cs : List String} {sub : String → String → Bool} {fa : FE} {fr : FAs} {ρ : Rho} : fIsT cs sub fa fr ρ = (fa ρ).bind fun a => (fr ρ).bind fun ds => must (ds.length ≤ 1000) (opt a.tg fun t => opt (isAny cs sub t ds) fun b => must (ds.all (fun d => d.ctg.isSome) = true) (isK cs t b)) := rfl
theorem r_isKo {cs : List String} {C : String} {b : Bool} : isK cs (.own C) b = must (C ∈ cs) (.ok (.bl b)) := rfl
theorem r_isK_non {cs : List String} {b : Bool} : isK cs .non b = .ok (.bl b) := rfl
theorem r_isK_bl {cs : List String} {b : Bool} : isK cs .bl b = .ok (.bl b) := rfl
theorem r_isK_int {cs : List String} {b : Bool} : isK cs .int b = .ok (.bl b) := rfl
theorem r_isK_str {cs : List String} {b : Bool} : isK cs .str b = .ok (.bl b) := rfl
theorem r_isK_lst {cs : List String} {b : Bool} : isK cs .lst b = .ok (.bl b) := rfl
theorem r_isK_tup {cs : List String} {b : Bool} : isK cs .tup b = .ok (.bl b) := rfl
theorem r_isK_dct {cs : List String} {b : Bool} : isK cs .dct b = .ok (.bl b) := rfl
theorem r_seq {fa : FE} {ρ : Rho} : fiSeq fa ρ = (fa ρ).bind fun d => opt (seqD d) .ok := rfl
theorem r_rng1 {fr : FAs} {ρ : Rho} : fiRng1 fr ρ = (fr ρ).bind rng1K := rfl
theorem r_rng1K {j : Int} : rng1K [.int j] = must (rngOk j = true) (.ok (rngD 0 j.toNat)) := rfl
theorem r_rng2 {fr : FAs} {ρ : Rho} : fiRng2 fr ρ = (fr ρ).bind rng2K := rfl
theorem r_rng2K {i j : Int} : rng2K [.int i, .int j] = must (rngOk i = true ∧ rngOk j = true) (.ok (rngD i (j - i).toNat)) := rfl
theorem r_zip {fr : FAs} {ρ : Rho} : fiZip fr ρ = (fr ρ).bind zipK := rfl
theorem r_zipKL {a b : List D} : zipK [.lst a, .lst b] = .ok (zipD a b) := rfl
theorem r_zipKT {a b : List D} : zipK [.tup a, .tup b] = .ok (zipD a b) := rfl
theorem r_enum {fr : FAs} {ρ : Rho} : fiEnum fr ρ = (fr ρ).bind enumK := rfl
theorem r_enumK {a : List D} : enumK [.lst a] = .ok (enumD a) := rfl
theorem r_str {fa : FE} {ρ : Rho} : fiStr fa ρ = (fa ρ).bind strK := rfl
theorem r_strK {s : Str} : strK (.str s) = .ok (strD s) := rfl
theorem r_lc {vs : List Nat} {it : FI} {g : FG} {t : FT} {m : FE} {ρ : Rho} : fLc vs it g t m ρ = (it ρ).bind fun xs => must (xs.length < 10000000) ((lcF g t m (wipeR ρ vs) xs).bind fun ys => .ok (.lst ys)) := rfl
theorem r_yes {ρ : Rho} : ftYes ρ = .ok true := rfl
theorem r_wipe0 {ρ : Rho} : wipeR ρ [] = ρ := rfl
theorem r_wipeS {ρ : Rho} {v : Nat} {vs : List Nat} : wipeR ρ (v :: vs) = (wipeR ρ vs).set v none := rfl
theorem r_tn {i : Nat} {d : D} {ρ : Rho} : ftN i d ρ = .ok (ρ.set i (some d)) := rfl
theorem r_tt {n : Nat} {gs : List D → Rho → Dr Rho} {ds : List D} {ρ : Rho} : ftT n gs (.tup ds) ρ = must (ds.length = n) (gs ds ρ) := rfl
theorem r_tnil {ρ : Rho} : ftNil [] ρ = .ok ρ := rfl
theorem r_tcons {i : Nat} {gs : List D → Rho → Dr Rho} {d : D} {ds : List D} {ρ : Rho} : ftCons i gs (d :: ds) ρ = gs ds (ρ.set i (some d)) := rfl
theorem r_snil {ρ : Rho} : fSNil ρ = .ok (.nx ρ) := rfl
theorem r_scons {f g : FS} {ρ : Rho} : fSCons f g ρ = (f ρ).bind fun r => seqK g r := by unfold fSCons seqK; rfl
theorem r_seqN {g : FS} {ρ : Rho} : seqK g (.nx ρ) = g ρ := rfl
theorem r_seqR {g : FS} {d : D} {ρ : Rho} : seqK g (.rt d ρ) = .ok (.rt d ρ) := rfl
theorem r_seqB {g : FS} {ρ : Rho} : seqK g (.bk ρ) = .ok (.bk ρ) := rfl
theorem r_seqC {g : FS} {ρ : Rho} : seqK g (.ct ρ) = .ok (.ct ρ) := rfl
theorem r_sno {ρ : Rho} : fSNo ρ = .no := rfl
theorem r_brk {ρ : Rho} : fBrk ρ = .ok (.bk ρ) := rfl
theorem r_cnt {ρ : Rho} : fCnt ρ = .ok (.ct ρ) := rfl
theorem r_set {i : Nat} {f : FE} {ρ : Rho} : fSet i f ρ = (f ρ).bind fun d => .ok (.nx (ρ.set i (some d))) := rfl
theorem r_par {i j : Nat} {fa fb : FE} {ρ : Rho} : fPar i j fa fb ρ = (fa ρ).bind fun a => (fb ρ).bind fun b => .ok (.nx ((ρ.set i (some a)).set j (some b))) := rfl
theorem r_asg {f : FE} {g : FG} {ρ : Rho} : fAsg f g ρ = (f ρ).bind fun d => (g d ρ).bind fun ρ' => .ok (.nx ρ') := rfl
theorem r_drp {f : FE} {ρ : Rho} : fDrp f ρ = (f ρ).bind fun _ => .ok (.nx ρ) := rfl
theorem r_ret {f : FE} {ρ : Rho} : fRet f ρ = (f ρ).bind fun d => .ok (.rt d ρ) := rfl
theorem r_retN {ρ : Rho} : fRetN ρ = .ok (.rt .non ρ) := rfl
theorem r_retV {i : Nat} {ρ : Rho} : fRetV i ρ = opt (getR ρ i) fun d => .ok (.rt d (ρ.set i none)) := rfl
theorem r_retZ {i : Nat} {ρ : Rho} : fRetZ i ρ = opt (getR ρ i) fun d => must (frzOk d = true) (.ok (.rt d (ρ.set i none))) := rfl
theorem r_ifS {t : FT} {f g : FS} {ρ : Rho} : fIfS t f g ρ = (t ρ).bind fun b => if b = true then f ρ else g ρ := rfl
theorem r_for {it : FI} {g : FG} {body : FS} {dead : List Nat} {ρ : Rho} : fFor it g body dead ρ = (it ρ).bind fun xs => fForL g body dead xs ρ := rfl
theorem r_app {i : Nat} {f : FE} {ρ : Rho} : fAppend i f ρ = opt (getR ρ i) fun l => appK i f ρ l := by unfold fAppend appK; rfl
theorem r_appK {i : Nat} {f : FE} {ρ : Rho} {ds : List D} : appK i f ρ (.lst ds) = (f ρ).bind fun d => must (ds.length < 10000000) (.ok (.nx (ρ.set i (some (.lst (ds ++ [d])))))) := rfl
theorem r_setI {i : Nat} {fi f : FE} {ρ : Rho} : fSetI i fi f ρ = (f ρ).bind fun d => opt (getR ρ i) fun l => setK i fi ρ d l := by unfold fSetI setK; rfl
theorem r_setK {i : Nat} {fi : FE} {ρ : Rho} {d : D} {ds : List D} : setK i fi ρ d (.lst ds) = (fi ρ).bind fun y => setJ i ρ d ds y := by unfold setK setJ; rfl
theorem r_setJ {i : Nat} {ρ : Rho} {d : D} {ds : List D} {n : Int} : setJ i ρ d ds (.int n) = opt (ixN ds.length n) fun j => .ok (.nx (ρ.set i (some (.lst (ds.set j d))))) := rfl
theorem r_fld {f : String} {cs : List String} {i : Nat} {fv : FE} {ρ : Rho} : fFld f cs i fv ρ = (fv ρ).bind fun v => opt (getR ρ i) fun g => fldK f cs i ρ v g := by unfold fFld fldK; rfl
theorem r_fldK {f C : String} {cs : List String} {i : Nat} {v : D} {gs : List (String × D)} {ρ : Rho} : fldK f cs i ρ v (.ins C gs) = must (cs.contains C = true ∧ gs.length < 1000 ∧ (cellF f = false ∨ cellLike v = false)) (.ok (.nx (ρ.set i (some (.ins C (putD f v gs)))))) := rfl
theorem r_fldO {f : String} {cs : List String} {i : Nat} {fv : FE} {ρ : Rho} : fFldO f cs i fv ρ = (fv ρ).bind fun v => opt (getR ρ i) fun g => fldOK f cs i ρ v g := by unfold fFldO fldOK; rfl
theorem r_fldOK {f C : String} {cs : List String} {i : Nat} {v : D} {gs : List (String × D)} {ρ : Rho} : fldOK f cs i ρ v (.ins C gs) = must (cs.contains C = true ∧ gs.length < 1000 ∧ cellF f = true) (.ok (.nx (ρ.set i (some (.ins C (putD f v gs)))))) := rfl
theorem r_fldR {C f : String} {i : Nat} {ρ : Rho} : fFldR C f i ρ = opt (getR ρ i) fun o => fldRK C f o := by unfold fFldR fldRK; rfl
theorem r_fldRK {C C' f : String} {gs : List (String × D)} : fldRK C f (.ins C' gs) = must (C' = C) (opt (gs.lookup f) .ok) := rfl
theorem r_mut {name : String} {tb : List (String × MF)} {i : Nat} {fr : FAs} {ρ : Rho} : fMut name tb i fr ρ = opt (getR ρ i) fun o => methM name tb o fun F => (fr ρ).bind fun ds => (F (o :: ds)).bind fun r => .ok (.nx (ρ.set i (some r.2))) := rfl
theorem r_mutS {name : String} {n : Nat} {tb : List (String × MF)} {i : Nat} {fa : FE} {ρ : Rho} : fMutS name n tb i fa ρ = opt (getR ρ i) fun o => methM name tb o fun F => (fa ρ).bind fun d => opt (seqD d) fun ds => must (n ≤ ds.length + 1 ∧ ds.length + 1 ≤ 1000000 ∧ n = 1) ((F [o, .tup ds]).bind fun r => .ok (.nx (ρ.set i (some r.2)))) := rfl
theorem r_mM {name C : String} {tb : List (String × MF)} {fs : List (String × D)} {k : MF → Dr Fl} : methM name tb (.ins C fs) k = must ((fs.lookup name).isNone = true) (opt (tb.lookup C) k) := rfl
theorem r_fapp {C f : String} {i : Nat} {fv : FE} {ρ : Rho} : fFApp C f i fv ρ = opt (getR ρ i) fun o => fappK C f i fv ρ o := by unfold fFApp fappK; rfl
theorem r_fappK {C C' f : String} {i : Nat} {fv : FE} {gs : List (String × D)} {ρ : Rho} : fappK C f i fv ρ (.ins C' gs) = must (C' = C ∧ cellF f = true) (opt (gs.lookup f) fun l => fappJ f i fv ρ C' gs l) := by unfold fappK fappJ; rfl
theorem r_fappJ {C' f : String} {i : Nat} {fv : FE} {gs : List (String × D)} {ds : List D} {ρ : Rho} : fappJ f i fv ρ C' gs (.lst ds) = (fv ρ).bind fun v => must (ds.length < 10000000) (.ok (.nx (ρ.set i (some (.ins C' (putD f (.lst (ds ++ [v])) gs)))))) := rfl
theorem r_fpop {C f : String} {i : Nat} {g : FG} {ρ : Rho} : fFPop C f i g ρ = opt (getR ρ i) fun o => fpopK C f i g ρ o := by unfold fFPop fpopK; rfl
theorem r_fpopK {C C' f : String} {i : Nat} {g : FG} {gs : List (String × D)} {ρ : Rho} : fpopK C f i g ρ (.ins C' gs) = must (C' = C ∧ cellF f = true) (opt (gs.lookup f) fun l => fpopJ f i g ρ C' gs l) := by unfold fpopK fpopJ; rfl
theorem r_fpopJ {C' f : String} {i : Nat} {g : FG} {gs : List (String × D)} {ds : List D} {ρ : Rho} : fpopJ f i g ρ C' gs (.lst ds) = opt ds[ds.length - 1]? fun v => (g v (ρ.set i (some (.ins C' (putD f (.lst ds.dropLast) gs))))).bind fun ρ' => .ok (.nx ρ') := rfl
theorem r_fld2 {f g : String} {cs cs2 : List String} {i j : Nat} {fa fb : FE} {ρ : Rho} : fFld2 f g cs cs2 i j fa fb ρ = (fa ρ).bind fun a => (fb ρ).bind fun b => must (cellF f = false ∧ cellF g = false) (putDs i cs f a ρ fun ρ1 => putDs j cs2 g b ρ1 fun ρ2 => .ok (.nx ρ2)) := rfl
theorem r_fld2OT {f g : String} {cs cs2 : List String} {i j : Nat} {fa fb : FE} {ρ : Rho} : fFld2OT f g cs cs2 i j fa fb ρ = (fa ρ).bind fun a => (fb ρ).bind fun b => must (cellF f = true ∧ cellF g = false) (putDs i cs f a ρ fun ρ1 => putDs j cs2 g b ρ1 fun ρ2 => .ok (.nx ρ2)) := rfl
theorem r_fld2TM {f g C0 g0 : String} {cs cs2 : List String} {i j j0 : Nat} {fa : FE} {ρ : Rho} : fFld2TM f g cs cs2 i j fa C0 g0 j0 ρ = (fa ρ).bind fun a => (fFldR C0 g0 j0 ρ).bind fun b => must (cellF f = false ∧ cellF g0 = true ∧ cellF g = true) (putDs i cs f a (ρ.set j0 none) fun ρ1 => putDs j cs2 g b ρ1 fun ρ2 => .ok (.nx ρ2)) := rfl
theorem r_putDs {i : Nat} {cs : List String} {f : String} {v : D} {ρ : Rho} {k : Rho → Dr Fl} : putDs i cs f v ρ k = opt (getR ρ i) fun g => putDK i cs f v ρ k g := by unfold putDs putDK; rfl
theorem r_putDK {i : Nat} {cs : List String} {f C : String} {v : D} {ρ : Rho} {k : Rho → Dr Fl} {gs : List (String × D)} : putDK i cs f v ρ k (.ins C gs) = must (cs.contains C = true ∧ gs.length < 1000) (k (ρ.set i (some (.ins C (putD f v gs))))) := rfl
theorem r_retL {g : FAr} {ρ : Rho} : fRetL g ρ = (g ρ).bind fun r => must (r.1.length ≤ 1000) (.ok (.rt (.lst r.1) r.2)) := rfl
theorem r_retT {g : FAr} {ρ : Rho} : fRetT g ρ = (g ρ).bind fun r => must (r.1.length ≤ 1000) (.ok (.rt (.tup r.1) r.2)) := rfl
theorem r_rnil {ρ : Rho} : frNil ρ = .ok ([], ρ) := rfl
theorem r_rcons {f : FE} {g : FAr} {ρ : Rho} : frCons f g ρ = (f ρ).bind fun d => (g ρ).bind fun r => .ok (d :: r.1, r.2) := rfl
theorem r_rfrz {i : Nat} {g : FAr} {ρ : Rho} : frFrz i g ρ = opt (getR ρ i) fun d => must (frzOk d = true) ((g (ρ.set i none)).bind fun r => .ok (d :: r.1, r.2)) := rfl
theorem r_body {n N : Nat} {f : FS} {ds : List D} : bodyF n N f ds = must (ds.length = n) ((f (startR N ds)).bind bodyK) := by unfold bodyF bodyK; rfl
theorem r_bodyN {ρ : Rho} : bodyK (.nx ρ) = .ok .non := rfl
theorem r_bodyR {d : D} {ρ : Rho} : bodyK (.rt d ρ) = .ok d := rfl
theorem r_bodyM {n N : Nat} {f : FS} {ds : List D} : bodyM n N f ds = must (ds.length = n) ((f (startR N ds)).bind bodyMK) := by unfold bodyM bodyMK; rfl
theorem r_bodyMN {ρ : Rho} : bodyMK (.nx ρ) = opt (getR ρ 0) fun g => .ok (.non, g) := rfl
theorem r_bodyMR {d : D} {ρ : Rho} : bodyMK (.rt d ρ) = opt (getR ρ 0) fun g => .ok (d, g) := rfl
end
end DX

set_option Elab.async false
set_option linter.all false
set_option maxRecDepth 100000
namespace DX
open PySem L2
noncomputable section
def lcOne (g : FG) (t : FT) (m : FE) (ρ : Rho) (x : D) : Dr (Option D) := (g x ρ).bind fun ρ1 => (t ρ1).bind fun b => if b = true then (m ρ1).bind fun y => .ok (some y) else .ok none
theorem calm_ok {α : Type} (a : α) : (Dr.ok a).calm = .ok a := rfl
theorem lcF_all {α : Type} {g : FG} {t : FT} {m : FE} {ρ : Rho} (enc : α → D) (y : α → D) : ∀ l : List α, (∀ x ∈ l, lcOne g t m ρ (enc x) = .ok (some (y x))) → lcF g t m ρ (l.map enc) = .ok (l.map y)
  | [], h => rfl
  | x :: l, h => by
    have h1 := h x (by simp)
    unfold lcOne at h1
    have ih := lcF_all enc y l fun z hz => h z (List.mem_cons_of_mem _ hz)
    rw [List.map_cons, lcF]
    cases e : g (enc x) ρ with
    | ok ρ1 =>
      rw [e] at h1
      dsimp only [Dr.bind_ok] at h1
      cases e2 : t ρ1 with
      | ok b =>
        rw [e2] at h1
        dsimp only [Dr.bind_ok] at h1
        cases b with
        | false => simp at h1
        | true =>
          rw [if_pos rfl] at h1
          cases e3 : m ρ1 with
          | ok z =>
            rw [e3] at h1
            have : z = y x := by simpa [Dr.bind_ok] using h1
            subst this
            rw [calm_ok, Dr.bind_ok, e2, calm_ok, Dr.bind_ok, if_pos rfl, e3, calm_ok, Dr.bind_ok, ih]
            rfl
          | ex z => rw [e3] at h1; simp [Dr.bind_ex] at h1
          | no => rw [e3] at h1; simp [Dr.bind_no] at h1
          | dr n k => rw [e3] at h1; simp [Dr.bind_dr] at h1
      | ex z => rw [e2] at h1; simp [Dr.bind_ex] at h1
      | no => rw [e2] at h1; simp [Dr.bind_no] at h1
      | dr n k => rw [e2] at h1; simp [Dr.bind_dr] at h1
    | ex z => rw [e] at h1; simp [Dr.bind_ex] at h1
    | no => rw [e] at h1; simp [Dr.bind_no] at h1
    | dr n k => rw [e] at h1; simp [Dr.bind_dr] at h1
theorem wp_to_calm {α : Type} {r : Dr α} {P : α → Prop} {X : ExD → Prop} (h : r.wp P (fun _ => False)) : r.calm.wp P X := by
  induction r with
  | ok a => exact h
  | ex e => exact h
  | no => exact h
  | dr n k ih => exact ⟨h.1, fun d h1 h2 => ih d (h.2 d h1 h2)⟩
theorem lcF_wp {α : Type} {g : FG} {t : FT} {m : FE} {ρ : Rho} (enc : α → D) (R : α → D → Prop) {X : ExD → Prop} : ∀ (l : List α) (P : List D → Prop), (∀ x ∈ l, (lcOne g t m ρ (enc x)).wp (fun o => ∃ y, o = some y ∧ R x y) (fun _ => False)) →
    (∀ ys : List D, ys.length = l.length → (∀ (i : Nat) (x : α) (y : D), l[i]? = some x → ys[i]? = some y → R x y) → P ys) → (lcF g t m ρ (l.map enc)).wp P X
  | [], P, h, q => q [] rfl fun i x y e => by simp at e
  | x :: l, P, h, q => by
    have h1 := h x (by simp)
    unfold lcOne at h1
    rw [Dr.wp_bind] at h1
    rw [List.map_cons, lcF, Dr.wp_bind]
    refine wp_to_calm (h1.imp (fun ρ1 h1 => ?_) fun _ z => z)
    rw [Dr.wp_bind] at h1 ⊢
    refine wp_to_calm (h1.imp (fun b h1 => ?_) fun _ z => z)
    cases b with
    | false => obtain ⟨y, e, _⟩ := h1; cases e
    | true =>
      rw [if_pos rfl] at h1 ⊢
      rw [Dr.wp_bind] at h1 ⊢
      refine wp_to_calm (h1.imp (fun z h1 => ?_) fun _ z => z)
      obtain ⟨y, e, r⟩ := h1
      cases e
      rw [Dr.wp_bind]
      refine lcF_wp enc R l _ (fun u hu => h u (List.mem_cons_of_mem _ hu)) fun ys e1 e2 => q (z :: ys) (by simp [e1]) fun i a b ha hb => ?_
      cases i with
      | zero => simp at ha hb; subst ha hb; exact r
      | succ i => exact e2 i a b (by simpa using ha) (by simpa using hb)
theorem decode {α : Type} (enc : α → D) (R : α → Prop) : ∀ ys : List D, (∀ y ∈ ys, ∃ a, R a ∧ y = enc a) → ∃ as : List α, ys = as.map enc ∧ ∀ a ∈ as, R a
  | [], _ => ⟨[], rfl, fun a h => by cases h⟩
  | y :: ys, h => by
    obtain ⟨a, r, rfl⟩ := h y (by simp)
    obtain ⟨as, e, q⟩ := decode enc R ys fun y hy => h y (List.mem_cons_of_mem _ hy)
    exact ⟨a :: as, by rw [e]; rfl, fun b hb => (List.mem_cons.mp hb).elim (fun z => z ▸ r) (q b)⟩
theorem lcF_dec {α β : Type} {g : FG} {t : FT} {m : FE} {ρ : Rho} (enc : α → D) (enc' : β → D) (R : β → Prop) {X : ExD → Prop} (l : List α) (P : List D → Prop) (h : ∀ x ∈ l, (lcOne g t m ρ (enc x)).wp (fun o => ∃ b, o = some (enc' b) ∧ R b) (fun _ => False)) (q : ∀ bs : List β, bs.length = l.length → (∀ b ∈ bs, R b) → P (bs.map enc')) : (lcF g t m ρ (l.map enc)).wp P X := by
  refine lcF_wp enc (fun _ y => ∃ b, R b ∧ y = enc' b) l P (fun x hx => (h x hx).imp (fun o ⟨b, e, r⟩ => ⟨_, e, b, r, rfl⟩) fun _ z => z) fun ys hl hy => ?_
  obtain ⟨bs, e, r⟩ := decode enc' R ys fun y hm => by
    obtain ⟨i, hi, e⟩ := List.getElem_of_mem hm
    exact hy i _ y (List.getElem?_eq_getElem (show i < l.length by omega)) (by rw [← e]; exact List.getElem?_eq_getElem hi)
  subst e
  exact q bs (by simpa using hl) r
theorem atN {α : Type} (l : List α) (n : Nat) : L2.atI l (n : Int) = l[n]? := by
  unfold L2.atI ixN
  rw [if_pos (by omega)]
  by_cases h : n < l.length
  · rw [if_pos (by omega)]
    show l[((n : Int)).toNat]? = _
    rw [Int.toNat_natCast]
  · rw [if_neg (by omega)]
    show none = _
    rw [List.getElem?_eq_none (by omega)]
theorem rngD_nat (n : Nat) : rngD 0 n = (List.range n).map fun (i : Nat) => D.int (i : Int) := by
  unfold rngD
  congr 1
  funext i
  rw [Int.zero_add]
theorem allBD_map (l : List Bool) : allBD (l.map D.bl) = some l := by
  induction l with
  | nil => rfl
  | cons b l ih => rw [List.map_cons, allBD, ih]; rfl
theorem allID_map (l : List Int) : allID (l.map D.int) = some l := by
  induction l with
  | nil => rfl
  | cons b l ih => rw [List.map_cons, allID, ih]; rfl
end
end DX

set_option Elab.async false
set_option linter.all false
set_option maxRecDepth 100000
namespace DX
open PySem L2
noncomputable section
def inL (a : D) (ds : List D) : Option Bool := match a.sc, mapSc ds with
  | some u, some us => some (inV u us)
  | _, _ => ite_ (okD a = true ∧ okD (.lst ds) = true) (some (ds.any fun z => eqD z a))
def inT (a : D) (ds : List D) : Option Bool := match a.sc, mapSc ds with
  | some u, some us => some (inV u us)
  | _, _ => none
theorem o_addI {a b : Int} : foAdd (.int a) (.int b) = some (.int (a + b)) := rfl
theorem o_addS {a b : Str} : foAdd (.str a) (.str b) = ite_ (a.length + b.length ≤ 1000000) (some (.str (a ++ b))) := rfl
theorem o_addL {a b : List D} : foAdd (.lst a) (.lst b) = ite_ (a.length + b.length ≤ 100000) (some (.lst (a ++ b))) := rfl
theorem o_addT {a b : List D} : foAdd (.tup a) (.tup b) = ite_ (a.length + b.length ≤ 100000) (some (.tup (a ++ b))) := rfl
theorem o_sub {a b : Int} : foSub (.int a) (.int b) = some (.int (a - b)) := rfl
theorem o_mod {a b : Int} : foMod (.int a) (.int b) = ite_ (0 < b) (some (.int (a % b))) := rfl
theorem o_div {a b : Int} : foDiv (.int a) (.int b) = ite_ (0 < b ∧ b < 2 ^ 64) (some (.int (a / b))) := rfl
theorem o_pow {a b : Int} : foPow (.int a) (.int b) = ite_ (0 ≤ b ∧ b ≤ 100 ∧ a.natAbs < 2 ^ 64) (some (.int (a ^ b.toNat))) := rfl
theorem o_lt {a b : Int} : foLt (.int a) (.int b) = some (.bl (decide (a < b))) := rfl
theorem o_le {a b : Int} : foLe (.int a) (.int b) = some (.bl (decide (a ≤ b))) := rfl
theorem o_gt {a b : Int} : foGt (.int a) (.int b) = some (.bl (decide (b < a))) := rfl
theorem o_ge {a b : Int} : foGe (.int a) (.int b) = some (.bl (decide (b ≤ a))) := rfl
theorem o_mulI {a b : Int} : foMul (.int a) (.int b) = ite_ (CMul a b) (some (.int (a * b))) := rfl
theorem o_mulL {l : List D} {n : Int} : foMul (.lst l) (.int n) = ite_ (-10000 ≤ n ∧ n ≤ 10000 ∧ l.length ≤ 1000) (some (.lst (List.replicate n.toNat l).flatten)) := rfl
theorem o_mulT {l : List D} {n : Int} : foMul (.tup l) (.int n) = ite_ (l ≠ [] ∧ 0 ≤ n ∧ n ≤ 1000 ∧ l.length ≤ 1000) (some (.tup (List.replicate n.toNat l).flatten)) := rfl
theorem o_neg {a : Int} : foNeg (.int a) = some (.int (-a)) := rfl
theorem o_eq {x y : D} : foEq x y = (DX.eqV x y).map .bl := rfl
theorem o_ne {x y : D} : foNe x y = (DX.eqV x y).map fun q => .bl (!q) := rfl
theorem o_eqI {a b : Int} : DX.eqV (.int a) (.int b) = some (decide (a = b)) := rfl
theorem o_eqS {a b : Str} : DX.eqV (.str a) (.str b) = some (decide (a = b)) := rfl
theorem o_eqB {a b : Bool} : DX.eqV (.bl a) (.bl b) = some (decide (a = b)) := rfl
theorem o_eqNS {b : Str} : DX.eqV .non (.str b) = some false := rfl
theorem o_eqSN {b : Str} : DX.eqV (.str b) .non = some false := rfl
theorem o_eqIS {a : Int} {b : Str} : DX.eqV (.int a) (.str b) = some false := rfl
theorem o_eqSI {a : Int} {b : Str} : DX.eqV (.str b) (.int a) = some false := rfl
theorem o_eqLL {x y : List D} : DX.eqV (.lst x) (.lst y) = ite_ (okD (.lst x) = true ∧ okD (.lst y) = true) (some (eqD (.lst x) (.lst y))) := rfl
theorem o_eqTT {x y : List D} : DX.eqV (.tup x) (.tup y) = ite_ (okD (.tup x) = true ∧ okD (.tup y) = true) (some (eqD (.tup x) (.tup y))) := rfl
theorem o_eqLT {x y : List D} : DX.eqV (.lst x) (.tup y) = ite_ (okD (.lst x) = true ∧ okD (.tup y) = true) (some (eqD (.lst x) (.tup y))) := rfl
theorem o_eqTL {x y : List D} : DX.eqV (.tup x) (.lst y) = ite_ (okD (.tup x) = true ∧ okD (.lst y) = true) (some (eqD (.tup x) (.lst y))) := rfl
theorem o_eqTN {x : List D} : DX.eqV (.tup x) .non = ite_ (okD (.tup x) = true ∧ okD .non = true) (some (eqD (.tup x) .non)) := rfl
theorem o_eqNT {x : List D} : DX.eqV .non (.tup x) = ite_ (okD .non = true ∧ okD (.tup x) = true) (some (eqD .non (.tup x))) := rfl
theorem o_eqLN {x : List D} : DX.eqV (.lst x) .non = ite_ (okD (.lst x) = true ∧ okD .non = true) (some (eqD (.lst x) .non)) := rfl
theorem o_eqNL {x : List D} : DX.eqV .non (.lst x) = ite_ (okD .non = true ∧ okD (.lst x) = true) (some (eqD .non (.lst x))) := rfl
theorem o_eqNN  : DX.eqV .non .non = ite_ (okD .non = true ∧ okD .non = true) (some (eqD .non .non)) := rfl
theorem o_eqIN {a : Int} : DX.eqV (.int a) .non = ite_ (okD (.int a) = true ∧ okD .non = true) (some (eqD (.int a) .non)) := rfl
theorem o_eqNI {a : Int} : DX.eqV .non (.int a) = ite_ (okD .non = true ∧ okD (.int a) = true) (some (eqD .non (.int a))) := rfl
theorem o_isN {x : D} : foIsN x .non = some (.bl (DX.isNon x)) := by cases x <;> rfl
theorem o_notN {x : D} : foNotN x .non = some (.bl (!DX.isNon x)) := by cases x <;> rfl
theorem o_nn_int {a : Int} : DX.isNon (.int a) = false := rfl
theorem o_nn_bl {a : Bool} : DX.isNon (.bl a) = false := rfl
theorem o_nn_str {a : Str} : DX.isNon (.str a) = false := rfl
theorem o_nn_lst {a : List D} : DX.isNon (.lst a) = false := rfl
theorem o_nn_tup {a : List D} : DX.isNon (.tup a) = false := rfl
theorem o_nn_ins {C : String} {a : List (String × D)} : DX.isNon (.ins C a) = false := rfl
theorem o_nn_dct {a : List (Key × D)} : DX.isNon (.dct a) = false := rfl
theorem o_nn_cls {a : String} : DX.isNon (.cls a) = false := rfl
theorem o_nn  : DX.isNon .non = true := rfl
theorem o_in {x y : D} : foIn x y = (inD x y).map .bl := rfl
theorem o_nin {x y : D} : foNin x y = (inD x y).map fun q => .bl (!q) := rfl
theorem o_inSS {s t : Str} : inD (.str s) (.str t) = (oneSign s).map fun c => decide (c ∈ t.cps.toList) := by unfold inD; dsimp only; cases oneSign s <;> rfl
theorem o_inLs {s : Str} {ds : List D} : inD (.str s) (.lst ds) = inL (.str s) ds := rfl
theorem o_inTs {s : Str} {ds : List D} : inD (.str s) (.tup ds) = inT (.str s) ds := rfl
theorem o_inLi {s : Int} {ds : List D} : inD (.int s) (.lst ds) = inL (.int s) ds := rfl
theorem o_inTi {s : Int} {ds : List D} : inD (.int s) (.tup ds) = inT (.int s) ds := rfl
theorem o_inLb {s : Bool} {ds : List D} : inD (.bl s) (.lst ds) = inL (.bl s) ds := rfl
theorem o_inTb {s : Bool} {ds : List D} : inD (.bl s) (.tup ds) = inT (.bl s) ds := rfl
theorem o_inLn  {ds : List D} : inD .non (.lst ds) = inL .non ds := rfl
theorem o_inTn  {ds : List D} : inD .non (.tup ds) = inT .non ds := rfl
theorem o_inLt {s : List D} {ds : List D} : inD (.tup s) (.lst ds) = inL (.tup s) ds := rfl
theorem o_inTt {s : List D} {ds : List D} : inD (.tup s) (.tup ds) = inT (.tup s) ds := rfl
theorem o_ixL {l : List D} {i : Int} : foIx (.lst l) (.int i) = L2.atI l i := rfl
theorem o_ixT {l : List D} {i : Int} : foIx (.tup l) (.int i) = L2.atI l i := rfl
theorem o_ixS {z : Str} {i : Int} : foIx (.str z) (.int i) = ite_ (z.length ≤ 100000) ((L2.atI z.cps.toList i).map fun c => .str ⟨#[c]⟩) := rfl
theorem o_at0 {α : Type} {x : α} {l : List α} : L2.atI (x :: l) 0 = some x := x_atI0
theorem o_atn {α : Type} {l : List α} {n : Nat} : L2.atI l ((n : Nat) : Int) = l[n]? := atN l n
theorem o_slL {l : List D} {lo hi : Option Int} : foSl (.lst l) lo hi = some (.lst (cutW l lo hi)) := rfl
theorem o_slT {l : List D} {lo hi : Option Int} : foSl (.tup l) lo hi = some (.tup (cutW l lo hi)) := rfl
theorem o_slS {z : Str} {lo hi : Option Int} : foSl (.str z) lo hi = ite_ (z.length ≤ 100000) (some (.str (L2.cutS z lo hi))) := rfl
theorem o_inG {nm c : String} {rows : List (Str × Int)} {g : Bool → Bool} {z : Str} : foInG nm rows g (.str z) (.cls c) = ite_ (c = nm) (some (.bl (g (rows.lookup z).isSome))) := rfl
theorem o_ixG {nm c : String} {rows : List (Str × Int)} {z : Str} : foIxG nm rows (.cls c) (.str z) = ite_ (c = nm) ((rows.lookup z).map .int) := rfl
theorem b_lenL {l : List D} : fbLen [.lst l] = some (.int l.length) := rfl
theorem b_lenT {l : List D} : fbLen [.tup l] = some (.int l.length) := rfl
theorem b_lenS {z : Str} : fbLen [.str z] = ite_ (z.length ≤ 100000) (some (.int z.length)) := rfl
theorem b_intI {i : Int} : fbInt [.int i] = some (.int i) := rfl
theorem b_intB {b : Bool} : fbInt [.bl b] = some (.int (if b then 1 else 0)) := rfl
theorem b_all {l : List D} : fbAll [.lst l] = (allBD l).map fun bs => .bl (bs.all id) := rfl
theorem b_any {l : List D} : fbAny [.lst l] = (allBD l).map fun bs => .bl (bs.any id) := rfl
theorem b_sum {l : List D} : fbSum [.lst l] = (allID l).map fun bs => .int bs.sum := rfl
theorem b_max2 {a b : Int} : fbMax [.int a, .int b] = some (.int (max a b)) := rfl
theorem b_min2 {a b : Int} : fbMin [.int a, .int b] = some (.int (min a b)) := rfl
theorem b_maxL {l : List D} : fbMax [.lst l] = (allID l).bind fun ns => ite_ (ns ≠ []) (some (.int (mx ns))) := by unfold fbMax; dsimp only; cases allID l <;> rfl
theorem b_minL {l : List D} : fbMin [.lst l] = (allID l).bind fun ns => ite_ (ns ≠ []) (some (.int (mn ns))) := by unfold fbMin; dsimp only; cases allID l <;> rfl
theorem b_listL {l : List D} : fbList [.lst l] = some (.lst l) := rfl
theorem b_listT {l : List D} : fbList [.tup l] = some (.lst l) := rfl
theorem b_tupL {l : List D} : fbTup [.lst l] = some (.tup l) := rfl
theorem b_tupT {l : List D} : fbTup [.tup l] = some (.tup l) := rfl
theorem b_strI {i : Int} : fbStr [.int i] = ite_ (i.natAbs < 2 ^ 60) (some (.str (toString i))) := rfl
theorem b_strS {s : Str} : fbStr [.str s] = some (.str s) := rfl
theorem b_isi {cs : List String} {sub : String → String → Bool} {x y : D} : fbIsi cs sub [x, y] = x.tg.bind fun t => y.ctg.bind fun u => (isI cs sub t u).map .bl := by unfold fbIsi; dsimp only; cases x.tg with | none => rfl | some t => cases y.ctg <;> rfl
theorem t_non  : truD .non = some false := rfl
theorem t_bl {b : Bool} : truD (.bl b) = some b := rfl
theorem t_int {i : Int} : truD (.int i) = some (i != 0) := rfl
theorem t_lst {l : List D} : truD (.lst l) = some (!l.isEmpty) := rfl
theorem t_tup {l : List D} : truD (.tup l) = some (!l.isEmpty) := rfl
theorem t_str {s : Str} : truD (.str s) = if s.length ≤ 100000 then some ((s.length : Int) != 0) else none := rfl
theorem s_lst {l : List D} : seqD (.lst l) = some l := rfl
theorem s_tup {l : List D} : seqD (.tup l) = some l := rfl
theorem c_non  : cellLike .non = false := rfl
theorem c_int {a : Int} : cellLike (.int a) = false := rfl
theorem c_bl {a : Bool} : cellLike (.bl a) = false := rfl
theorem c_str {a : Str} : cellLike (.str a) = false := rfl
theorem c_tup {a : List D} : cellLike (.tup a) = false := rfl
theorem c_lst {a : List D} : cellLike (.lst a) = true := rfl
theorem c_ins {C : String} {a : List (String × D)} : cellLike (.ins C a) = true := rfl
theorem z_lst {l : List D} : frzOk (.lst l) = true := rfl
theorem z_ins {C : String} {gs : List (String × D)} : frzOk (.ins C gs) = gs.all fun p => !cellF p.1 := rfl
theorem z_fl {C : String} {gs : List (String × D)} : flatD (.ins C gs) = gs.all fun p => !cellF p.1 := rfl
theorem il_lst {l : List D} : isLst (.lst l) = true := rfl
theorem g_put0 {f : String} {d : D} : putD f d [] = [(f, d)] := rfl
theorem g_putS {f g : String} {d u : D} {r : List (String × D)} : putD f d ((g, u) :: r) = if g = f then (g, d) :: r else (g, u) :: putD f d r := rfl
theorem tg_non  : D.tg .non = some .non := rfl
theorem tg_int {a : Int} : D.tg (.int a) = some .int := rfl
theorem tg_bl {a : Bool} : D.tg (.bl a) = some .bl := rfl
theorem tg_str {a : Str} : D.tg (.str a) = some .str := rfl
theorem tg_lst {a : List D} : D.tg (.lst a) = some .lst := rfl
theorem tg_tup {a : List D} : D.tg (.tup a) = some .tup := rfl
theorem tg_ins {C : String} {a : List (String × D)} : D.tg (.ins C a) = some (.own C) := rfl
theorem tg_dct {a : List (Key × D)} : D.tg (.dct a) = some .dct := rfl
theorem ct_bool  : D.ctg (.ty "bool") = some .bl := rfl
theorem ct_int  : D.ctg (.ty "int") = some .int := rfl
theorem ct_str  : D.ctg (.ty "str") = some .str := rfl
theorem ct_list  : D.ctg (.ty "list") = some .lst := rfl
theorem ct_tuple  : D.ctg (.ty "tuple") = some .tup := rfl
theorem ct_dict  : D.ctg (.ty "dict") = some .dct := rfl
theorem ct_cls {C : String} : D.ctg (.cls C) = some (.own C) := rfl
theorem ii_non_non {cs : List String} {sub : String → String → Bool} : isI cs sub .non .non = some true := rfl
theorem ii_non_bl {cs : List String} {sub : String → String → Bool} : isI cs sub .non .bl = some false := rfl
theorem ii_non_int {cs : List String} {sub : String → String → Bool} : isI cs sub .non .int = some false := rfl
theorem ii_non_str {cs : List String} {sub : String → String → Bool} : isI cs sub .non .str = some false := rfl
theorem ii_non_lst {cs : List String} {sub : String → String → Bool} : isI cs sub .non .lst = some false := rfl
theorem ii_non_tup {cs : List String} {sub : String → String → Bool} : isI cs sub .non .tup = some false := rfl
theorem ii_non_dct {cs : List String} {sub : String → String → Bool} : isI cs sub .non .dct = some false := rfl
theorem ii_non_own {cs : List String} {sub : String → String → Bool} {C : String} : isI cs sub .non (.own C) = if C ∈ cs then some false else none := rfl
theorem ii_bl_bl {cs : List String} {sub : String → String → Bool} : isI cs sub .bl .bl = some true := rfl
theorem ii_bl_int {cs : List String} {sub : String → String → Bool} : isI cs sub .bl .int = some true := rfl
theorem ii_bl_str {cs : List String} {sub : String → String → Bool} : isI cs sub .bl .str = some false := rfl
theorem ii_bl_lst {cs : List String} {sub : String → String → Bool} : isI cs sub .bl .lst = some false := rfl
theorem ii_bl_tup {cs : List String} {sub : String → String → Bool} : isI cs sub .bl .tup = some false := rfl
theorem ii_bl_dct {cs : List String} {sub : String → String → Bool} : isI cs sub .bl .dct = some false := rfl
theorem ii_bl_own {cs : List String} {sub : String → String → Bool} {C : String} : isI cs sub .bl (.own C) = if C ∈ cs then some false else none := rfl
theorem ii_own_bl {cs : List String} {sub : String → String → Bool} {C : String} : isI cs sub (.own C) .bl = if C ∈ cs then some false else none := rfl
theorem ii_int_bl {cs : List String} {sub : String → String → Bool} : isI cs sub .int .bl = some false := rfl
theorem ii_int_int {cs : List String} {sub : String → String → Bool} : isI cs sub .int .int = some true := rfl
theorem ii_int_str {cs : List String} {sub : String → String → Bool} : isI cs sub .int .str = some false := rfl
theorem ii_int_lst {cs : List String} {sub : String → String → Bool} : isI cs sub .int .lst = some false := rfl
theorem ii_int_tup {cs : List String} {sub : String → String → Bool} : isI cs sub .int .tup = some false := rfl
theorem ii_int_dct {cs : List String} {sub : String → String → Bool} : isI cs sub .int .dct = some false := rfl
theorem ii_int_own {cs : List String} {sub : String → String → Bool} {C : String} : isI cs sub .int (.own C) = if C ∈ cs then some false else none := rfl
theorem ii_own_int {cs : List String} {sub : String → String → Bool} {C : String} : isI cs sub (.own C) .int = if C ∈ cs then some false else none := rfl
theorem ii_str_bl {cs : List String} {sub : String → String → Bool} : isI cs sub .str .bl = some false := rfl
theorem ii_str_int {cs : List String} {sub : String → String → Bool} : isI cs sub .str .int = some false := rfl
theorem ii_str_str {cs : List String} {sub : String → String → Bool} : isI cs sub .str .str = some true := rfl
theorem ii_str_lst {cs : List String} {sub : String → String → Bool} : isI cs sub .str .lst = some false := rfl
theorem ii_str_tup {cs : List String} {sub : String → String → Bool} : isI cs sub .str .tup = some false := rfl
theorem ii_str_dct {cs : List String} {sub : String → String → Bool} : isI cs sub .str .dct = some false := rfl
theorem ii_str_own {cs : List String} {sub : String → String → Bool} {C : String} : isI cs sub .str (.own C) = if C ∈ cs then some false else none := rfl
theorem ii_own_str {cs : List String} {sub : String → String → Bool} {C : String} : isI cs sub (.own C) .str = if C ∈ cs then some false else none := rfl
theorem ii_lst_bl {cs : List String} {sub : String → String → Bool} : isI cs sub .lst .bl = some false := rfl
theorem ii_lst_int {cs : List String} {sub : String → String → Bool} : isI cs sub .lst .int = some false := rfl
theorem ii_lst_str {cs : List String} {sub : String → String → Bool} : isI cs sub .lst .str = some false := rfl
theorem ii_lst_lst {cs : List String} {sub : String → String → Bool} : isI cs sub .lst .lst = some true := rfl
theorem ii_lst_tup {cs : List String} {sub : String → String → Bool} : isI cs sub .lst .tup = some false := rfl
theorem ii_lst_dct {cs : List String} {sub : String → String → Bool} : isI cs sub .lst .dct = some false := rfl
theorem ii_lst_own {cs : List String} {sub : String → String → Bool} {C : String} : isI cs sub .lst (.own C) = if C ∈ cs then some false else none := rfl
theorem ii_own_lst {cs : List String} {sub : String → String → Bool} {C : String} : isI cs sub (.own C) .lst = if C ∈ cs then some false else none := rfl
theorem ii_tup_bl {cs : List String} {sub : String → String → Bool} : isI cs sub .tup .bl = some false := rfl
theorem ii_tup_int {cs : List String} {sub : String → String → Bool} : isI cs sub .tup .int = some false := rfl
theorem ii_tup_str {cs : List String} {sub : String → String → Bool} : isI cs sub .tup .str = some false := rfl
theorem ii_tup_lst {cs : List String} {sub : String → String → Bool} : isI cs sub .tup .lst = some false := rfl
theorem ii_tup_tup {cs : List String} {sub : String → String → Bool} : isI cs sub .tup .tup = some true := rfl
theorem ii_tup_dct {cs : List String} {sub : String → String → Bool} : isI cs sub .tup .dct = some false := rfl
theorem ii_tup_own {cs : List String} {sub : String → String → Bool} {C : String} : isI cs sub .tup (.own C) = if C ∈ cs then some false else none := rfl
theorem ii_own_tup {cs : List String} {sub : String → String → Bool} {C : String} : isI cs sub (.own C) .tup = if C ∈ cs then some false else none := rfl
theorem ii_dct_bl {cs : List String} {sub : String → String → Bool} : isI cs sub .dct .bl = some false := rfl
theorem ii_dct_int {cs : List String} {sub : String → String → Bool} : isI cs sub .dct .int = some false := rfl
theorem ii_dct_str {cs : List String} {sub : String → String → Bool} : isI cs sub .dct .str = some false := rfl
theorem ii_dct_lst {cs : List String} {sub : String → String → Bool} : isI cs sub .dct .lst = some false := rfl
theorem ii_dct_tup {cs : List String} {sub : String → String → Bool} : isI cs sub .dct .tup = some false := rfl
theorem ii_dct_dct {cs : List String} {sub : String → String → Bool} : isI cs sub .dct .dct = some true := rfl
theorem ii_dct_own {cs : List String} {sub : String → String → Bool} {C : String} : isI cs sub .dct (.own C) = if C ∈ cs then some false else none := rfl
theorem ii_own_dct {cs : List String} {sub : String → String → Bool} {C : String} : isI cs sub (.own C) .dct = if C ∈ cs then some false else none := rfl
theorem ii_own_own {cs : List String} {sub : String → String → Bool} {C E : String} : isI cs sub (.own C) (.own E) = if C ∈ cs ∧ E ∈ cs then some (sub C E) else none := rfl
theorem ia_nil {cs : List String} {sub : String → String → Bool} {t : Tg} : isAny cs sub t [] = some false := rfl
theorem ia_cons {cs : List String} {sub : String → String → Bool} {t : Tg} {d : D} {ds : List D} : isAny cs sub t (d :: ds) = d.ctg.bind fun u => (isI cs sub t u).bind fun q => if q = true then some true else isAny cs sub t ds := by rw [isAny]; cases d.ctg with | none => rfl | some u => dsimp only [Option.bind_some]; cases isI cs sub t u with | none => rfl | some q => cases q <;> rfl
theorem st_R {N : Nat} {ds : List D} : startR N ds = ds.map some ++ List.replicate (N - ds.length) none := rfl
theorem o_at1 {α : Type} {x y : α} {l : List α} : L2.atI (x :: y :: l) 1 = some y := by
  rw [show (1 : Int) = ((1 : Nat) : Int) from rfl, atN]
  rfl
theorem o_at2 {α : Type} {x y z : α} {l : List α} : L2.atI (x :: y :: z :: l) 2 = some z := by
  rw [show (2 : Int) = ((2 : Nat) : Int) from rfl, atN]
  rfl
theorem o_at3 {α : Type} {x y z u : α} {l : List α} : L2.atI (x :: y :: z :: u :: l) 3 = some u := by
  rw [show (3 : Int) = ((3 : Nat) : Int) from rfl, atN]
  rfl
theorem r_pull {t : String} {n : Int} : fPull [.ty t, .int n] = .dr n fun d => .ok (.int d) := rfl
theorem ite_t {α : Type} {c : Prop} {r : Option α} (h : c) : ite_ c r = r := if_pos h
theorem ite_T {α : Type} {r : Option α} : ite_ True r = r := if_pos trivial
theorem inV_int {a b : Int} {us : List V} : inV (.int a) (.int b :: us) = (decide (b = a) || inV (.int a) us) := by
  unfold inV
  rw [List.any_cons]
  rfl
end
end DX

set_option Elab.async false
set_option linter.all false
set_option maxRecDepth 100000
namespace DX
open PySem L2
noncomputable section
def turnF (g : FG) (body : FS) (dead : List Nat) (x : D) (ρ : Rho) : Dr Fl := (g x ρ).bind fun ρ1 => (body ρ1).bind fun r => match r with
  | .nx ρ2 => .ok (.nx (wipeR ρ2 dead))
  | .ct ρ2 => .ok (.nx (wipeR ρ2 dead))
  | .bk ρ2 => .ok (.bk (wipeR ρ2 dead))
  | .rt d ρ2 => .ok (.rt d ρ2)
theorem r_turn {g : FG} {body : FS} {dead : List Nat} {x : D} {ρ : Rho} : turnF g body dead x ρ = (g x ρ).bind fun ρ1 => (body ρ1).bind fun r => match r with
  | .nx ρ2 => .ok (.nx (wipeR ρ2 dead))
  | .ct ρ2 => .ok (.nx (wipeR ρ2 dead))
  | .bk ρ2 => .ok (.bk (wipeR ρ2 dead))
  | .rt d ρ2 => .ok (.rt d ρ2) := rfl
theorem fForL_cons {g : FG} {body : FS} {dead : List Nat} {x : D} {xs : List D} {ρ : Rho} : fForL g body dead (x :: xs) ρ = (turnF g body dead x ρ).bind fun r => match r with
  | .nx ρ2 => fForL g body dead xs ρ2
  | .bk ρ2 => .ok (.nx ρ2)
  | .rt d ρ2 => .ok (.rt d ρ2)
  | .ct ρ2 => .no := by
  rw [fForL, turnF, Dr.bind_assoc]
  congr 1
  funext ρ1
  rw [Dr.bind_assoc]
  congr 1
  funext r
  cases r <;> rfl
theorem for_seq {α σ : Type} {g : FG} {body : FS} {dead : List Nat} (enc : α → D) (st : σ → Rho) (R : σ → List α → Prop) (hs : ∀ s x l, R s (x :: l) → ∃ s', R s' l ∧ turnF g body dead (enc x) (st s) = .ok (.nx (st s'))) : ∀ (l : List α) (s : σ), R s l → ∃ s', R s' [] ∧ fForL g body dead (l.map enc) (st s) = .ok (.nx (st s'))
  | [], s, h => ⟨s, h, rfl⟩
  | x :: l, s, h => by
    obtain ⟨s1, h1, e1⟩ := hs s x l h
    obtain ⟨s2, h2, e2⟩ := for_seq enc st R hs l s1 h1
    refine ⟨s2, h2, ?_⟩
    rw [List.map_cons, fForL_cons, e1, Dr.bind_ok]
    exact e2
theorem for_seqK {α σ β : Type} {g : FG} {body : FS} {dead : List Nat} {K : Fl → Dr β} {r : Dr β} (enc : α → D) (st : σ → Rho) (R : σ → List α → Prop) {l : List α} {s : σ} {ρ : Rho} (h0 : R s l) (hs : ∀ s x l, R s (x :: l) → ∃ s', R s' l ∧ turnF g body dead (enc x) (st s) = .ok (.nx (st s'))) (he : ∀ s, R s [] → K (.nx (st s)) = r) (hρ : ρ = st s := by rfl) : (fForL g body dead (l.map enc) ρ).bind K = r := by
  obtain ⟨s', h', e⟩ := for_seq enc st R hs l s h0
  subst hρ
  rw [e, Dr.bind_ok]
  exact he s' h'
theorem for_wp {α σ : Type} {g : FG} {body : FS} {dead : List Nat} {X : ExD → Prop} {Q : Fl → Prop} (enc : α → D) (st : σ → Rho) (R : σ → List α → Prop) (hs : ∀ s x l, R s (x :: l) → (turnF g body dead (enc x) (st s)).wp (fun r => match r with
    | .nx ρ => ∃ s', ρ = st s' ∧ R s' l
    | .bk ρ => Q (.nx ρ)
    | .rt d ρ => Q (.rt d ρ)
    | .ct ρ => False) X) (he : ∀ s, R s [] → Q (.nx (st s))) : ∀ (l : List α) (s : σ), R s l → (fForL g body dead (l.map enc) (st s)).wp Q X
  | [], s, h => he s h
  | x :: l, s, h => by
    rw [List.map_cons, fForL_cons, Dr.wp_bind]
    refine (hs s x l h).imp (fun r hr => ?_) fun _ z => z
    cases r with
    | nx ρ =>
      obtain ⟨s', rfl, h'⟩ := hr
      exact for_wp enc st R hs he l s' h'
    | bk ρ => exact hr
    | rt d ρ => exact hr
    | ct ρ => exact hr.elim
theorem for_wpK {α σ : Type} {g : FG} {body : FS} {dead : List Nat} {X : ExD → Prop} {Q : Fl → Prop} (enc : α → D) (st : σ → Rho) (R : σ → List α → Prop) {l : List α} {s : σ} {ρ : Rho} (h0 : R s l) (hs : ∀ s x l, R s (x :: l) → (turnF g body dead (enc x) (st s)).wp (fun r => match r with
    | .nx ρ => ∃ s', ρ = st s' ∧ R s' l
    | .bk ρ => Q (.nx ρ)
    | .rt d ρ => Q (.rt d ρ)
    | .ct ρ => False) X) (he : ∀ s, R s [] → Q (.nx (st s))) (hρ : ρ = st s := by rfl) : (fForL g body dead (l.map enc) ρ).wp Q X := by
  subst hρ
  exact for_wp enc st R hs he l s h0
end
end DX

set_option Elab.async false
set_option linter.all false
set_option maxRecDepth 100000
namespace DX
open PySem L2
noncomputable section
def nbN : Nat → D → Bool
  | _, .non => true
  | _, .int _ => true
  | _, .str s => PyData.strOk s
  | n + 1, .lst l => l.all (nbN n)
  | n + 1, .tup l => l.all (nbN n)
  | _, _ => false
theorem nb_ok : ∀ (n : Nat) (d : D), nbN n d = true → okN n d = true
  | n, .non, _ => by cases n <;> rfl
  | n, .int _, _ => by cases n <;> rfl
  | n, .str s, h => by cases n <;> simpa [nbN, okN] using h
  | n + 1, .lst l, h => by
    simp only [nbN, okN, List.all_eq_true] at h ⊢
    exact fun x hx => nb_ok n x (h x hx)
  | n + 1, .tup l, h => by
    simp only [nbN, okN, List.all_eq_true] at h ⊢
    exact fun x hx => nb_ok n x (h x hx)
  | n, .bl _, h => by cases n <;> simp [nbN] at h
  | n, .ins _ _, h => by cases n <;> simp [nbN] at h
  | n, .dct _, h => by cases n <;> simp [nbN] at h
  | n, .cls _, h => by cases n <;> simp [nbN] at h
  | n, .ty _, h => by cases n <;> simp [nbN] at h
  | 0, .lst _, h => by simp [nbN] at h
  | 0, .tup _, h => by simp [nbN] at h
theorem eqvAll_nb {n : Nat} (ih : ∀ x y : D, nbN n x = true → ∀ m, nbN m y = true → (PyData.eqv x.toP y.toP = true ↔ x = y)) : ∀ l l' : List D, l.all (nbN n) = true → ∀ m, l'.all (nbN m) = true → (PyData.eqvAll (D.toPs l) (D.toPs l') = true ↔ l = l')
  | [], [], _, _, _ => by simp [D.toPs, PyData.eqvAll]
  | x :: l, [], _, _, _ => by simp [D.toPs, PyData.eqvAll]
  | [], y :: l', _, _, _ => by simp [D.toPs, PyData.eqvAll]
  | x :: l, y :: l', h, m, k => by
    rw [List.all_cons, Bool.and_eq_true] at h k
    rw [D.toPs, D.toPs, PyData.eqvAll, Bool.and_eq_true, ih x y h.1 m k.1, eqvAll_nb ih l l' h.2 m k.2]
    simp
theorem eqv_nb : ∀ (n : Nat) (x y : D), nbN n x = true → ∀ m, nbN m y = true → (PyData.eqv x.toP y.toP = true ↔ x = y) := by
  intro n
  induction n with
  | zero =>
    intro x y hx m hy
    cases x <;> simp [nbN] at hx <;> cases y <;> cases m <;> simp [nbN] at hy <;> simp [D.toP, PyData.eqv]
  | succ n ih =>
    intro x y hx m hy
    cases x <;> simp only [nbN, Bool.false_eq_true] at hx <;> cases y <;> cases m <;> simp only [nbN, Bool.false_eq_true] at hy <;> simp only [D.toP, PyData.eqv]
    all_goals first
      | (rw [eqvAll_nb ih _ _ hx _ hy]; simp; done)
      | (simp; done)
theorem eqD_nb {x y : D} (hx : nbN 60 x = true) (hy : nbN 60 y = true) : eqD x y = true ↔ x = y := eqv_nb 60 x y hx 60 hy
theorem eqV_b {x y : D} {b : Bool} (hx : nbN 60 x = true) (hy : nbN 60 y = true) (h : x = y ↔ b = true) : DX.eqV x y = some b := by
  have h1 := nb_ok 60 x hx
  have h2 := nb_ok 60 y hy
  have h3 := eqD_nb hx hy
  have h4 : eqD x y = b := by
    rw [Bool.eq_iff_iff, h3, h]
  cases x <;> simp only [nbN, Bool.false_eq_true] at hx <;> cases y <;> simp only [nbN, Bool.false_eq_true] at hy
  all_goals first
    | (rw [o_eqLL, ite_t ⟨h1, h2⟩, h4]; done)
    | (rw [o_eqTT, ite_t ⟨h1, h2⟩, h4]; done)
    | (rw [o_eqLT, ite_t ⟨h1, h2⟩, h4]; done)
    | (rw [o_eqTL, ite_t ⟨h1, h2⟩, h4]; done)
    | (rw [o_eqTN, ite_t ⟨h1, h2⟩, h4]; done)
    | (rw [o_eqNT, ite_t ⟨h1, h2⟩, h4]; done)
    | (rw [o_eqLN, ite_t ⟨h1, h2⟩, h4]; done)
    | (rw [o_eqNL, ite_t ⟨h1, h2⟩, h4]; done)
    | (rw [o_eqNN, ite_t ⟨h1, h2⟩, h4]; done)
    | (rw [o_eqIN, ite_t ⟨h1, h2⟩, h4]; done)
    | (rw [o_eqNI, ite_t ⟨h1, h2⟩, h4]; done)
    | (clear h1 h2 h3 h4; unfold DX.eqV; dsimp only; cases b <;> simp_all; done)
    | (unfold DX.eqV; dsimp only; rw [ite_t ⟨h1, h2⟩, h4]; done)
theorem nb_int {n : Nat} (i : Int) : nbN n (.int i) = true := by cases n <;> rfl
theorem nb_lst {n : Nat} {l : List D} (h : ∀ x ∈ l, nbN n x = true) : nbN (n + 1) (.lst l) = true := by simpa [nbN] using h
theorem nb_tup {n : Nat} {l : List D} (h : ∀ x ∈ l, nbN n x = true) : nbN (n + 1) (.tup l) = true := by simpa [nbN] using h
theorem nb_map {α : Type} {n : Nat} {l : List α} {f : α → D} (h : ∀ x ∈ l, nbN n (f x) = true) : ∀ y ∈ l.map f, nbN n y = true := fun y hy => by
  obtain ⟨x, hx, rfl⟩ := List.mem_map.mp hy
  exact h x hx
end
end DX

set_option Elab.async false
set_option linter.all false
set_option maxRecDepth 100000
namespace DX
open PySem L2
noncomputable section
variable {c : Cf} {m : EM} {f : FE}
def okFl (p : String × D) : Bool := !cellF p.1 || match p.2 with
  | .lst _ => true
  | .dct _ => true
  | d => !cellLike d
def okT : D → Bool
  | .ty _ => false
  | .ins _ gs => gs.all okFl
  | _ => true
def hideR (ρ : Rho) : Rho := ρ.map fun o => match o with
  | some d => if okT d = true then some d else none
  | none => none
def leafK : D → Dr D := fun d => must (leafD d = true) (.ok d)
theorem calm_okT {α : Type} {a : α} : (Dr.ok a).calm = .ok a := rfl
end
end DX

set_option Elab.async false
set_option linter.all false
set_option maxRecDepth 100000
namespace DX
open PySem L2
noncomputable section
variable {c : Cf} {m ma mo : EM} {f fa fo : FE}
def fmtK : D → Dr D
  | .str s => must (s.length ≤ 10000000) (.ok (.str s))
  | .int i => must (i.natAbs < 2 ^ 60) (.ok (.str (toString i)))
  | _ => .no
def fmtRK (n : Nat) : D → Dr D
  | .int i => must (i.natAbs < 2 ^ 60) (.ok (.str (PyProof.Rows.intSpecText (fmR n) i)))
  | _ => .no
def fmtLK (n : Nat) : D → Dr D
  | .str s => must (s.length ≤ 10000000) (.ok (.str (padR n s)))
  | _ => .no
def fFmt (f : FE) : FE := fun ρ => (f ρ).bind fmtK
def fFmtR (n : Nat) (f : FE) : FE := fun ρ => (f ρ).bind (fmtRK n)
def fFmtL (n : Nat) (f : FE) : FE := fun ρ => (f ρ).bind (fmtLK n)
theorem qe_fmt (h : QE c m f) : QE c (mFmt m) (fFmt f) := fun B ρ δ S P X k q => by
  unfold fFmt at q
  rw [Dr.wp_bind] at q
  refine h B ρ δ S _ X k (q.imp (fun d q S1 k1 => ?_) fun e z => z)
  cases d with
  | str s => exact ⟨(must_wp q).1, (must_wp q).2 S1 k1⟩
  | int i => exact ⟨(must_wp q).1, (must_wp q).2 S1 k1⟩
  | _ => exact q.elim
abbrev FJ := Str → Rho → Dr Str
def fjNil : FJ := fun acc _ => .ok acc
def fjK (acc : Str) (k : Str → Dr Str) : D → Dr Str
  | .str y => must (acc.length + y.length ≤ 10000000) (k (acc ++ y))
  | _ => .no
def fjCons (f : FE) (r : FJ) : FJ := fun acc ρ => (f ρ).bind (fjK acc fun t => r t ρ)
def fJs (r : FJ) : FE := fun ρ => (r Str.empty ρ).bind fun t => .ok (.str t)
def QJ (c : Cf) (r : JM) (g : FJ) : Prop := ∀ acc B ρ δ S P X, Em c B ρ δ S → (g acc ρ).wp (fun t => ∀ S', Em c B ρ δ S' → P t S') (fun e => ∀ S', Em c B ρ δ S' → X e.w S') → r acc δ S P X
theorem qj_nil : QJ c jNil fjNil := fun acc B ρ δ S P X k q => q S k
theorem qj_cons {r : JM} {g : FJ} (h : QE c m f) (hr : QJ c r g) : QJ c (jCons m r) (fjCons f g) := fun acc B ρ δ S P X k q => by
  unfold fjCons at q
  rw [Dr.wp_bind] at q
  refine h B ρ δ S _ X k (q.imp (fun d q S1 k1 => ?_) fun e z => z)
  cases d with
  | str y => exact ⟨(must_wp q).1, hr _ B ρ δ S1 P X k1 (must_wp q).2⟩
  | _ => exact q.elim
theorem qe_js {r : JM} {g : FJ} (h : QJ c r g) : QE c (mJs r) (fJs g) := fun B ρ δ S P X k q => by
  unfold fJs at q
  rw [Dr.wp_bind] at q
  exact h _ B ρ δ S _ X k (q.imp (fun t q S1 k1 => q S1 k1) fun e z => z)
def strsD : List D → Option (List Str)
  | [] => some []
  | .str s :: l => (strsD l).map (s :: ·)
  | _ :: _ => none
theorem strsD_map : ∀ (l : List Str), strsD (l.map .str) = some l
  | [] => rfl
  | s :: l => by
    show (strsD (l.map .str)).map (s :: ·) = _
    rw [strsD_map l]
    rfl
def joinK2 (a : Str) : D → Dr D
  | .lst ds => opt (strsD ds) fun ys => must (joinFits a ys) (.ok (.str (Str.join a ys)))
  | .tup ds => opt (strsD ds) fun ys => must (joinFits a ys) (.ok (.str (Str.join a ys)))
  | _ => .no
def joinK (k : Dr D) : D → Dr D
  | .str a => k.bind (joinK2 a)
  | _ => .no
def fJoin (fo fa : FE) : FE := fun ρ => (fo ρ).bind (joinK (fa ρ))
def ftConsG (fg : FG) (gs : List D → Rho → Dr Rho) : List D → Rho → Dr Rho := fun ds ρ => match ds with
  | d :: ds => (fg d ρ).bind fun ρ1 => gs ds ρ1
  | [] => .no
end
end DX
namespace DX
open PySem L2
noncomputable section
variable {f fo fa : FE} {ρ : Rho} {acc : Str} {k : Str → Dr Str} {r : FJ} {d : D} {s : Str} {i : Int} {n : Nat}
theorem r_fmt : fFmt f ρ = (f ρ).bind fmtK := rfl
theorem r_fmtS : fmtK (.str s) = must (s.length ≤ 10000000) (.ok (.str s)) := rfl
theorem r_fmtI : fmtK (.int i) = must (i.natAbs < 2 ^ 60) (.ok (.str (toString i))) := rfl
theorem r_fmtR : fFmtR n f ρ = (f ρ).bind (fmtRK n) := rfl
theorem r_fmtRK : fmtRK n (.int i) = must (i.natAbs < 2 ^ 60) (.ok (.str (PyProof.Rows.intSpecText (fmR n) i))) := rfl
theorem r_fmtL : fFmtL n f ρ = (f ρ).bind (fmtLK n) := rfl
theorem r_fmtLK : fmtLK n (.str s) = must (s.length ≤ 10000000) (.ok (.str (padR n s))) := rfl
theorem r_jnil : fjNil acc ρ = .ok acc := rfl
theorem r_jcons : fjCons f r acc ρ = (f ρ).bind (fjK acc fun t => r t ρ) := rfl
theorem r_jK : fjK acc k (.str s) = must (acc.length + s.length ≤ 10000000) (k (acc ++ s)) := rfl
theorem r_js : fJs r ρ = (r Str.empty ρ).bind fun t => .ok (.str t) := rfl
theorem r_join : fJoin fo fa ρ = (fo ρ).bind (joinK (fa ρ)) := rfl
theorem r_joinK {z : Dr D} : joinK z (.str s) = z.bind (joinK2 s) := rfl
theorem r_join2L {ds : List D} : joinK2 s (.lst ds) = opt (strsD ds) fun ys => must (joinFits s ys) (.ok (.str (Str.join s ys))) := rfl
theorem r_join2T {ds : List D} : joinK2 s (.tup ds) = opt (strsD ds) fun ys => must (joinFits s ys) (.ok (.str (Str.join s ys))) := rfl
theorem r_leafB {b : Bool} : leafK (.bl b) = .ok (.bl b) := must_ok rfl
theorem r_leafS : leafK (.str s) = .ok (.str s) := must_ok rfl
theorem r_leafI : leafK (.int i) = .ok (.int i) := must_ok rfl
theorem r_leafN : leafK .non = .ok .non := must_ok rfl
theorem r_hide0 : hideR [] = [] := rfl
theorem r_hideN {l : Rho} : hideR (none :: l) = none :: hideR l := rfl
theorem r_hideS {l : Rho} (h : okT d = true) : hideR (some d :: l) = some d :: hideR l := by
  show (if okT d = true then some d else none) :: _ = _
  rw [if_pos h]
  rfl
theorem r_hideI {l : Rho} : hideR (some (.int i) :: l) = some (.int i) :: hideR l := r_hideS rfl
theorem r_hideStr {l : Rho} : hideR (some (.str s) :: l) = some (.str s) :: hideR l := r_hideS rfl
theorem r_hideB {l : Rho} {b : Bool} : hideR (some (.bl b) :: l) = some (.bl b) :: hideR l := r_hideS rfl
theorem r_hideNo {l : Rho} : hideR (some .non :: l) = some .non :: hideR l := r_hideS rfl
theorem r_hideL {l : Rho} {ds : List D} : hideR (some (.lst ds) :: l) = some (.lst ds) :: hideR l := r_hideS rfl
theorem r_hideT {l : Rho} {ds : List D} : hideR (some (.tup ds) :: l) = some (.tup ds) :: hideR l := r_hideS rfl
theorem r_hideTy {l : Rho} {t : String} : hideR (some (.ty t) :: l) = none :: hideR l := rfl
theorem r_hideX {l : Rho} {C : String} {gs : List (String × D)} : hideR (some (.ins C gs) :: l) = (if gs.all okFl = true then some (.ins C gs) else none) :: hideR l := rfl
theorem r_tconsG {fg : FG} {gs : List D → Rho → Dr Rho} {ds : List D} : ftConsG fg gs (d :: ds) ρ = (fg d ρ).bind fun ρ1 => gs ds ρ1 := rfl
end
end DX

set_option Elab.async false
set_option linter.all false
set_option maxRecDepth 100000
namespace DX
open PySem L2
noncomputable section
section
variable {c : Cf} {B : Bs} {ρ ρ' : Rho} {δ δ' : Slots} {S S' : Store} {os : List (Option Nat)} {ws : List W} {ds : List D} {m ma mb mo mi : EM} {f fa fb fo fi : FE} {mr mk : AM} {fr fk : FAs} {o : Bool} {w : W} {d : D}
theorem qs_parOT {i j : Nat} (ha : QO c ma fa) (hb : QE c mb fb) (h1 : i ∈ c.own := by decide) (h2 : i ∉ c.pr := by decide) (h3 : i ∉ c.mu := by decide) (g1 : j ∉ c.own := by decide) (g2 : j ∉ c.pr := by decide) (g3 : j ∉ c.mu := by decide) : QS c o (mPar i j (aCons ma (aCons mb aNil))) (fPar i j fa fb) := fun B ρ δ S C k q => by
  unfold fPar at q
  rw [Dr.wp_bind] at q
  refine ha B ρ δ S _ (XF C δ) k (q.imp (fun a q S1 w k1 => ?_) fun e z => xf_of z)
  rw [Dr.wp_bind] at q
  refine k1.hold hb (q.imp (fun b q S2 k2 => ?_) fun e z => xf_of z)
  obtain ⟨L', k3⟩ := k2.set h1 h2 h3
  exact q L' _ S2 (k3.set g1 g2 g3)
theorem qs_parOO {i j : Nat} (ha : QO c ma fa) (hb : QO c mb fb) (h1 : i ∈ c.own := by decide) (h2 : i ∉ c.pr := by decide) (h3 : i ∉ c.mu := by decide) (g1 : j ∈ c.own := by decide) (g2 : j ∉ c.pr := by decide) (g3 : j ∉ c.mu := by decide) : QS c o (mPar i j (aCons ma (aCons mb aNil))) (fPar i j fa fb) := fun B ρ δ S C k q => by
  unfold fPar at q
  rw [Dr.wp_bind] at q
  refine ha B ρ δ S _ (XF C δ) k (q.imp (fun a q S1 w k1 => ?_) fun e z => xf_of z)
  rw [Dr.wp_bind] at q
  obtain ⟨A, Lr, k1, hw, hr, hc⟩ := k1
  refine hb (B.pin S1 Lr) ρ δ S1 _ (XF C δ) ⟨A, k1.pin hw hr⟩ (q.imp (fun b q S2 w2 k2 => ?_) fun e z S2 k2 => ?_)
  · obtain ⟨A2, Lr2, k2, hw2, hr2, hc2⟩ := k2
    obtain ⟨k3, hw3, hr3⟩ := k1.unpin hw hr k2
    have out : ∀ b ∈ Lr2, b ∉ Lr := fun b hb z => by
      have e := (hr2 b hb).2
      have e1 : (B.pin S1 Lr).S0 b = S1 b := if_pos z
      rw [e1] at e
      exact hw.al b z e
    have out2 : ∀ b ∈ Lr2, B.S0 b = none := fun b hb => by
      have e := (hr2 b hb).2
      have e1 : (B.pin S1 Lr).S0 b = B.S0 b := if_neg (out b hb)
      rw [e1] at e
      exact e
    have k4 := k3.setO hw3 hr3 hc h1 h2 h3
    have kx : EmX c (B.at fun j => if j = i then Lr else B.L j) (ρ.set i (some a)) (δ.set i (some w)) S2 w2 b := ⟨_, Lr2, k4.at_, hw2, fun b hb => ⟨fun z => z.elim (hr2 b hb).1 (out b hb), out2 b hb⟩, hc2⟩
    obtain ⟨L', k5⟩ := kx.set g1 g2 g3
    exact q L' _ S2 k5
  · obtain ⟨A2, k2⟩ := k2
    exact xf_of z S2 ⟨A2, (k1.unpin hw hr k2).1⟩
def dropK (ρ : Rho) (fa : FE) : D → Dr Fl
  | .lst ds => (fa ρ).bind fun _ => must (ds.length < 10000000) (.ok (.nx ρ))
  | _ => .no
def fDropApp (fo fa : FE) : FS := fun ρ => (fo ρ).bind (dropK ρ fa)
theorem EmX.cell {ds : List D} (k : EmX c B ρ δ S w (.lst ds)) : ∃ a, w = .ref a ∧ S a = some (.lst (ds.map .d)) := by
  obtain ⟨A, Lr, k, hw, hr, hc⟩ := k
  obtain ⟨a, rfl⟩ := hc rfl
  cases hw with
  | lst h => exact ⟨a, rfl, h⟩
theorem EmX.put {a : Addr} {cl : Cell} {ds : List D} (k : EmX c B ρ δ S (.ref a) (.lst ds)) : Em c B ρ δ (upS S a cl) := by
  obtain ⟨A, Lr, k, hw, hr, hc⟩ := k
  cases hw with
  | lst h =>
    obtain ⟨n1, n2⟩ := hr a (by simp)
    refine ⟨A, k.onto2 (fun b x h1 h2 => ?_) (fun b hb => ?_) fun i d w e1 e2 e3 hw => hw.fr fun b hb => upS_ne fun z => n1 (by rw [← z]; exact k.inA i b hb)⟩
    · rw [upS_ne fun z => by rw [z, n2] at h2; cases h2]
      exact k.fr b x h1 h2
    · rw [upS_ne fun z => n1 (by rw [← z]; exact hb)]
      exact k.al b hb
theorem qs_dropApp (ho : QO c mo fo) (ha : QE c ma fa) : QS c o (mDrp (mBM "list" omAppend mo (aCons ma aNil))) (fDropApp fo fa) := fun B ρ δ S C k q => by
  unfold fDropApp at q
  rw [Dr.wp_bind] at q
  refine ho B ρ δ S _ (XF C δ) k (q.imp (fun l q S1 w k1 => ?_) fun e z => xf_of z)
  cases l with
  | lst ds =>
    obtain ⟨a, rfl, e1⟩ := k1.cell
    refine ⟨by unfold tyW; dsimp only; rw [e1]; rfl, ?_⟩
    have q : ((fa ρ).bind fun _ => must (ds.length < 10000000) (Dr.ok (Fl.nx ρ))).wp _ _ := q
    rw [Dr.wp_bind] at q
    refine k1.hold ha (q.imp (fun d q S2 k2 => ?_) fun e z => xf_of z)
    obtain ⟨hl, q⟩ := must_wp q
    obtain ⟨a2, ea, e2⟩ := k2.cell
    cases ea
    show (match S2 a with | some (.lst l) => _ | _ => False)
    rw [e2]
    exact ⟨by simpa using hl, q B.L δ _ k2.put⟩
  | _ => exact q.elim
def mvK (i j : Nat) (ρ : Rho) (ds es : List D) : D → Dr Fl
  | .int n => opt (seqIndex? n es.length) fun k => opt es[k]? fun d => must (ds.length < 10000000 ∧ -(2 ^ 63) ≤ n ∧ n < 2 ^ 63) (.ok (.nx ((ρ.set j (some (.lst (es.eraseIdx k)))).set i (some (.lst (ds ++ [d]))))))
  | _ => .no
def mvL2 (i j : Nat) (f : FE) (ρ : Rho) (ds : List D) : D → Dr Fl
  | .lst es => (f ρ).bind (mvK i j ρ ds es)
  | _ => .no
def mvL1 (i j : Nat) (f : FE) (ρ : Rho) : D → Dr Fl
  | .lst ds => opt (getR ρ j) (mvL2 i j f ρ ds)
  | _ => .no
def fMv (i j : Nat) (f : FE) : FS := fun ρ => opt (getR ρ i) (mvL1 i j f ρ)
theorem getR_set_ne {d : Option D} : ∀ {ρ : Rho} {i j : Nat}, i ≠ j → getR (ρ.set j d) i = getR ρ i
  | [], _, _, _ => rfl
  | x :: l, 0, 0, h => absurd rfl h
  | x :: l, 0, j + 1, _ => rfl
  | x :: l, i + 1, 0, _ => rfl
  | x :: l, i + 1, j + 1, h => getR_set_ne (ρ := l) fun z => h (congrArg (· + 1) z)
theorem qs_mv {i j : Nat} (h : QE c m f) (ne : i ≠ j := by decide) (h1 : i ∈ c.own := by decide) (h2 : i ∉ c.pr := by decide) (g1 : j ∈ c.own := by decide) (g2 : j ∉ c.pr := by decide) : QS c o (mDrp (mBM "list" omAppend (mVar i) (aCons (mBM "list" omPopAt (mVar j) (aCons m aNil)) aNil))) (fMv i j f) := fun B ρ δ S C k q => by
  obtain ⟨l, er, q⟩ := opt_wp q
  cases l with
  | lst ds =>
    obtain ⟨l2, er2, q⟩ := opt_wp (show (opt (getR ρ j) (mvL2 i j f ρ ds)).wp _ _ from q)
    cases l2 with
    | lst es =>
      obtain ⟨a, ea⟩ := k.ownL er h1 h2
      obtain ⟨b, eb⟩ := k.ownL er2 g1 g2
      obtain ⟨ha, _⟩ := k.putL (ds' := ds) ea er h1 h2
      obtain ⟨hb, _⟩ := k.putL (ds' := es) eb er2 g1 g2
      show (match δ[i]? with | some (some w) => _ | _ => False)
      rw [ea]
      refine ⟨by unfold tyW; dsimp only; rw [ha]; rfl, ?_⟩
      show (match δ[j]? with | some (some w) => _ | _ => False)
      rw [eb]
      refine ⟨by unfold tyW; dsimp only; rw [hb]; rfl, ?_⟩
      have q : ((f ρ).bind (mvK i j ρ ds es)).wp _ _ := q
      rw [Dr.wp_bind] at q
      refine h B ρ δ S _ (XF C δ) k (q.imp (fun y q S2 k2 => ?_) fun e z => xf_of z)
      cases y with
      | int n =>
        obtain ⟨kk, ek, q⟩ := opt_wp q
        obtain ⟨d, ed, q⟩ := opt_wp q
        obtain ⟨⟨hl, n1, n2⟩, q⟩ := must_wp q
        obtain ⟨hb2, L', k3⟩ := k2.putL (ds' := es.eraseIdx kk) eb er2 g1 g2
        show (match S2 b with | some (.lst l) => _ | _ => False)
        rw [hb2]
        refine ⟨n1, n2, ?_⟩
        rw [List.length_map, ek]
        dsimp only
        rw [List.getElem?_map, ed]
        have e1 : (es.map W.d).eraseIdx kk = (es.eraseIdx kk).map W.d := by rw [List.eraseIdx_eq_take_drop_succ, List.eraseIdx_eq_take_drop_succ, List.map_append, List.map_take, List.map_drop]
        rw [e1]
        obtain ⟨ha3, L'', k4⟩ := k3.putL (ds' := ds ++ [d]) ea (by rw [getR_set_ne ne]; exact er) h1 h2
        show (match (upS S2 b (.lst ((es.eraseIdx kk).map W.d))) a with | some (.lst l) => _ | _ => False)
        rw [ha3]
        refine ⟨by simpa using hl, ?_⟩
        have e : ds.map W.d ++ [W.d d] = (ds ++ [d]).map W.d := by simp
        rw [e]
        exact q L'' δ _ k4
      | _ => exact q.elim
    | _ => exact q.elim
  | _ => exact q.elim
theorem qo_meth {bs : List Bool} {name : String} {tb : List (String × DSp)} {tf : List (String × DF)} (ho : QE c mo fo) (ht : TbR (QFO (false :: bs)) tb tf) (hr : QA c os mr fr) (hb : os.map (·.isSome) = bs := by rfl) (nd : (os.filterMap id).Nodup := by decide) : QO c (mMeth name tb mo mr) (fMeth name tf fo fr) := fun B ρ δ S P X k q => by
  subst hb
  unfold fMeth at q
  rw [Dr.wp_bind] at q
  refine ho B ρ δ S _ X k (q.imp (fun o q S1 k1 => ?_) fun e z => z)
  obtain ⟨C, fs, sp, F, rfl, h1, h2, hF, q⟩ := methF_wp ht q
  rw [Dr.wp_bind] at q
  refine ⟨h1, ?_⟩
  rw [h2]
  refine hr B ρ δ S1 _ X k1 (q.imp (fun ds q S2 ws k2 h => ?_) fun e z => z)
  obtain ⟨A, k2⟩ := k2
  have h' := AR.tr (.ins C fs) h
  exact hF _ _ S2 _ P X (h'.owa k2 nd) (q.imp (fun d q S' w Lr f o hw hr hc => q S' w ⟨A, Lr, k2.call h' f o, hw, fun b hb => k2.none_ (hr b hb), hc⟩) fun e q S' f o => q S' ⟨A, k2.call h' f o⟩)
def reprK (cl : String) (F : DF) : List D → Dr D
  | [.ins C gs] => must (C = cl) ((F [.ins C gs]).bind fun r => match r with
    | .str s => .ok (.str s)
    | _ => .no)
  | _ => .no
def boolK (cl : String) (F : DF) : List D → Dr D
  | [.ins C gs] => must (C = cl) ((F [.ins C gs]).bind fun r => match r with
    | .bl s => .ok (.bl s)
    | _ => .no)
  | _ => .no
def fReprO (cl : String) (F : DF) (fr : FAs) : FE := fun ρ => (fr ρ).bind (reprK cl F)
def fBoolO (cl : String) (F : DF) (fr : FAs) : FE := fun ρ => (fr ρ).bind (boolK cl F)
theorem qe_reprO {cl : String} {sp : DSp} {F : DF} (hF : QF [false] sp F) (hr : QA c [none] mr fr) : QE c (mReprO cl sp mr) (fReprO cl F fr) := fun B ρ δ S P X k q => by
  unfold fReprO at q
  rw [Dr.wp_bind] at q
  refine hr B ρ δ S _ X k (q.imp (fun ds q S2 ws k2 h => ?_) fun e z => z)
  obtain ⟨A, k2⟩ := k2
  have ow := h.owa k2 (by decide)
  cases h with
  | tr d h1 =>
    cases h1
    cases d with
    | ins C fs =>
      obtain ⟨e0, q2⟩ := must_wp (show (must (C = cl) _).wp _ _ from q)
      rw [Dr.wp_bind] at q2
      refine ⟨e0, hF _ _ S2 _ _ X ow (q2.imp (fun d q S' f o => ?_) fun e q S' f o => q S' ⟨A, k2.call (AR.tr _ .nil) f o⟩)⟩
      cases d with
      | str s => exact ⟨s, rfl, q S' ⟨A, k2.call (AR.tr _ .nil) f o⟩⟩
      | _ => exact q.elim
    | _ => exact q.elim
theorem qe_boolO {cl : String} {sp : DSp} {F : DF} (hF : QF [false] sp F) (hr : QA c [none] mr fr) : QE c (mBoolO cl sp mr) (fBoolO cl F fr) := fun B ρ δ S P X k q => by
  unfold fBoolO at q
  rw [Dr.wp_bind] at q
  refine hr B ρ δ S _ X k (q.imp (fun ds q S2 ws k2 h => ?_) fun e z => z)
  obtain ⟨A, k2⟩ := k2
  have ow := h.owa k2 (by decide)
  cases h with
  | tr d h1 =>
    cases h1
    cases d with
    | ins C fs =>
      obtain ⟨e0, q2⟩ := must_wp (show (must (C = cl) _).wp _ _ from q)
      rw [Dr.wp_bind] at q2
      refine ⟨e0, hF _ _ S2 _ _ X ow (q2.imp (fun d q S' f o => ?_) fun e q S' f o => q S' ⟨A, k2.call (AR.tr _ .nil) f o⟩)⟩
      cases d with
      | bl s => exact ⟨s, rfl, q S' ⟨A, k2.call (AR.tr _ .nil) f o⟩⟩
      | _ => exact q.elim
    | _ => exact q.elim
def ownK (g : Bool → Bool) : D → Dr D
  | .bl b => .ok (.bl (g b))
  | _ => .no
def eqOK (cs : List String) (cl : String) (g : Bool → Bool) (F : DF) (a b : D) : Dr D := match a with
  | .ins C gs => opt b.tg fun t => must (C = cl ∧ t.inC cs ∧ ∀ e, t = .own e → e = cl) (((F [.ins C gs, b]).calm).bind (ownK g))
  | _ => .no
def inOK (cl : String) (g : Bool → Bool) (F : DF) (a b : D) : Dr D := match b with
  | .ins C gs => must (C = cl) (((F [.ins C gs, a]).calm).bind (ownK g))
  | _ => .no
def fEqO (cs : List String) (cl : String) (g : Bool → Bool) (F : DF) (fa fb : FE) : FE := fun ρ => (fa ρ).bind fun a => (fb ρ).bind (eqOK cs cl g F a)
def fInO (cl : String) (g : Bool → Bool) (F : DF) (fa fb : FE) : FE := fun ρ => (fa ρ).bind fun a => (fb ρ).bind (inOK cl g F a)
theorem qe_eqO {cs : List String} {cl : String} {g : Bool → Bool} {sp : DSp} {F : DF} (hF : QF [false, false] sp F) (ha : QE c ma fa) (hb : QE c mb fb) : QE c (mOp (oEqOwn cs cl g sp) ma mb) (fEqO cs cl g F fa fb) := fun B ρ δ S P X k q => by
  unfold fEqO at q
  rw [Dr.wp_bind] at q
  refine ha B ρ δ S _ X k (q.imp (fun a q S1 k1 => ?_) fun e z => z)
  rw [Dr.wp_bind] at q
  refine hb B ρ δ S1 _ X k1 (q.imp (fun b q S2 k2 => ?_) fun e z => z)
  cases a with
  | ins C gs =>
    obtain ⟨t, et, q⟩ := opt_wp (show (opt b.tg _).wp _ _ from q)
    obtain ⟨⟨e0, hi, hl⟩, q⟩ := must_wp q
    rw [Dr.wp_bind] at q
    have et2 : (W.d b).tg S2 = some t := et
    show (match insOf S2 (.d (.ins C gs)), (W.d b).tg S2 with | some (c, _), some t => _ | _, _ => False)
    rw [et2]
    show C = cl ∧ _
    refine ⟨e0, hi, hl, ?_⟩
    obtain ⟨A, k2⟩ := k2
    have h : AR c ρ δ [none, none] [.d (.ins C gs), .d b] [.ins C gs, b] := .tr _ (.tr _ .nil)
    exact hF _ _ S2 _ _ _ (h.owa k2 (by decide)) (Dr.wp_calm (q.imp (fun d q S' f o => by
      cases d with
      | bl b => exact ⟨b, rfl, q S' ⟨A, k2.call h f o⟩⟩
      | _ => exact q.elim) fun e z => z))
  | _ => exact q.elim
theorem qe_inO {cl : String} {g : Bool → Bool} {sp : DSp} {F : DF} (hF : QF [false, false] sp F) (ha : QE c ma fa) (hb : QE c mb fb) : QE c (mOp (oInOwn cl g sp) ma mb) (fInO cl g F fa fb) := fun B ρ δ S P X k q => by
  unfold fInO at q
  rw [Dr.wp_bind] at q
  refine ha B ρ δ S _ X k (q.imp (fun a q S1 k1 => ?_) fun e z => z)
  rw [Dr.wp_bind] at q
  refine hb B ρ δ S1 _ X k1 (q.imp (fun b q S2 k2 => ?_) fun e z => z)
  cases b with
  | ins C gs =>
    obtain ⟨e0, q⟩ := must_wp (show (must (C = cl) _).wp _ _ from q)
    rw [Dr.wp_bind] at q
    refine ⟨e0, ?_⟩
    obtain ⟨A, k2⟩ := k2
    have h : AR c ρ δ [none, none] [.d (.ins C gs), .d a] [.ins C gs, a] := .tr _ (.tr _ .nil)
    exact hF _ _ S2 _ _ _ (h.owa k2 (by decide)) (Dr.wp_calm (q.imp (fun d q S' f o => by
      cases d with
      | bl b => exact ⟨b, rfl, q S' ⟨A, k2.call h f o⟩⟩
      | _ => exact q.elim) fun e z => z))
  | _ => exact q.elim
def rowD : D → Option (List Int)
  | .tup l => allID l
  | _ => none
def rowsDD : List D → Option (List (List Int))
  | [] => some []
  | d :: l => (rowD d).bind fun r => (rowsDD l).map (r :: ·)
theorem allID_eq : ∀ {l : List D} {r : List Int}, allID l = some r → l = r.map D.int
  | [], r, h => by cases h; rfl
  | .int b :: l, r, h => by
    unfold allID at h
    cases q : allID l with
    | none => rw [q] at h; cases h
    | some r2 =>
      rw [q] at h
      cases h
      rw [allID_eq q]
      rfl
  | .non :: _, _, h => by cases h
  | .bl _ :: _, _, h => by cases h
  | .str _ :: _, _, h => by cases h
  | .lst _ :: _, _, h => by cases h
  | .tup _ :: _, _, h => by cases h
  | .ins _ _ :: _, _, h => by cases h
  | .dct _ :: _, _, h => by cases h
  | .cls _ :: _, _, h => by cases h
  | .ty _ :: _, _, h => by cases h
theorem rowD_ok {d : D} {r : List Int} (h : rowD d = some r) : d = tupI r := by
  cases d with
  | tup l =>
    have e : allID l = some r := h
    show D.tup l = D.tup (r.map D.int)
    rw [allID_eq e]
  | _ => cases h
theorem rowsDD_ok : ∀ {l : List D} {rs : List (List Int)}, rowsDD l = some rs → l = rs.map tupI
  | [], rs, h => by cases h; rfl
  | d :: l, rs, h => by
    unfold rowsDD at h
    cases q : rowD d with
    | none => rw [q] at h; cases h
    | some r =>
      rw [q, Option.bind_some] at h
      cases q2 : rowsDD l with
      | none => rw [q2] at h; cases h
      | some rs2 =>
        rw [q2] at h
        cases h
        rw [rowD_ok q, rowsDD_ok q2]
        rfl
theorem rowsDD_map : ∀ (rs : List (List Int)), rowsDD (rs.map tupI) = some rs
  | [] => rfl
  | r :: rs => by
    show (rowD (tupI r)).bind _ = _
    rw [show rowD (tupI r) = some r from allID_map r, Option.bind_some, rowsDD_map rs]
    rfl
def sortK (f : List (List Int) → List (List Int)) (ds : List D) : Dr D := opt (rowsDD ds) fun rows => must (∃ d B, rowsOk d B rows) (.ok (.lst ((f rows).map tupI)))
def sortRK : D → Dr D
  | .lst ds => sortK srt ds
  | _ => .no
def sortSK : D → Dr D
  | .lst ds => sortK sset ds
  | .tup ds => sortK sset ds
  | _ => .no
def fSortR (f : FE) : FE := fun ρ => (f ρ).bind sortRK
def fSortS (f : FE) : FE := fun ρ => (f ρ).bind sortSK
theorem rows_w (rs : List (List Int)) : (rs.map tupI).map W.d = rs.map fun r => W.d (tupI r) := by
  rw [List.map_map]
  rfl
theorem qe_sortR (h : QE c m f) : QE c (mSortR m) (fSortR f) := fun B ρ δ S P X k q => by
  unfold fSortR at q
  rw [Dr.wp_bind] at q
  refine h B ρ δ S _ X k (q.imp (fun d q S2 k2 => ?_) fun e z => z)
  cases d with
  | lst ds =>
    obtain ⟨rs, er, q2⟩ := opt_wp (show (opt (rowsDD ds) _).wp _ _ from q)
    obtain ⟨hr, q3⟩ := must_wp q2
    have e := rowsDD_ok er
    subst e
    exact ⟨rs, congrArg some (rows_w rs), rfl, hr, q3 S2 k2⟩
  | _ => exact q.elim
theorem qe_sortS (h : QE c m f) : QE c (mSortS m) (fSortS f) := fun B ρ δ S P X k q => by
  unfold fSortS at q
  rw [Dr.wp_bind] at q
  refine h B ρ δ S _ X k (q.imp (fun d q S2 k2 => ?_) fun e z => z)
  cases d with
  | lst ds =>
    obtain ⟨rs, er, q2⟩ := opt_wp (show (opt (rowsDD ds) _).wp _ _ from q)
    obtain ⟨hr, q3⟩ := must_wp q2
    have e := rowsDD_ok er
    subst e
    exact ⟨rs, congrArg some (rows_w rs), hr, q3 S2 k2⟩
  | tup ds =>
    obtain ⟨rs, er, q2⟩ := opt_wp (show (opt (rowsDD ds) _).wp _ _ from q)
    obtain ⟨hr, q3⟩ := must_wp q2
    have e := rowsDD_ok er
    subst e
    exact ⟨rs, congrArg some (rows_w rs), hr, q3 S2 k2⟩
  | _ => exact q.elim
theorem qe_sortSO {i : Nat} (hi : i ∈ c.own) : QE c (mSortS (mVar i)) (fSortS (fVar i)) := fun B ρ δ S P X k q => by
  unfold fSortS at q
  rw [Dr.wp_bind] at q
  obtain ⟨d, ed, q⟩ := opt_wp q
  obtain ⟨w, L, ew, hw⟩ := k.own ed hi
  show (match δ[i]? with | some (some w) => _ | _ => False)
  rw [ew]
  cases hw with
  | d =>
    cases d with
    | lst ds =>
      obtain ⟨rs, er, q2⟩ := opt_wp (show (opt (rowsDD ds) _).wp _ _ from q)
      obtain ⟨hr, q3⟩ := must_wp q2
      have e := rowsDD_ok er
      subst e
      exact ⟨rs, congrArg some (rows_w rs), hr, q3 S k⟩
    | tup ds =>
      obtain ⟨rs, er, q2⟩ := opt_wp (show (opt (rowsDD ds) _).wp _ _ from q)
      obtain ⟨hr, q3⟩ := must_wp q2
      have e := rowsDD_ok er
      subst e
      exact ⟨rs, congrArg some (rows_w rs), hr, q3 S k⟩
    | _ => exact (show False from q).elim
  | lst h =>
    rename_i a ds
    obtain ⟨rs, er, q2⟩ := opt_wp (show (opt (rowsDD ds) _).wp _ _ from q)
    obtain ⟨hr, q3⟩ := must_wp q2
    have e := rowsDD_ok er
    subst e
    refine ⟨rs, ?_, hr, q3 S k⟩
    unfold seqW lseq
    dsimp only
    rw [h, rows_w]
  | dct h => exact (show False from q).elim
  | obj h r n => exact (show False from q).elim
  | bag h => exact (show False from q).elim
end
end
end DX
namespace DX
open PySem L2
noncomputable section
variable {f fo fa fb : FE} {fr : FAs} {ρ : Rho} {d a b : D} {s : Str} {i j : Nat} {n : Int} {ds es : List D} {cl C : String} {cs : List String} {g : Bool → Bool} {F : DF} {gs : List (String × D)} {q : Bool}
theorem r_dropApp : fDropApp fo fa ρ = (fo ρ).bind (dropK ρ fa) := rfl
theorem r_dropK : dropK ρ fa (.lst ds) = (fa ρ).bind fun _ => must (ds.length < 10000000) (.ok (.nx ρ)) := rfl
theorem r_mv : fMv i j f ρ = opt (getR ρ i) (mvL1 i j f ρ) := rfl
theorem r_mv1 : mvL1 i j f ρ (.lst ds) = opt (getR ρ j) (mvL2 i j f ρ ds) := rfl
theorem r_mv2 : mvL2 i j f ρ ds (.lst es) = (f ρ).bind (mvK i j ρ ds es) := rfl
theorem r_reprO : fReprO cl F fr ρ = (fr ρ).bind (reprK cl F) := rfl
theorem r_reprK : reprK cl F [.ins C gs] = must (C = cl) ((F [.ins C gs]).bind fun r => match r with
    | .str s => .ok (.str s)
    | _ => .no) := rfl
theorem r_boolO : fBoolO cl F fr ρ = (fr ρ).bind (boolK cl F) := rfl
theorem r_boolK : boolK cl F [.ins C gs] = must (C = cl) ((F [.ins C gs]).bind fun r => match r with
    | .bl s => .ok (.bl s)
    | _ => .no) := rfl
theorem r_eqO : fEqO cs cl g F fa fb ρ = (fa ρ).bind fun a => (fb ρ).bind (eqOK cs cl g F a) := rfl
theorem r_eqOK : eqOK cs cl g F (.ins C gs) b = opt b.tg fun t => must (C = cl ∧ t.inC cs ∧ ∀ e, t = .own e → e = cl) (((F [.ins C gs, b]).calm).bind (ownK g)) := rfl
theorem r_inO : fInO cl g F fa fb ρ = (fa ρ).bind fun a => (fb ρ).bind (inOK cl g F a) := rfl
theorem r_inOK : inOK cl g F a (.ins C gs) = must (C = cl) (((F [.ins C gs, a]).calm).bind (ownK g)) := rfl
theorem r_ownK : ownK g (.bl q) = .ok (.bl (g q)) := rfl
theorem r_sortR : fSortR f ρ = (f ρ).bind sortRK := rfl
theorem r_sortS : fSortS f ρ = (f ρ).bind sortSK := rfl
theorem r_sortRK : sortRK (.lst ds) = sortK srt ds := rfl
theorem r_sortSL : sortSK (.lst ds) = sortK sset ds := rfl
theorem r_sortST : sortSK (.tup ds) = sortK sset ds := rfl
theorem r_sortK {h : List (List Int) → List (List Int)} {rows : List (List Int)} (ok : ∃ d B, rowsOk d B rows) : sortK h (rows.map tupI) = .ok (.lst ((h rows).map tupI)) := by
  unfold sortK
  rw [rowsDD_map, opt_some, must_ok ok]
end
end DX

set_option Elab.async false
set_option linter.all false
set_option maxRecDepth 100000
namespace DX
open PySem L2
def below (a b : List Int) : Bool := (a.zip b).all fun p => decide (p.1 ≤ p.2)
def minsF (acc : List (List Int)) (r : List Int) : List (List Int) := if acc.any (fun o => below o r) then acc else acc ++ [r]
def mins (l : List (List Int)) : List (List Int) := l.foldl minsF []
def smaF (rows : List (List Int)) (acc : List (List Int)) (r : List Int) : List (List Int) := if !decide (r ∈ acc) && !rows.any (fun o => !decide (o = r) && below o r) then acc ++ [r] else acc
def smallest (rows : List (List Int)) : List (List Int) := (srt rows).foldl (smaF rows) []
-- MATH
theorem below_self (a : List Int) : below a a = true := by
  unfold below
  rw [List.all_eq_true]
  intro p hp
  have : ∀ (a : List Int), ∀ p ∈ a.zip a, p.1 = p.2 := by
    intro a
    induction a with
    | nil => simp
    | cons x a ih => 
      intro p hp
      rcases List.mem_cons.mp hp with rfl | hp
      · rfl
      · exact ih p hp
  rw [this a p hp]
  simp
theorem below_cons {x y : Int} {a b : List Int} : below (x :: a) (y :: b) = (decide (x ≤ y) && below a b) := rfl
theorem below_trans : ∀ {a b c : List Int}, a.length = b.length → b.length = c.length → below a b = true → below b c = true → below a c = true
  | [], _, _, _, _, _, _ => rfl
  | _ :: _, [], _, h, _, _, _ => by simp at h
  | _ :: _, _ :: _, [], _, h, _, _ => by simp at h
  | x :: a, y :: b, z :: c, h1, h2, h3, h4 => by
    rw [below_cons, Bool.and_eq_true, decide_eq_true_eq] at h3 h4 ⊢
    exact ⟨by omega, below_trans (by simpa using h1) (by simpa using h2) h3.2 h4.2⟩
theorem below_lle : ∀ {a b : List Int}, a.length = b.length → below a b = true → lle a b = true
  | [], _, _, _ => rfl
  | _ :: _, [], h, _ => by simp at h
  | x :: a, y :: b, h1, h3 => by
    rw [below_cons, Bool.and_eq_true, decide_eq_true_eq] at h3
    have := below_lle (by simpa using h1) h3.2
    simp only [lle, Bool.or_eq_true, Bool.and_eq_true, decide_eq_true_eq]
    by_cases e : x = y
    · exact .inr ⟨e, this⟩
    · exact .inl (by omega)
def isMin (rows : List (List Int)) (r : List Int) : Bool := !rows.any (fun o => !decide (o = r) && below o r)
theorem isMin_iff {rows : List (List Int)} {r : List Int} : isMin rows r = true ↔ ∀ o ∈ rows, below o r = true → o = r := by
  unfold isMin
  rw [Bool.not_eq_true', ← Bool.not_eq_true, List.any_eq_true]
  constructor
  · intro h o ho hb
    by_cases e : o = r
    · exact e
    · exact absurd ⟨o, ho, by simp [e, hb]⟩ h
  · rintro h ⟨o, ho, hb⟩
    simp only [Bool.and_eq_true, Bool.not_eq_true', decide_eq_false_iff_not] at hb
    exact hb.1 (h o ho hb.2)
def wsum : List Int → Int
  | [] => 0
  | a :: l => a + wsum l
theorem wsum_lt : ∀ {a b : List Int}, a.length = b.length → below a b = true → a ≠ b → wsum a < wsum b
  | [], [], _, _, h => absurd rfl h
  | [], _ :: _, h, _, _ => by simp at h
  | _ :: _, [], h, _, _ => by simp at h
  | x :: a, y :: b, h, hb, hn => by
    rw [below_cons, Bool.and_eq_true, decide_eq_true_eq] at hb
    have hl : a.length = b.length := by simpa using h
    by_cases e : a = b
    · subst e
      have : x ≠ y := fun z => hn (by rw [z])
      simp only [wsum]
      omega
    · have := wsum_lt hl hb.2 e
      simp only [wsum]
      omega
theorem wsum_nonneg {a : List Int} (h : ∀ x ∈ a, 0 ≤ x) : 0 ≤ wsum a := by
  induction a with
  | nil => simp [wsum]
  | cons x a ih =>
    have h1 := h x (List.mem_cons_self ..)
    have h2 := ih fun y hy => h y (List.mem_cons_of_mem _ hy)
    simp only [wsum]
    omega
theorem min_below {rows : List (List Int)} {d : Nat} {B : Int} (ok : ∀ r ∈ rows, r.length = d ∧ TS.Bd B r) : ∀ (n : Nat) (r : List Int), r ∈ rows → (wsum r).toNat ≤ n → ∃ m, m ∈ rows ∧ isMin rows m = true ∧ below m r = true := by
  intro n
  induction n with
  | zero =>
    intro r hr hn
    refine ⟨r, hr, isMin_iff.mpr fun o ho hb => ?_, below_self r⟩
    by_cases e : o = r
    · exact e
    · have h1 := wsum_lt ((ok o ho).1.trans (ok r hr).1.symm) hb e
      have h2 := wsum_nonneg fun x hx => ((ok o ho).2 x hx).1
      omega
  | succ n ih =>
    intro r hr hn
    by_cases hm : isMin rows r = true
    · exact ⟨r, hr, hm, below_self r⟩
    · have : ∃ o ∈ rows, below o r = true ∧ o ≠ r := by
        rcases Classical.em (∃ o ∈ rows, below o r = true ∧ o ≠ r) with h | h
        · exact h
        · refine absurd (isMin_iff.mpr fun o ho hb => ?_) hm
          rcases Classical.em (o = r) with e | e
          · exact e
          · exact absurd ⟨o, ho, hb, e⟩ h
      obtain ⟨o, ho, hb, hne⟩ := this
      have h1 := wsum_lt ((ok o ho).1.trans (ok r hr).1.symm) hb hne
      have h2 := wsum_nonneg fun x hx => ((ok o ho).2 x hx).1
      obtain ⟨m, hm, hmm, hmb⟩ := ih o ho (by omega)
      exact ⟨m, hm, hmm, below_trans ((ok m hm).1.trans (ok o ho).1.symm) ((ok o ho).1.trans (ok r hr).1.symm) hmb hb⟩
theorem minsF_filter {rows : List (List Int)} {d : Nat} {B : Int} (ok : ∀ r ∈ rows, r.length = d ∧ TS.Bd B r) (l : List (List Int)) : ∀ t : List (List Int), l = t ++ l.drop t.length → l.Nodup → l.Pairwise (fun a b => lle a b = true) → (∀ r, r ∈ l ↔ r ∈ rows) → t.foldl minsF [] = t.filter (isMin rows) := by
  intro t
  induction h : t.length generalizing t with
  | zero =>
    intro _ _ _ _
    have : t = [] := List.eq_nil_of_length_eq_zero h
    subst this
    rfl
  | succ n ih =>
    intro hl hnd hpw hm
    obtain ⟨t', r, rfl⟩ : ∃ t' r, t = t' ++ [r] := by
      have hne : t ≠ [] := by
        intro z
        subst z
        simp at h
      exact ⟨t.dropLast, t.getLast hne, (List.dropLast_concat_getLast hne).symm⟩
    have hlen : t'.length = n := by simpa using h
    have hl' : l = t' ++ ([r] ++ l.drop (n + 1)) := by
      rw [← List.append_assoc]
      exact hl
    have hl2 : l = t' ++ l.drop t'.length := by
      conv => lhs; rw [hl']
      have : l.drop t'.length = [r] ++ l.drop (n + 1) := by
        conv => lhs; rw [hl']
        rw [List.drop_left]
      rw [this]
    have h1 := ih t' hlen (by rw [← hlen]; exact hl2) hnd hpw hm
    rw [List.foldl_append, h1, List.filter_append]
    have hr : r ∈ rows := (hm r).mp (by rw [hl']; simp)
    have hsub : ∀ o ∈ t', o ∈ rows := fun o ho => (hm o).mp (by rw [hl']; exact List.mem_append_left _ ho)
    show minsF (t'.filter (isMin rows)) r = _
    unfold minsF
    have key : ((t'.filter (isMin rows)).any fun o => below o r) = !isMin rows r := by
      cases hmr : isMin rows r with
      | true =>
        rw [Bool.not_true, ← Bool.not_eq_true, List.any_eq_true]
        rintro ⟨o, ho, hb⟩
        have ho' := (List.mem_filter.mp ho).1
        have e := isMin_iff.mp hmr o (hsub o ho') hb
        subst e
        rw [hl'] at hnd
        have := (List.nodup_append.mp hnd).2.2 o ho' o (by simp)
        exact this rfl
      | false =>
        rw [Bool.not_false, List.any_eq_true]
        obtain ⟨m, hm1, hm2, hm3⟩ := min_below ok _ r hr (Nat.le_refl _)
        have hne : m ≠ r := fun z => by
          rw [z, hmr] at hm2
          cases hm2
        have hml : lle m r = true := below_lle ((ok m hm1).1.trans (ok r hr).1.symm) hm3
        have : m ∈ t' := by
          have hin := (hm m).mpr hm1
          rw [hl'] at hin
          rcases List.mem_append.mp hin with hin | hin
          · exact hin
          · rcases List.mem_append.mp hin with hin | hin
            · exact absurd (List.mem_singleton.mp hin) hne
            · rw [hl'] at hpw
              have p2 := (List.pairwise_append.mp hpw).2.1
              rw [List.singleton_append] at p2
              have := (List.pairwise_cons.mp p2).1 m hin
              exact absurd (lle_anti m r hml this) hne
        exact ⟨m, List.mem_filter.mpr ⟨this, hm2⟩, hm3⟩
    rw [key]
    cases hmr : isMin rows r with
    | true => simp [hmr]
    | false => simp [hmr]
theorem mins_eq {rows : List (List Int)} {d : Nat} {B : Int} (ok : rowsOk d B rows) : mins (sset rows) = (sset rows).filter (isMin rows) :=
  minsF_filter ok.2.2 (sset rows) (sset rows) (by simp) (sset_nodup rows) (sset_pw rows) fun r => mem_sset
theorem smaF_inv {rows : List (List Int)} : ∀ (t : List (List Int)), t.Pairwise (fun a b => lle a b = true) → (t.foldl (smaF rows) []).Nodup ∧ (t.foldl (smaF rows) []).Pairwise (fun a b => lle a b = true) ∧ ∀ r, r ∈ t.foldl (smaF rows) [] ↔ r ∈ t ∧ isMin rows r = true := by
  intro t
  induction h : t.length generalizing t with
  | zero =>
    intro _
    have : t = [] := List.eq_nil_of_length_eq_zero h
    subst this
    exact ⟨.nil, .nil, fun r => by simp⟩
  | succ n ih =>
    intro hpw
    obtain ⟨t', r, rfl⟩ : ∃ t' r, t = t' ++ [r] := by
      have hne : t ≠ [] := by
        intro z
        subst z
        simp at h
      exact ⟨t.dropLast, t.getLast hne, (List.dropLast_concat_getLast hne).symm⟩
    obtain ⟨p1, p2, p3⟩ := List.pairwise_append.mp hpw
    obtain ⟨i1, i2, i3⟩ := ih t' (by simpa using h) p1
    rw [List.foldl_append]
    generalize t'.foldl (smaF rows) [] = acc at *
    show (smaF rows acc r).Nodup ∧ (smaF rows acc r).Pairwise _ ∧ ∀ r', r' ∈ smaF rows acc r ↔ _
    have e : smaF rows acc r = if !decide (r ∈ acc) && isMin rows r then acc ++ [r] else acc := rfl
    rw [e]
    split
    · rename_i hc
      simp only [Bool.and_eq_true, Bool.not_eq_true', decide_eq_false_iff_not] at hc
      refine ⟨List.nodup_append.mpr ⟨i1, by simp, fun a ha b hb => ?_⟩, List.pairwise_append.mpr ⟨i2, by simp, fun a ha b hb => ?_⟩, fun r' => ?_⟩
      · rw [List.mem_singleton.mp hb]
        intro z
        exact hc.1 (z ▸ ha)
      · exact p3 a ((i3 a).mp ha).1 b hb
      · rw [List.mem_append, i3, List.mem_append, List.mem_singleton]
        constructor
        · rintro (h | rfl)
          · exact ⟨.inl h.1, h.2⟩
          · exact ⟨.inr rfl, hc.2⟩
        · rintro ⟨h | rfl, h2⟩
          · exact .inl ⟨h, h2⟩
          · exact .inr rfl
    · rename_i hc
      refine ⟨i1, i2, fun r' => ?_⟩
      rw [i3, List.mem_append, List.mem_singleton]
      constructor
      · rintro ⟨h1, h2⟩
        exact ⟨.inl h1, h2⟩
      · rintro ⟨h | rfl, h2⟩
        · exact ⟨h, h2⟩
        · have : r' ∈ acc := by
            simp only [h2, Bool.and_true, Bool.not_eq_true', Bool.not_eq_false, decide_eq_true_eq] at hc
            exact hc
          exact (i3 r').mp this
theorem smallest_eq (rows : List (List Int)) (d : Nat) (B : Int) (ok : rowsOk d B rows) : smallest rows = mins (sset rows) := by
  rw [mins_eq ok]
  obtain ⟨h1, h2, h3⟩ := smaF_inv (rows := rows) (srt rows) (srt_pw rows)
  refine sorted_unique lle_anti _ _ ((List.perm_ext_iff_of_nodup h1 ((sset_nodup rows).filter _)).mpr fun r => ?_) h2 ((sset_pw rows).filter _)
  rw [h3, List.mem_filter, mem_srt, mem_sset]
theorem mins_nil : mins (sset []) = [] := by
  have e : ([] : List (List Int)) = sset [] := sset_eq .nil (fun a => Iff.rfl) .nil
  rw [← e]
  rfl

theorem mins_mem {rows : List (List Int)} {d : Nat} {B : Int} (ok : rowsOk d B rows) {m : List Int} : m ∈ mins (sset rows) ↔ m ∈ rows ∧ isMin rows m = true := by
  rw [mins_eq ok, List.mem_filter, mem_sset]
theorem mins_holds {rows : List (List Int)} {d : Nat} {B : Int} (ok : rowsOk d B rows) {x : List Int} (hx : x.length = d) : (mins (sset rows)).any (fun m => below m x) = rows.any (fun r => below r x) := by
  rw [Bool.eq_iff_iff, List.any_eq_true, List.any_eq_true]
  constructor
  · rintro ⟨m, h1, h2⟩
    exact ⟨m, ((mins_mem ok).mp h1).1, h2⟩
  · rintro ⟨r, h1, h2⟩
    obtain ⟨m, g1, g2, g3⟩ := min_below ok.2.2 _ r h1 (Nat.le_refl _)
    exact ⟨m, (mins_mem ok).mpr ⟨g1, g2⟩, below_trans ((ok.2.2 m g1).1.trans (ok.2.2 r h1).1.symm) ((ok.2.2 r h1).1.trans hx.symm) g3 h2⟩
theorem sset_same {rows rows' : List (List Int)} (h : ∀ a, a ∈ rows' ↔ a ∈ rows) : sset rows' = sset rows := sset_eq (sset_nodup _) (fun a => mem_sset.trans (h a)) (sset_pw _)
theorem minsF_len (l : List (List Int)) : ∀ acc : List (List Int), (l.foldl minsF acc).length ≤ acc.length + l.length := by
  induction l with
  | nil => intro acc; simp
  | cons a l ih =>
    intro acc
    have h := ih (minsF acc a)
    have : (minsF acc a).length ≤ acc.length + 1 := by
      unfold minsF
      split <;> simp
    rw [List.foldl_cons, List.length_cons]
    omega
theorem mins_len (rows : List (List Int)) : (mins (sset rows)).length ≤ rows.length := by
  have h := minsF_len (sset rows) []
  have h2 := sset_len rows
  unfold mins
  simp at h
  omega
end DX

set_option Elab.async false
set_option linter.all false
set_option maxRecDepth 100000
namespace DX
open PySem L2
noncomputable section
abbrev nD (n : Nat) : D := .int (n : Int)
abbrev tupN (l : List Nat) : D := .tup (l.map nD)
abbrev lstB (l : List Bool) : D := .lst (l.map D.bl)
inductive Deed where
  | skip | add (c n : Nat) | take (c n : Nat) | clear (c : Nat) | pour (c d : Nat) | test (c : Nat)
def Deed.D : Deed → D
  | .skip => .tup [.str "skip"]
  | .add c n => .tup [.str "add", nD c, nD n]
  | .take c n => .tup [.str "take", nD c, nD n]
  | .clear c => .tup [.str "clear", nD c]
  | .pour c d => .tup [.str "pour", nD c, nD d]
  | .test c => .tup [.str "test", nD c]
def Deed.Ok (lk : List Bool) : Deed → Prop
  | .skip => True
  | .add c n => c < lk.length ∧ 1 ≤ n ∧ n ≤ 9
  | .take c n => c < lk.length ∧ 1 ≤ n ∧ n ≤ 9
  | .clear c => c < lk.length
  | .pour c d => c < lk.length ∧ d < lk.length ∧ c ≠ d
  | .test c => lk[c]? = some true
structure Edge where
  src : Nat
  deed : Deed
  tgt : Nat
  label : Str
def Edge.D (e : Edge) : D := .tup [nD e.src, e.deed.D, nD e.tgt, .str e.label]
structure Mach where
  leaks : List Bool
  edges : List Edge
  start : Nat
  nodes : Nat
def Mach.L (m : Mach) : D := .lst [lstB m.leaks, .lst (m.edges.map Edge.D), nD m.start, nD m.nodes]
def Mach.M (m : Mach) : D := .ins "Machine" [("own_leaks", lstB m.leaks), ("own_edges", .lst (m.edges.map Edge.D)), ("own_start", nD m.start), ("own_nodes", nD m.nodes)]
abbrev Amt := List Nat
abbrev Conf := Nat × Amt
def Conf.D (c : Conf) : D := .tup [nD c.1, tupN c.2]
inductive Move where
  | edge (k : Nat) | lose (c n : Nat)
def Move.D : Move → D
  | .edge k => .tup [.str "edge", nD k]
  | .lose c n => .tup [.str "lose", nD c, nD n]
def Deed.fool : Deed → Amt → Option Amt
  | .skip, as => some as
  | .add c n, as => some (as.set c (as.getD c 0 + n))
  | .take c n, as => if n ≤ as.getD c 0 then some (as.set c (as.getD c 0 - n)) else none
  | .clear c, as => some (as.set c 0)
  | .pour c d, as => some ((as.set d (as.getD d 0 + as.getD c 0)).set c 0)
  | .test c, as => some (as.set c 0)
def Deed.honest : Deed → Amt → Option Amt
  | .test c, as => if as.getD c 0 = 0 then some (as.set c 0) else none
  | d, as => d.fool as
def Deed.done : Deed → Amt → Amt
  | .skip, as => as
  | .add c n, as => as.set c (as.getD c 0 + n)
  | .take c n, as => as.set c (as.getD c 0 - n)
  | .clear c, as => as.set c 0
  | .pour c d, as => (as.set d (as.getD d 0 + as.getD c 0)).set c 0
  | .test c, as => as.set c 0
def Mach.step (m : Mach) (c : Conf) : Move → Option Conf
  | .edge k => match m.edges[k]? with
    | some e => if e.src = c.1 then (e.deed.honest c.2).map fun as => (e.tgt, as) else none
    | none => none
  | .lose i n => if m.leaks[i]? = some true ∧ 1 ≤ n ∧ n ≤ c.2.getD i 0 then some (c.1, c.2.set i (c.2.getD i 0 - n)) else none
def Mach.run (m : Mach) (c : Conf) : List Move → Option Conf
  | [] => some c
  | mv :: mvs => match m.step c mv with
    | some c' => m.run c' mvs
    | none => none
structure Mach.Ok (m : Mach) : Prop where
  lk1 : 1 ≤ m.leaks.length
  lk4 : m.leaks.length ≤ 4
  n1 : 1 ≤ m.nodes
  n100 : m.nodes ≤ 100
  st : m.start < m.nodes
  e200 : m.edges.length ≤ 200
  ed : ∀ e ∈ m.edges, e.src < m.nodes ∧ e.tgt < m.nodes ∧ e.deed.Ok m.leaks
end
end DX

set_option Elab.async false
set_option linter.all false
set_option maxRecDepth 100000
namespace DX
open PySem L2
noncomputable section
def leA (as bs : Amt) : Prop := as.length = bs.length ∧ ∀ i : Nat, as.getD i 0 ≤ bs.getD i 0
theorem leA.refl (as : Amt) : leA as as := ⟨rfl, fun _ => Nat.le_refl _⟩
theorem getD_set (as : Amt) (c n i : Nat) : (as.set c n).getD i 0 = if c = i ∧ i < as.length then n else as.getD i 0 := by
  simp only [List.getD, List.getElem?_set]
  by_cases h : c = i
  · subst h
    by_cases h2 : c < as.length
    · simp [h2]
    · simp [h2]
  · simp [h]
theorem leA.set {as bs : Amt} (h : leA as bs) (c : Nat) {m n : Nat} (hm : m ≤ n) : leA (as.set c m) (bs.set c n) := by
  refine ⟨by simpa using h.1, fun i => ?_⟩
  rw [getD_set, getD_set]
  have := h.1
  have := h.2 i
  split <;> split <;> omega
theorem leA.trans {as bs cs : Amt} (h : leA as bs) (k : leA bs cs) : leA as cs := ⟨h.1.trans k.1, fun i => Nat.le_trans (h.2 i) (k.2 i)⟩
end
end DX

set_option Elab.async false
set_option linter.all false
set_option maxRecDepth 100000
namespace DXH
open PySem PySem.Spec PyProof.Rows L2
section
variable (K : PySem.W.Frag) (a : Addr)
def fdO : Option FuncData := match K.lookup a with
  | some ⟨_, _, .func g, _⟩ => some g
  | _ => none
def ocl : Value := match K.lookup a with
  | some z => z.cls
  | none => .none
def odi : Option Addr := match K.lookup a with
  | some z => z.dict
  | none => none
def osl : Array (Option Value) := match K.lookup a with
  | some z => z.slots
  | none => #[]
def fdv : Value := match fdO K a with
  | some g => g.defaults
  | none => .none
def fkv : Value := match fdO K a with
  | some g => g.kwdefaults
  | none => .none
def fdoc : Value := match fdO K a with
  | some g => g.doc
  | none => .none
def fpm : Value := match fdO K a with
  | some g => g.pyModule
  | none => .none
def fan : Option Addr := match fdO K a with
  | some g => g.annotations
  | none => none
def fcd : Value := match fdO K a with
  | some g => g.code
  | none => .none
def fct : Value := match fdO K a with
  | some g => g.closureTuple
  | none => .none
def sqi : Array Value := match K.lookup a with
  | some ⟨_, _, .seq xs _, _⟩ => xs
  | _ => #[]
def sqn : Nat := match K.lookup a with
  | some ⟨_, _, .seq _ k, _⟩ => k
  | _ => 0
def isSq : Bool := match K.lookup a with
  | some ⟨_, _, .seq _ _, _⟩ => true
  | _ => false
end
def adr : Value → Addr
  | .ref a => a
  | _ => 0
def tkn : Value → Tok
  | .int _ t => t
  | .str _ t => t
  | _ => default
def tkn2 : Option (Option Value) → Tok
  | some (some v) => tkn v
  | _ => default
def prF (K : PySem.W.Frag) (p : Addr) : Addr := match PySem.W.recIn K p "property" with
  | some (v :: _) => adr v
  | _ => 0
def prR (K : PySem.W.Frag) (p : Addr) : List Value := match PySem.W.recIn K p "property" with
  | some (_ :: vs) => vs
  | _ => []
def stF (K : PySem.W.Frag) (p : Addr) : Addr := match PySem.W.recIn K p "staticmethod" with
  | some (v :: _) => adr v
  | _ => 0
def isPr (K : PySem.W.Frag) (p : Addr) : Bool := match PySem.W.recIn K p "property" with
  | some (.ref _ :: _) => true
  | _ => false
theorem isPr_ok {K : PySem.W.Frag} {p : Addr} (h : isPr K p = true) : PySem.W.recIn K p "property" = some (.ref (prF K p) :: prR K p) := by
  unfold isPr at h
  unfold prF prR
  split at h
  · rename_i b vs e
    rw [e]
    rfl
  · cases h
def isGt (o : Option PySem.W.CFound) (g : String) (a b : Addr) : Bool := match o with
  | some (.get (.builtin x) (.ref y) .none (.ref z)) => decide (x = g) && (decide (y = a) && decide (z = b))
  | _ => false
theorem isGt_ok {o : Option PySem.W.CFound} {g : String} {a b : Addr} (h : isGt o g a b = true) : o = some (.get (.builtin g) (.ref a) .none (.ref b)) := by
  unfold isGt at h
  split at h
  · rw [Bool.and_eq_true, Bool.and_eq_true, decide_eq_true_eq, decide_eq_true_eq, decide_eq_true_eq] at h
    obtain ⟨rfl, rfl, rfl⟩ := h
    rfl
  · cases h
theorem isSq_ok {K : PySem.W.Frag} {a : Addr} (h : isSq K a = true) : K.lookup a = some ⟨ocl K a, odi K a, .seq (sqi K a) (sqn K a), osl K a⟩ := by
  unfold isSq at h
  unfold ocl odi sqi sqn osl
  split at h
  · rename_i c d xs k sl e
    rw [e]
  · cases h
abbrev Fw : Type := Option (Str × Str × Arguments × FuncBody × Scope × Addr × List (Str × Addr) × Addr)
def seen (o : Option FuncData) : Fw := o.map fun g => (g.name, g.qualname, g.params, g.body, g.scope, g.globals, g.closure, g.builtins)
structure Df where
  ad : PySem.W.Frag → Addr
  nm : Str
  ql : Str
  ps : Arguments
  bd : List Stmt
  sc : Scope
def Df.due (d : Df) : Fw := some (d.nm, d.ql, d.ps, .stmts d.bd, d.sc, mainGlobals, [], builtinsNs)
theorem look {K : PySem.W.Frag} {a : Addr} {nm ql : Str} {ps : Arguments} {bd : List Stmt} {sc : Scope} {dV kV : Value} (h : seen (fdO K a) = some (nm, ql, ps, .stmts bd, sc, mainGlobals, [], builtinsNs)) (e1 : fdv K a = dV) (e2 : fkv K a = kV) :
    K.lookup a = some ⟨ocl K a, odi K a, .func (PySem.W.fnOf nm ql ps bd sc dV kV (fdoc K a) (fpm K a) (fan K a) (fcd K a) (fct K a)), osl K a⟩ := by
  have e0 : ∃ c d g sl, K.lookup a = some ⟨c, d, .func g, sl⟩ := by
    unfold fdO at h
    split at h
    · rename_i c d g sl e
      exact ⟨c, d, g, sl, e⟩
    · cases h
  obtain ⟨c, d, g, sl, e⟩ := e0
  have eo : fdO K a = some g := by unfold fdO; rw [e]
  rw [eo] at h
  unfold fdv at e1
  unfold fkv at e2
  rw [eo] at e1 e2
  unfold ocl odi osl fdoc fpm fan fcd fct
  rw [eo, e]
  obtain ⟨g1, g2, g3, g4, g5, g6, g7, g8, g9, g10, g11, g12, g13, g14, g15⟩ := g
  have h' : (some (g1, g2, g3, g4, g5, g6, g7, g15) : Fw) = some (nm, ql, ps, .stmts bd, sc, mainGlobals, [], builtinsNs) := h
  simp only [Option.some.injEq, Prod.mk.injEq] at h'
  obtain ⟨q1, q2, q3, q4, q5, q6, q7, q8⟩ := h'
  subst q1 q2 q3 q4 q5 q6 q7 q8
  have e1' : g8 = dV := e1
  have e2' : g9 = kV := e2
  subst e1' e2'
  rfl
abbrev Tb : Type := (PySem.W.Frag → Addr) × List Str
abbrev Al : Type := Bool × List Fw × List (Option (List (Option (Str × Int))))
def look1 (ex : PySem.W.Frag → List Bool) (ds : List Df) (ts : List Tb) (K : PySem.W.Frag) : Al := ((ex K).all id, ds.map (fun d => seen (fdO K (d.ad K))), ts.map fun t => He.dicW K (t.1 K))
def due1 (ds : List Df) (ts : List Tb) (w : World) : Al := (true, ds.map Df.due, ts.map fun t => some (He.keysIn w.params t.2))
def adrs : Value → List Addr
  | .ref a => [a]
  | _ => []
def next1 (z : Obj) : List Addr := match z.data with
  | .dict xs _ => xs.toList.flatMap fun e => adrs e.val
  | .func g => adrs g.code ++ (adrs g.defaults ++ adrs g.kwdefaults) ++ g.closure.map (·.2)
  | .cls cd => [cd.ns]
  | .seq xs _ => xs.toList.flatMap adrs
  | .fields vs => (match z.cls with
    | .type n => if n == "property" || n == "staticmethod" then vs.toList.flatMap adrs else []
    | _ => [])
  | _ => []
def nexts (g : Addr → Option Obj) (l : List Addr) : List Addr := l.flatMap fun a => match g a with
  | some z => next1 z
  | none => []
def reach (g : Addr → Option Obj) : Nat → List Addr → List Addr → List Addr
  | 0, all, _ => all
  | n + 1, all, l => let r := ((nexts g l).eraseDups).filter fun a => !all.contains a
    reach g n (all ++ r) r
def part (n : Nat) (g : Addr → Option Obj) : PySem.W.Frag := He.frG g (reach g n [mainGlobals, cStatics] [mainGlobals])
def hookZ (n : Nat) (ex : PySem.W.Frag → List Bool) (ds : List Df) (ts : List Tb) : PySem.W.Hook where
  α := Al
  obs := fun s => look1 ex ds ts (part n s.heap.get?)
  val := due1 ds ts
  says := fun w h => ∃ K : PySem.W.Frag, K.In h ∧ look1 ex ds ts K = due1 ds ts w
  of := fun _ _ e => ⟨_, He.frG_in, e⟩
  keeps := fun _ _ _ ⟨K, i, c⟩ k => ⟨K, i.keeps k, c⟩
theorem hookZ_eq {n : Nat} {ex : PySem.W.Frag → List Bool} {ds : List Df} {ts : List Tb} {g : Addr → Option Obj} {s : Shared} (h : ∀ a, g a = s.heap.get? a) : look1 ex ds ts (part n g) = (hookZ n ex ds ts).obs s := by
  rw [show g = s.heap.get? from funext h]
  rfl
section
variable {ex : PySem.W.Frag → List Bool} {ds : List Df} {ts : List Tb} {w : World} {K : PySem.W.Frag}
theorem tells (c : look1 ex ds ts K = due1 ds ts w) (i : Nat) {b : Bool} (h : (ex K)[i]? = some b) : b = true := by
  have c1 : (ex K).all id = true := congrArg (fun z : Al => z.1) c
  exact List.all_eq_true.mp c1 b (List.mem_of_getElem? h)
theorem says (c : look1 ex ds ts K = due1 ds ts w) (i : Nat) {P : Prop} [Decidable P] (h : (ex K)[i]? = some (decide P)) : P := of_decide_eq_true (tells c i h)
theorem defs (c : look1 ex ds ts K = due1 ds ts w) (i : Nat) {d : Df} (h : ds[i]? = some d) : seen (fdO K (d.ad K)) = d.due := by
  have c1 : ds.map (fun d => seen (fdO K (d.ad K))) = ds.map Df.due := congrArg (fun z : Al => z.2.1) c
  have c2 := congrArg (fun l => l[i]?) c1
  simp only [List.getElem?_map, h, Option.map_some] at c2
  exact Option.some.inj c2
theorem tabs (c : look1 ex ds ts K = due1 ds ts w) (i : Nat) {t : Tb} (h : ts[i]? = some t) : ∃ es n, KDict K w (t.1 K) es n := by
  have c1 : ts.map (fun t => He.dicW K (t.1 K)) = ts.map (fun t => some (He.keysIn w.params t.2)) := congrArg (fun z : Al => z.2.2) c
  have c2 := congrArg (fun l => l[i]?) c1
  simp only [List.getElem?_map, h, Option.map_some] at c2
  exact He.dicW_ok (Option.some.inj c2)
end
theorem walk_end {l : PySem.W.OpenLaw} {n k : Nat} {q : Program} {loose : List Str} {XP : (Str → Option Value) → Heap → Prop} {YP : World → Heap → Prop} {d : DefRec} {CX : World → CXT} {x : Str}
    (hn : l.most = some n) (hn2 : n ≤ sizeLine) (hdf : d.params.defaults = []) (hr : Room k callerA)
    (F : ∀ (w : World) (mg : Str → Option Value) (fa : Addr) (h : Heap), YP w h → h.Ns mainGlobals mg → mg d.name = some (.ref fa) →
      ∃ (K : PySem.W.Frag) (g : FuncData) (sp : Sp), K.In h ∧ (∀ (s : Shared) (u : Value), BindsTo s g ⟨[u], []⟩ [(x, u)]) ∧
        (∀ (H : Hp) (a : Addr) (ns : List Int), ns.length ≤ n → Only H → SqL K H a (ns.map V.int) → sp [.ref a] H (fun v _ => v = .bl true) fun _ _ _ => False) ∧
        ∀ base : Heap, K.In base → base.Ns mainGlobals mg → FnOk l.prog w K mg base (CX w) k fa g [x] sp)
    (hCX : ∀ (w : World) (H : Hp) (s : Shared) (e : Value) (s' : Shared), CX w [] H s (fun _ _ _ => False) e s' → False) :
    PySem.W.WalkO q loose XP YP l.row.toRowW d [] (fun f vs => PySem.call f vs) := by
  refine Att.attach_call hn hdf fun w t0 t1 mg mb fa o pm cd doc a us ns T Y ho hd hcd hmg hobj hints hlen hg => ?_
  obtain ⟨K, g, sp, iK, hb, hsp, hF⟩ := F w mg fa _ Y T.T.g hmg
  exact law_call iK T.T.g T.T.b T.T.builtins T.T.nolimit hg hobj hints (Nat.le_trans hlen hn2) hr hF hb (fun H hO hS => hsp H a ns hlen hO hS) fun H e s' => hCX w H t1 e s'
end DXH

set_option Elab.async false
set_option linter.all false
set_option maxRecDepth 100000
set_option maxHeartbeats 4000000
namespace L03
open PySem PySem.Spec PyProof.Rows L2 DX
def topS (i : Nat) : Stmt := PySem.Challenge.pw_fooledtest_k03_regions_made.main.body.getD i (.Pass ⟨0, 0, 0, 0⟩)
abbrev st_law_bag : Stmt := topS 14
abbrev N_law_bag : List Str := ["_law_script", "_law_seed", "_law_cell"]
theorem sc_law_bag : FnScope N_law_bag ["_law_script"] (defScope st_law_bag) := ⟨rfl, rfl, rfl, by decide +kernel, rfl, by decide +kernel, by decide +kernel⟩
abbrev st_law_pull : Stmt := topS 15
abbrev N_law_pull : List Str := ["_law_bag_here", "_law_many", "_law_cell", "_law_digit", "_law_square"]
theorem sc_law_pull : FnScope N_law_pull ["_law_bag_here", "_law_many"] (defScope st_law_pull) := ⟨rfl, rfl, rfl, by decide +kernel, rfl, by decide +kernel, by decide +kernel⟩
abbrev st_law_few : Stmt := topS 19
abbrev N_law_few : List Str := ["_law_bag_here", "_law_width_z", "_law_most", "_law_k"]
theorem sc_law_few : FnScope N_law_few ["_law_bag_here", "_law_width_z", "_law_most"] (defScope st_law_few) := ⟨rfl, rfl, rfl, by decide +kernel, rfl, by decide +kernel, by decide +kernel⟩
abbrev st_law_rows : Stmt := topS 21
abbrev N_law_rows : List Str := ["_law_bag_here", "_law_width_z", "_law_many", "_law_most", "_law_k"]
theorem sc_law_rows : FnScope N_law_rows ["_law_bag_here", "_law_width_z", "_law_many", "_law_most"] (defScope st_law_rows) := ⟨rfl, rfl, rfl, by decide +kernel, rfl, by decide +kernel, by decide +kernel⟩
abbrev st_law_under : Stmt := topS 20
abbrev N_law_under : List Str := ["_law_one", "_law_other", "_law_k"]
theorem sc_law_under : FnScope N_law_under ["_law_one", "_law_other"] (defScope st_law_under) := ⟨rfl, rfl, rfl, by decide +kernel, rfl, by decide +kernel, by decide +kernel⟩
abbrev st_law_smallest : Stmt := topS 22
abbrev N_law_smallest : List Str := ["_law_rows_z", "_law_found", "_law_row", "_law_other"]
theorem sc_law_smallest : FnScope N_law_smallest ["_law_rows_z"] (defScope st_law_smallest) := ⟨rfl, rfl, rfl, by decide +kernel, rfl, by decide +kernel, by decide +kernel⟩
abbrev st_is_number : Stmt := topS 8
abbrev N_is_number : List Str := ["value", "least", "most"]
theorem sc_is_number : FnScope N_is_number ["value", "least", "most"] (defScope st_is_number) := ⟨rfl, rfl, rfl, by decide +kernel, rfl, by decide +kernel, by decide +kernel⟩
abbrev st_is_row : Stmt := topS 9
abbrev N_is_row : List Str := ["width", "value", "amount"]
theorem sc_is_row : FnScope N_is_row ["width", "value"] (defScope st_is_row) := ⟨rfl, rfl, rfl, by decide +kernel, rfl, by decide +kernel, by decide +kernel⟩
abbrev st_is_below : Stmt := topS 10
abbrev N_is_below : List Str := ["one", "other", "less", "more"]
theorem sc_is_below : FnScope N_is_below ["one", "other"] (defScope st_is_below) := ⟨rfl, rfl, rfl, by decide +kernel, rfl, by decide +kernel, by decide +kernel⟩
abbrev st_least_rows : Stmt := topS 11
abbrev N_least_rows : List Str := ["rows", "found", "row", "other"]
theorem sc_least_rows : FnScope N_least_rows ["rows"] (defScope st_least_rows) := ⟨rfl, rfl, rfl, by decide +kernel, rfl, by decide +kernel, by decide +kernel⟩
abbrev st_Region_init : Stmt := inClass (topS 12) 0
abbrev N_Region_init : List Str := ["self", "width", "rows", "row"]
theorem sc_Region_init : FnScope N_Region_init ["self", "width", "rows"] (defScope st_Region_init) := ⟨rfl, rfl, rfl, by decide +kernel, rfl, by decide +kernel, by decide +kernel⟩
abbrev st_Region_repr : Stmt := inClass (topS 12) 12
abbrev N_Region_repr : List Str := ["self"]
theorem sc_Region_repr : FnScope N_Region_repr ["self"] (defScope st_Region_repr) := ⟨rfl, rfl, rfl, by decide +kernel, rfl, by decide +kernel, by decide +kernel⟩
abbrev st_Region_bool : Stmt := inClass (topS 12) 10
abbrev N_Region_bool : List Str := ["self"]
theorem sc_Region_bool : FnScope N_Region_bool ["self"] (defScope st_Region_bool) := ⟨rfl, rfl, rfl, by decide +kernel, rfl, by decide +kernel, by decide +kernel⟩
abbrev st_Region_len : Stmt := inClass (topS 12) 11
abbrev N_Region_len : List Str := ["self"]
theorem sc_Region_len : FnScope N_Region_len ["self"] (defScope st_Region_len) := ⟨rfl, rfl, rfl, by decide +kernel, rfl, by decide +kernel, by decide +kernel⟩
abbrev st_Region_rows : Stmt := inClass (topS 12) 3
abbrev N_Region_rows : List Str := ["self"]
theorem sc_Region_rows : FnScope N_Region_rows ["self"] (defScope st_Region_rows) := ⟨rfl, rfl, rfl, by decide +kernel, rfl, by decide +kernel, by decide +kernel⟩
abbrev st_Region_width : Stmt := inClass (topS 12) 2
abbrev N_Region_width : List Str := ["self"]
theorem sc_Region_width : FnScope N_Region_width ["self"] (defScope st_Region_width) := ⟨rfl, rfl, rfl, by decide +kernel, rfl, by decide +kernel, by decide +kernel⟩
abbrev st_law_same : Stmt := topS 18
abbrev N_law_same : List Str := ["_law_found", "_law_due", "_law_one", "_law_other"]
theorem sc_law_same : FnScope N_law_same ["_law_found", "_law_due"] (defScope st_law_same) := ⟨rfl, rfl, rfl, by decide +kernel, rfl, by decide +kernel, by decide +kernel⟩
abbrev st_Region_contains : Stmt := inClass (topS 12) 5
abbrev N_Region_contains : List Str := ["self", "value", "row"]
theorem sc_Region_contains : FnScope N_Region_contains ["self", "value"] (defScope st_Region_contains) := ⟨rfl, rfl, rfl, by decide +kernel, rfl, by decide +kernel, by decide +kernel⟩
abbrev st_law_holds : Stmt := topS 23
abbrev N_law_holds : List Str := ["_law_rows_z", "_law_row", "_law_less"]
theorem sc_law_holds : FnScope N_law_holds ["_law_rows_z", "_law_row"] (defScope st_law_holds) := ⟨rfl, rfl, rfl, by decide +kernel, rfl, by decide +kernel, by decide +kernel⟩
abbrev st_law_pick : Stmt := topS 16
abbrev N_law_pick : List Str := ["_law_bag_here", "_law_row"]
theorem sc_law_pick : FnScope N_law_pick ["_law_bag_here", "_law_row"] (defScope st_law_pick) := ⟨rfl, rfl, rfl, by decide +kernel, rfl, by decide +kernel, by decide +kernel⟩
abbrev st_Region_full : Stmt := inClass (topS 12) 1
abbrev N_Region_full : List Str := ["width"]
theorem sc_Region_full : FnScope N_Region_full ["width"] (defScope st_Region_full) := ⟨rfl, rfl, rfl, by decide +kernel, rfl, by decide +kernel, by decide +kernel⟩
abbrev st_law_mixed : Stmt := topS 17
abbrev N_law_mixed : List Str := ["_law_bag_here", "_law_row", "_law_left", "_law_found", "_law_turn"]
theorem sc_law_mixed : FnScope N_law_mixed ["_law_bag_here", "_law_row"] (defScope st_law_mixed) := ⟨rfl, rfl, rfl, by decide +kernel, rfl, by decide +kernel, by decide +kernel⟩
abbrev st_Region_eq : Stmt := inClass (topS 12) 9
abbrev N_Region_eq : List Str := ["self", "other"]
theorem sc_Region_eq : FnScope N_Region_eq ["self", "other"] (defScope st_Region_eq) := ⟨rfl, rfl, rfl, by decide +kernel, rfl, by decide +kernel, by decide +kernel⟩
abbrev st_law : Stmt := topS 24
abbrev N_law : List Str := ["_law_script", "_law_bag_here", "_law_turn", "_law_width_z", "_law_rows_z", "_law_handed", "_law_due", "_law_made", "_law_again", "_law_found", "_law_row", "_law_odd", "_law_other", "_law_late"]
theorem sc_law : FnScope N_law ["_law_script"] (defScope st_law) := ⟨rfl, rfl, rfl, by decide +kernel, rfl, by decide +kernel, by decide +kernel⟩
abbrev isi_cs : List String := ["Region"]
def isi_sub (a b : String) : Bool := [("Region", "Region")].contains (a, b)
def dd_Region_init_2 : List W := [.d (.tup [])]
def dd_is_number_2 : List W := [.d (.non)]
theorem w_is_number_2 {K : PySem.W.Frag} {G : Hp} : Wvs K G [.non] dd_is_number_2 := (.cons (.d .non) .nil)
def gV_Region_full_0_width (us ws : List V) : List V := atL ws 0
def gd_Region_full_0_width (ws : List W) : List W := atL ws 0
theorem gw_Region_full_0_width {K : PySem.W.Frag} {G : Hp} {vs zs : List V} {ws us : List W} (h : Wvs K G vs ws) (k : Wvs K G zs us) (hl : ws.length = 0) : Wvs K G (gV_Region_full_0_width vs zs) (gd_Region_full_0_width (ws ++ us)) := (by unfold gV_Region_full_0_width gd_Region_full_0_width; rw [atL_r hl (show 0 = 0 + 0 from rfl)]; exact wvs_atL k 0)
def gV_Region_init_1_rows_width (us ws : List V) : List V := atL us 0 ++ (atL ws 1 ++ (atL ws 0))
def gd_Region_init_1_rows_width (ws : List W) : List W := atL ws 0 ++ (atL ws 2 ++ (atL ws 1))
theorem gw_Region_init_1_rows_width {K : PySem.W.Frag} {G : Hp} {vs zs : List V} {ws us : List W} (h : Wvs K G vs ws) (k : Wvs K G zs us) (hl : ws.length = 1) : Wvs K G (gV_Region_init_1_rows_width vs zs) (gd_Region_init_1_rows_width (ws ++ us)) := (Wvs.append (by rw [atL_l hl (by decide)]; exact wvs_atL h 0) (Wvs.append (by rw [atL_r hl (show 2 = 1 + 1 from rfl)]; exact wvs_atL k 1) (by rw [atL_r hl (show 1 = 1 + 0 from rfl)]; exact wvs_atL k 0)))
def gi_Region_init_1_rows_width (ws : List W) : List W := atL ws 1 ++ (atL ws 0)
theorem giw_Region_init_1_rows_width {K : PySem.W.Frag} {G : Hp} {o : V} {vs zs : List V} {ws us : List W} (h : Wvs K G vs ws) (k : Wvs K G zs us) (hl : ws.length = 0) : Wvs K G (gV_Region_init_1_rows_width (o :: vs) zs).tail (gi_Region_init_1_rows_width (ws ++ us)) := (show Wvs K G (atL zs 1 ++ (atL zs 0)) (gi_Region_init_1_rows_width (ws ++ us)) from (Wvs.append (by rw [atL_r hl (show 1 = 0 + 1 from rfl)]; exact wvs_atL k 1) (by rw [atL_r hl (show 0 = 0 + 0 from rfl)]; exact wvs_atL k 0)))
theorem gv_Region_init_1_rows_width (o : V) (us uz : List V) : gV_Region_init_1_rows_width (o :: us) uz = o :: (gV_Region_init_1_rows_width (o :: us) uz).tail := rfl
def m_law_pull : SM :=
  (mCons (mAsg (mOp (oAdd false) (mOp oIx (mVar 0) (mC (.int 4))) (mC (.int 1))) (tgSub (mVar 0) (mC (.int 4))))
  (mCons (mIfS (mAnd (mBl (mOp oEq (mOp oIx (mVar 0) (mC (.int 2))) (mC (.int 0)))) (mBl (mOp oLt (mOp oIx (mVar 0) (mC (.int 1))) (mCB bLen (aCons (mOp oIx (mVar 0) (mC (.int 0))) aNil)))))
  (mCons (mSet 2 (mOp oIx (mOp oIx (mVar 0) (mC (.int 0))) (mOp oIx (mVar 0) (mC (.int 1)))))
  (mCons (mAsg (mOp (oAdd false) (mOp oIx (mVar 0) (mC (.int 1))) (mC (.int 1))) (tgSub (mVar 0) (mC (.int 1))))
  (mIfS (mBl (mOp oGe (mVar 2) (mOp oPow (mC (.int 10)) (mC (.int 18)))))
  (mAsg (mVar 2) (tgSub (mVar 0) (mC (.int 2))))
  (mAsg (mOp oMod (mCB bInt (aCons (mOp (oAdd false) (mOp (oAdd false) (mOp (oMul false) (mOp oIx (mVar 0) (mC (.int 3))) (mC (.int 40013))) (mOp (oMul false) (mOp oMod (mCB bInt (aCons (mVar 2) aNil)) (mC (.int 2147483579))) (mC (.int 977)))) (mC (.int 31))) aNil)) (mC (.int 2147483629))) (tgSub (mVar 0) (mC (.int 3)))))))
  mNil)
  (mCons (mIfS (mBl (mOp oGt (mOp oIx (mVar 0) (mC (.int 2))) (mC (.int 0))))
  (mCons (mSet 3 (mOp oMod (mCB bInt (aCons (mOp oIx (mVar 0) (mC (.int 2))) aNil)) (mVar 1)))
  (mCons (mAsg (mOp oDiv (mCB bInt (aCons (mOp oIx (mVar 0) (mC (.int 2))) aNil)) (mVar 1)) (tgSub (mVar 0) (mC (.int 2))))
  (mRet (mVar 3))))
  mNil)
  (mCons (mSet 4 (mOp oMod (mCB bInt (aCons (mOp (oAdd false) (mOp (oMul false) (mOp oIx (mVar 0) (mC (.int 3))) (mOp oIx (mVar 0) (mC (.int 3)))) (mOp (oMul false) (mOp oIx (mVar 0) (mC (.int 4))) (mC (.int 7001)))) aNil)) (mC (.int 2147483587))))
  (mCons (mAsg (mOp oMod (mCB bInt (aCons (mOp (oAdd false) (mOp (oAdd false) (mOp (oMul false) (mVar 4) (mC (.int 30011))) (mOp (oMul false) (mOp oIx (mVar 0) (mC (.int 3))) (mC (.int 613)))) (mC (.int 5))) aNil)) (mC (.int 2147483629))) (tgSub (mVar 0) (mC (.int 3))))
  (mRet (mOp oMod (mCB bInt (aCons (mOp oDiv (mOp oIx (mVar 0) (mC (.int 3))) (mC (.int 97))) aNil)) (mVar 1))))))))
def sp_law_pull : DSp := bodyD 2 5 m_law_pull
theorem len_law_pull (ws S P X) (h : sp_law_pull ws S P X) : ws.length = 2 := h.1
def m_law_few : SM :=
  (mRet (mCB bTup (aCons (mLc false [3] (itRng1 (aCons (mVar 1) aNil)) (tgN 3) mYes (mCall sp_law_pull (aCons (mVar 0) (aCons (mOp (oAdd false) (mVar 2) (mC (.int 1))) aNil)))) aNil)))
def sp_law_few : DSp := bodyD 3 4 m_law_few
theorem len_law_few (ws S P X) (h : sp_law_few ws S P X) : ws.length = 3 := h.1
def m_law_rows : SM :=
  (mRet (mLc false [4] (itRng1 (aCons (mCall sp_law_pull (aCons (mVar 0) (aCons (mOp (oAdd false) (mVar 2) (mC (.int 1))) aNil))) aNil)) (tgN 4) mYes (mCall sp_law_few (aCons (mVar 0) (aCons (mVar 1) (aCons (mVar 3) aNil))))))
def sp_law_rows : DSp := bodyD 4 5 m_law_rows
theorem len_law_rows (ws S P X) (h : sp_law_rows ws S P X) : ws.length = 4 := h.1
def m_law_under : SM :=
  (mRet (mCB bAll (aCons (mLc false [2] (itRng1 (aCons (mCB bLen (aCons (mVar 1) aNil)) aNil)) (tgN 2) mYes (mOp oLe (mOp oIx (mVar 0) (mVar 2)) (mOp oIx (mVar 1) (mVar 2)))) aNil)))
def sp_law_under : DSp := bodyD 2 3 m_law_under
theorem len_law_under (ws S P X) (h : sp_law_under ws S P X) : ws.length = 2 := h.1
def m_law_smallest : SM :=
  (mCons (mSet 1 (mLst true aNil))
  (mCons (mFor (itSeq (mSortR (mVar 0))) (tgN 2)
  (mIfS (mAnd (mBl (mOp oNin (mVar 2) (mVar 1))) (mNot (mTru (mCB bAny (aCons (mLc false [3] (itSeq (mVar 0)) (tgN 3) mYes (mAndV (mOp oNe (mVar 3) (mVar 2)) (mCall sp_law_under (aCons (mVar 3) (aCons (mVar 2) aNil))))) aNil)))))
  (mDrp (mBM "list" omAppend (mVar 1) (aCons (mVar 2) aNil)))
  mNil))
  (mRet (mFrz (mVar 1)))))
def sp_law_smallest : DSp := bodyD 1 4 m_law_smallest
theorem len_law_smallest (ws S P X) (h : sp_law_smallest ws S P X) : ws.length = 1 := h.1
def m_is_number : SM :=
  (mCons (mIfS (mOr (mNot (mTru (mCB (bIsi isi_cs isi_sub) (aCons (mVar 0) (aCons (mC (.ty "int")) aNil))))) (mTru (mCB (bIsi isi_cs isi_sub) (aCons (mVar 0) (aCons (mC (.ty "bool")) aNil)))))
  (mRet (mC (.bl false)))
  mNil)
  (mRet (mAndV (mOp oLe (mVar 1) (mVar 0)) (mOrV (mOp oIsN (mVar 2) (mC .non)) (mOp oLe (mVar 0) (mVar 2))))))
def sp_is_number : DSp := bodyD 3 3 m_is_number
theorem len_is_number (ws S P X) (h : sp_is_number ws S P X) : ws.length = 3 := h.1
def m_is_row : SM :=
  (mRet (mAndV (mCB (bIsi isi_cs isi_sub) (aCons (mVar 1) (aCons (mC (.ty "tuple")) aNil))) (mAndV (mOp oEq (mCB bLen (aCons (mVar 1) aNil)) (mVar 0)) (mCB bAll (aCons (mLc false [2] (itSeq (mVar 1)) (tgN 2) mYes (mCall (fun ws => sp_is_number (ws ++ dd_is_number_2)) (aCons (mVar 2) (aCons (mC (.int 0)) aNil)))) aNil)))))
def sp_is_row : DSp := bodyD 2 3 m_is_row
theorem len_is_row (ws S P X) (h : sp_is_row ws S P X) : ws.length = 2 := h.1
def m_is_below : SM :=
  (mRet (mCB bAll (aCons (mLc false [2, 3] (itZip (aCons (mVar 0) (aCons (mVar 1) aNil))) (tgT 2 (tgsCons (tgN 2) (tgsCons (tgN 3) tgsNil))) mYes (mOp oLe (mVar 2) (mVar 3))) aNil)))
def sp_is_below : DSp := bodyD 2 4 m_is_below
theorem len_is_below (ws S P X) (h : sp_is_below ws S P X) : ws.length = 2 := h.1
def m_least_rows : SM :=
  (mCons (mSet 1 (mLst true aNil))
  (mCons (mFor (itSeq (mSortS (mVar 0))) (tgN 2)
  (mIfS (mNot (mTru (mCB bAny (aCons (mLc false [3] (itSeq (mVar 1)) (tgN 3) mYes (mCall sp_is_below (aCons (mVar 3) (aCons (mVar 2) aNil)))) aNil))))
  (mDrp (mBM "list" omAppend (mVar 1) (aCons (mVar 2) aNil)))
  mNil))
  (mRet (mVar 1))))
def sp_least_rows : DSp := bodyD 1 4 m_least_rows
theorem len_least_rows (ws S P X) (h : sp_least_rows ws S P X) : ws.length = 1 := h.1
def m_Region_init : SM :=
  (mCons (mIfS (mNot (mTru (mCall sp_is_number (aCons (mVar 1) (aCons (mC (.int 1)) (aCons (mC (.int 4)) aNil))))))
  mNoS
  mNil)
  (mCons (mFor (itSeq (mVar 2)) (tgN 3)
  (mIfS (mNot (mTru (mCall sp_is_row (aCons (mVar 1) (aCons (mVar 3) aNil)))))
  mNoS
  mNil))
  (mCons (mFldS "own_width" ["Region"] (mVar 0) (mVar 1))
  (mFldS "own_least" ["Region"] (mVar 0) (mFrz (mCall sp_least_rows (aCons (mVar 2) aNil)))))))
def sp_Region_init : DSp := bodyD 3 4 m_Region_init
theorem len_Region_init (ws S P X) (h : sp_Region_init ws S P X) : ws.length = 3 := h.1
def m_Region_repr : SM :=
  (mRet (mJs (jCons (mC (.str "Region(")) (jCons (mFmt (mCB bLen (aCons (mAttr "own_least" (("Region", .fld) :: []) (mVar 0)) aNil))) (jCons (mC (.str " rows)")) jNil)))))
def sp_Region_repr : DSp := bodyD 1 1 m_Region_repr
theorem len_Region_repr (ws S P X) (h : sp_Region_repr ws S P X) : ws.length = 1 := h.1
def m_Region_bool : SM :=
  (mRet (mOp oGt (mCB bLen (aCons (mAttr "own_least" (("Region", .fld) :: []) (mVar 0)) aNil)) (mC (.int 0))))
def sp_Region_bool : DSp := bodyD 1 1 m_Region_bool
theorem len_Region_bool (ws S P X) (h : sp_Region_bool ws S P X) : ws.length = 1 := h.1
def m_Region_len : SM :=
  (mRet (mCB bLen (aCons (mAttr "own_least" (("Region", .fld) :: []) (mVar 0)) aNil)))
def sp_Region_len : DSp := bodyD 1 1 m_Region_len
theorem len_Region_len (ws S P X) (h : sp_Region_len ws S P X) : ws.length = 1 := h.1
def m_Region_rows : SM :=
  (mRet (mCB (bList true) (aCons (mAttr "own_least" (("Region", .fld) :: []) (mVar 0)) aNil)))
def sp_Region_rows : DSp := bodyD 1 1 m_Region_rows
theorem len_Region_rows (ws S P X) (h : sp_Region_rows ws S P X) : ws.length = 1 := h.1
def m_Region_width : SM :=
  (mRet (mAttr "own_width" (("Region", .fld) :: []) (mVar 0)))
def sp_Region_width : DSp := bodyD 1 1 m_Region_width
theorem len_Region_width (ws S P X) (h : sp_Region_width ws S P X) : ws.length = 1 := h.1
def m_law_same (r : DSp) : SM :=
  (mCons (mIfS (mTru (mIsiT isi_cs isi_sub (mVar 1) (aCons (mC (.ty "list")) (aCons (mC (.ty "tuple")) aNil))))
  (mCons (mIfS (mOr (mBl (mOp oNe (mCB (bIsi isi_cs isi_sub) (aCons (mVar 0) (aCons (mC (.ty "list")) aNil))) (mCB (bIsi isi_cs isi_sub) (aCons (mVar 1) (aCons (mC (.ty "list")) aNil))))) (mBl (mOp oNe (mCB (bIsi isi_cs isi_sub) (aCons (mVar 0) (aCons (mC (.ty "tuple")) aNil))) (mCB (bIsi isi_cs isi_sub) (aCons (mVar 1) (aCons (mC (.ty "tuple")) aNil))))))
  (mRet (mC (.bl false)))
  mNil)
  (mRet (mAndV (mOp oEq (mCB bLen (aCons (mVar 0) aNil)) (mCB bLen (aCons (mVar 1) aNil))) (mCB bAll (aCons (mLc false [2, 3] (itZip (aCons (mVar 0) (aCons (mVar 1) aNil))) (tgT 2 (tgsCons (tgN 2) (tgsCons (tgN 3) tgsNil))) mYes (mCall r (aCons (mVar 2) (aCons (mVar 3) aNil)))) aNil)))))
  mNil)
  (mCons (mIfS (mOr (mBl (mOp oIsN (mVar 1) (mC .non))) (mBl (mOp oIsN (mVar 0) (mC .non))))
  (mRet (mAndV (mOp oIsN (mVar 1) (mC .non)) (mOp oIsN (mVar 0) (mC .non))))
  mNil)
  (mCons (mIfS (mOr (mBl (mOp oNe (mCB (bIsi isi_cs isi_sub) (aCons (mVar 1) (aCons (mC (.ty "bool")) aNil))) (mCB (bIsi isi_cs isi_sub) (aCons (mVar 0) (aCons (mC (.ty "bool")) aNil))))) (mBl (mOp oNe (mCB (bIsi isi_cs isi_sub) (aCons (mVar 1) (aCons (mC (.ty "int")) aNil))) (mCB (bIsi isi_cs isi_sub) (aCons (mVar 0) (aCons (mC (.ty "int")) aNil))))))
  (mRet (mC (.bl false)))
  mNil)
  (mRet (mAndV (mOp oEq (mCB (bIsi isi_cs isi_sub) (aCons (mVar 1) (aCons (mC (.ty "str")) aNil))) (mCB (bIsi isi_cs isi_sub) (aCons (mVar 0) (aCons (mC (.ty "str")) aNil)))) (mOp oEq (mVar 0) (mVar 1)))))))
def spn_law_same : Nat → DSp
  | 0 => fun _ _ _ _ => False
  | n + 1 => bodyD 2 4 (m_law_same (spn_law_same n))
def sp_law_same : DSp := spn_law_same 4
def m_Region_contains : SM :=
  (mRet (mAndV (mCall sp_is_row (aCons (mAttr "own_width" (("Region", .fld) :: []) (mVar 0)) (aCons (mVar 1) aNil))) (mCB bAny (aCons (mLc false [2] (itSeq (mAttr "own_least" (("Region", .fld) :: []) (mVar 0))) (tgN 2) mYes (mCall sp_is_below (aCons (mVar 2) (aCons (mVar 1) aNil)))) aNil))))
def sp_Region_contains : DSp := bodyD 2 3 m_Region_contains
theorem len_Region_contains (ws S P X) (h : sp_Region_contains ws S P X) : ws.length = 2 := h.1
def m_law_holds : SM :=
  (mRet (mCB bAny (aCons (mLc false [2] (itSeq (mVar 0)) (tgN 2) mYes (mCall sp_law_under (aCons (mVar 2) (aCons (mVar 1) aNil)))) aNil)))
def sp_law_holds : DSp := bodyD 2 3 m_law_holds
theorem len_law_holds (ws S P X) (h : sp_law_holds ws S P X) : ws.length = 2 := h.1
def m_law_pick : SM :=
  (mRet (mOp oIx (mVar 1) (mCall sp_law_pull (aCons (mVar 0) (aCons (mCB bLen (aCons (mVar 1) aNil)) aNil)))))
def sp_law_pick : DSp := bodyD 2 2 m_law_pick
theorem len_law_pick (ws S P X) (h : sp_law_pick ws S P X) : ws.length = 2 := h.1
def m_Region_full : SM :=
  (mCons (mIfS (mNot (mTru (mCall sp_is_number (aCons (mVar 0) (aCons (mC (.int 1)) (aCons (mC (.int 4)) aNil))))))
  mNoS
  mNil)
  (mRet (mFrz (mCall (mkD "Region" sp_Region_init) (aCons (mVar 0) (aCons (mLst false (aCons (mOp (oMul false) (mTup (aCons (mC (.int 0)) aNil)) (mVar 0)) aNil)) aNil))))))
def sp_Region_full : DSp := bodyD 1 1 m_Region_full
theorem len_Region_full (ws S P X) (h : sp_Region_full ws S P X) : ws.length = 1 := h.1
def m_law_mixed : SM :=
  (mCons (mPar 2 3 (aCons (mCB (bList true) (aCons (mVar 1) aNil)) (aCons (mLst true aNil) aNil)))
  (mCons (mFor (itRng1 (aCons (mCB bLen (aCons (mVar 2) aNil)) aNil)) (tgN 4)
  (mDrp (mBM "list" omAppend (mVar 3) (aCons (mBM "list" omPopAt (mVar 2) (aCons (mCall sp_law_pull (aCons (mVar 0) (aCons (mCB bLen (aCons (mVar 2) aNil)) aNil))) aNil)) aNil))))
  (mRet (mVar 3))))
def sp_law_mixed : DSp := bodyD 2 5 m_law_mixed
theorem len_law_mixed (ws S P X) (h : sp_law_mixed ws S P X) : ws.length = 2 := h.1
def m_Region_eq : SM :=
  (mRet (mAndV (mCB (bIsi isi_cs isi_sub) (aCons (mVar 1) (aCons (mC (.cls "Region")) aNil))) (mOp oEq (mTup (aCons (mAttr "own_width" (("Region", .fld) :: []) (mVar 0)) (aCons (mAttr "own_least" (("Region", .fld) :: []) (mVar 0)) aNil))) (mTup (aCons (mAttr "own_width" (("Region", .fld) :: []) (mVar 1)) (aCons (mAttr "own_least" (("Region", .fld) :: []) (mVar 1)) aNil))))))
def sp_Region_eq : DSp := bodyD 2 2 m_Region_eq
theorem len_Region_eq (ws S P X) (h : sp_Region_eq ws S P X) : ws.length = 2 := h.1
def m_law : SM :=
  (mCons (mFor (itRng1 (aCons (mC (.int 4)) aNil)) (tgN 2)
  (mCons (mSet 3 (mOp (oAdd false) (mC (.int 1)) (mCall sp_law_pull (aCons (mVar 1) (aCons (mC (.int 4)) aNil)))))
  (mCons (mSet 4 (mCall sp_law_rows (aCons (mVar 1) (aCons (mVar 3) (aCons (mC (.int 6)) (aCons (mC (.int 4)) aNil))))))
  (mCons (mPar 5 6 (aCons (mCB (bList true) (aCons (mVar 4) aNil)) (aCons (mCall sp_law_smallest (aCons (mVar 4) aNil)) aNil)))
  (mCons (mSet 7 (mFrz (mCall (mkD "Region" sp_Region_init) (aCons (mVar 3) (aCons (mVar 5) aNil)))))
  (mCons (mDrp (mBM "list" omAppend (mVar 5) (aCons (mOp (oMul false) (mTup (aCons (mC (.int 9)) aNil)) (mVar 3)) aNil)))
  (mCons (mFor (itRng1 (aCons (mC (.int 2)) aNil)) (tgN 8)
  (mCons (mSet 9 (mLst false (aCons (mAttr "width" (("Region", .prp sp_Region_width) :: []) (mVar 7)) (aCons (mFrz (mMeth "rows" (("Region", sp_Region_rows) :: []) (mVar 7) aNil)) (aCons (mLenO (("Region", sp_Region_len) :: []) (aCons (mVar 7) aNil)) (aCons (mBoolO "Region" sp_Region_bool (aCons (mVar 7) aNil)) (aCons (mReprO "Region" sp_Region_repr (aCons (mVar 7) aNil)) aNil)))))))
  (mCons (mIfS (mNot (mTru (mCall sp_law_same (aCons (mVar 9) (aCons (mLst false (aCons (mVar 3) (aCons (mVar 6) (aCons (mCB bLen (aCons (mVar 6) aNil)) (aCons (mOp oNe (mVar 6) (mLst false aNil)) (aCons (mOp (oAdd false) (mOp (oAdd false) (mC (.str "Region(")) (mCB bStr (aCons (mCB bLen (aCons (mVar 6) aNil)) aNil))) (mC (.str " rows)"))) aNil)))))) aNil)))))
  (mRet (mC (.bl false)))
  mNil)
  (mDrp (mBM "list" omAppend (mMeth "rows" (("Region", sp_Region_rows) :: []) (mVar 7) aNil) (aCons (mOp (oMul false) (mTup (aCons (mC (.int 0)) aNil)) (mVar 3)) aNil))))))
  (mCons (mFor (itSeq (mOp (oAdd false) (mOp (oAdd false) (mCall sp_law_rows (aCons (mVar 1) (aCons (mVar 3) (aCons (mC (.int 6)) (aCons (mC (.int 5)) aNil))))) (mVar 4)) (mLst false (aCons (mOp (oMul false) (mTup (aCons (mC (.int 0)) aNil)) (mVar 3)) (aCons (mOp (oMul false) (mTup (aCons (mOp oPow (mC (.int 10)) (mC (.int 9))) aNil)) (mVar 3)) aNil))))) (tgN 10)
  (mIfS (mBl (mOp oNe (mOp (oInOwn "Region" id sp_Region_contains) (mVar 10) (mVar 7)) (mCall sp_law_holds (aCons (mVar 4) (aCons (mVar 10) aNil)))))
  (mRet (mC (.bl false)))
  mNil))
  (mCons (mSet 11 (mCall sp_law_pick (aCons (mVar 1) (aCons (mLst false (aCons (mC .non) (aCons (mC (.int 3)) (aCons (mC (.str "a")) (aCons (mC (.bl true)) (aCons (mTup aNil) (aCons (mOp (oMul false) (mTup (aCons (mC (.int 0)) aNil)) (mOp (oAdd false) (mVar 3) (mC (.int 1)))) (aCons (mOp (oMul false) (mLst false (aCons (mC (.int 0)) aNil)) (mVar 3)) (aCons (mOp (oMul false) (mTup (aCons (mC (.bl true)) aNil)) (mVar 3)) (aCons (mOp (oAdd false) (mOp (oMul false) (mTup (aCons (mC (.int 0)) aNil)) (mOp oSub (mVar 3) (mC (.int 1)))) (mTup (aCons (mOp oSub (mC (.int 0)) (mC (.int 1))) aNil))) (aCons (mOp (oAdd false) (mOp (oMul false) (mTup (aCons (mOp oPow (mC (.int 10)) (mC (.int 9))) aNil)) (mOp oSub (mVar 3) (mC (.int 1)))) (mTup (aCons (mC (.str "9")) aNil))) aNil))))))))))) aNil))))
  (mCons (mIfS (mOr (mBl (mOp (oInOwn "Region" id sp_Region_contains) (mVar 11) (mVar 7))) (mBl (mOp (oInOwn "Region" id sp_Region_contains) (mVar 11) (mCall sp_Region_full (aCons (mVar 3) aNil)))))
  (mRet (mC (.bl false)))
  mNil)
  (mCons (mSet 12 (mCall sp_law_rows (aCons (mVar 1) (aCons (mVar 3) (aCons (mC (.int 4)) (aCons (mC (.int 2)) aNil))))))
  (mCons (mSet 13 (mFrz (mCallK 0 2 (fun ws => mkD "Region" sp_Region_init (gi_Region_init_1_rows_width ws)) aNil (aCons (mCB bTup (aCons (mFrz (mCall sp_law_mixed (aCons (mVar 1) (aCons (mOp (oAdd false) (mVar 4) (mVar 6)) aNil)))) aNil)) (aCons (mVar 3) aNil)))))
  (mCons (mSet 9 (mLst false (aCons (mOp (oEqOwn isi_cs "Region" id sp_Region_eq) (mVar 7) (mVar 13)) (aCons (mOp (oEqOwn isi_cs "Region" id sp_Region_eq) (mVar 7) (mFrz (mCall (mkD "Region" sp_Region_init) (aCons (mVar 3) (aCons (mVar 12) aNil))))) (aCons (mOp (oEqOwn isi_cs "Region" id sp_Region_eq) (mVar 7) (mVar 6)) (aCons (mFrz (mMeth "rows" (("Region", sp_Region_rows) :: []) (mCall sp_Region_full (aCons (mVar 3) aNil)) aNil)) aNil))))))
  (mIfS (mNot (mTru (mCall sp_law_same (aCons (mVar 9) (aCons (mLst false (aCons (mC (.bl true)) (aCons (mOp oEq (mVar 6) (mCall sp_law_smallest (aCons (mVar 12) aNil))) (aCons (mC (.bl false)) (aCons (mLst false (aCons (mOp (oMul false) (mTup (aCons (mC (.int 0)) aNil)) (mVar 3)) aNil)) aNil))))) aNil)))))
  (mRet (mC (.bl false)))
  mNil))))))))))))))
  (mCons (mSet 9 (mLst false (aCons (mOp (oEqOwn isi_cs "Region" id sp_Region_eq) (mFrz (mCall (fun ws => mkD "Region" sp_Region_init (ws ++ dd_Region_init_2)) (aCons (mC (.int 2)) aNil))) (mFrz (mCall (fun ws => mkD "Region" sp_Region_init (ws ++ dd_Region_init_2)) (aCons (mC (.int 3)) aNil)))) (aCons (mFrz (mMeth "rows" (("Region", sp_Region_rows) :: []) (mFrz (mCall (fun ws => mkD "Region" sp_Region_init (ws ++ dd_Region_init_2)) (aCons (mC (.int 2)) aNil))) aNil)) (aCons (mBoolO "Region" sp_Region_bool (aCons (mFrz (mCall (fun ws => mkD "Region" sp_Region_init (ws ++ dd_Region_init_2)) (aCons (mC (.int 1)) aNil))) aNil)) (aCons (mLenO (("Region", sp_Region_len) :: []) (aCons (mCall sp_Region_full (aCons (mC (.int 4)) aNil)) aNil)) (aCons (mBoolO "Region" sp_Region_bool (aCons (mCallK 0 1 (fun ws => sp_Region_full (gd_Region_full_0_width ws)) aNil (aCons (mC (.int 1)) aNil)) aNil)) aNil)))))))
  (mRet (mCall sp_law_same (aCons (mVar 9) (aCons (mLst false (aCons (mC (.bl false)) (aCons (mLst false aNil) (aCons (mC (.bl false)) (aCons (mC (.int 1)) (aCons (mC (.bl true)) aNil)))))) aNil))))))
structure Txt (P : Program) (w : World) (K : PySem.W.Frag) (mg : Str → Option Value) where
  a_law_bag : Addr
  d_law_bag : FuncData
  F_law_bag : L2.Fun K "_law_bag" "_law_bag" st_law_bag a_law_bag d_law_bag
  g_law_bag : mg "_law_bag" = some (.ref a_law_bag)
  b_law_bag : L2.Binds K d_law_bag ["_law_script"] []
  a_law_pull : Addr
  d_law_pull : FuncData
  F_law_pull : L2.Fun K "_law_pull" "_law_pull" st_law_pull a_law_pull d_law_pull
  g_law_pull : mg "_law_pull" = some (.ref a_law_pull)
  b_law_pull : L2.Binds K d_law_pull ["_law_bag_here", "_law_many"] []
  a_law_few : Addr
  d_law_few : FuncData
  F_law_few : L2.Fun K "_law_few" "_law_few" st_law_few a_law_few d_law_few
  g_law_few : mg "_law_few" = some (.ref a_law_few)
  b_law_few : L2.Binds K d_law_few ["_law_bag_here", "_law_width_z", "_law_most"] []
  a_law_rows : Addr
  d_law_rows : FuncData
  F_law_rows : L2.Fun K "_law_rows" "_law_rows" st_law_rows a_law_rows d_law_rows
  g_law_rows : mg "_law_rows" = some (.ref a_law_rows)
  b_law_rows : L2.Binds K d_law_rows ["_law_bag_here", "_law_width_z", "_law_many", "_law_most"] []
  a_law_under : Addr
  d_law_under : FuncData
  F_law_under : L2.Fun K "_law_under" "_law_under" st_law_under a_law_under d_law_under
  g_law_under : mg "_law_under" = some (.ref a_law_under)
  b_law_under : L2.Binds K d_law_under ["_law_one", "_law_other"] []
  a_law_smallest : Addr
  d_law_smallest : FuncData
  F_law_smallest : L2.Fun K "_law_smallest" "_law_smallest" st_law_smallest a_law_smallest d_law_smallest
  g_law_smallest : mg "_law_smallest" = some (.ref a_law_smallest)
  b_law_smallest : L2.Binds K d_law_smallest ["_law_rows_z"] []
  a_is_number : Addr
  d_is_number : FuncData
  F_is_number : FunD K "is_number" "is_number" (defArgs st_is_number) (defBody st_is_number) (defScope st_is_number) [.non] [] a_is_number d_is_number
  g_is_number : mg "is_number" = some (.ref a_is_number)
  b_is_number : L2.Binds K d_is_number ["value", "least", "most"] []
  a_is_row : Addr
  d_is_row : FuncData
  F_is_row : L2.Fun K "is_row" "is_row" st_is_row a_is_row d_is_row
  g_is_row : mg "is_row" = some (.ref a_is_row)
  b_is_row : L2.Binds K d_is_row ["width", "value"] []
  a_is_below : Addr
  d_is_below : FuncData
  F_is_below : L2.Fun K "is_below" "is_below" st_is_below a_is_below d_is_below
  g_is_below : mg "is_below" = some (.ref a_is_below)
  b_is_below : L2.Binds K d_is_below ["one", "other"] []
  a_least_rows : Addr
  d_least_rows : FuncData
  F_least_rows : L2.Fun K "least_rows" "least_rows" st_least_rows a_least_rows d_least_rows
  g_least_rows : mg "least_rows" = some (.ref a_least_rows)
  b_least_rows : L2.Binds K d_least_rows ["rows"] []
  a_Region_init : Addr
  d_Region_init : FuncData
  dz_Region_init : Addr
  dzq_Region_init : ∀ G, SqT K G dz_Region_init []
  F_Region_init : FunD K "__init__" "Region.__init__" (defArgs st_Region_init) (defBody st_Region_init) (defScope st_Region_init) [.ref dz_Region_init] [] a_Region_init d_Region_init
  b_Region_init : L2.Binds K d_Region_init ["self", "width", "rows"] []
  a_Region_repr : Addr
  d_Region_repr : FuncData
  F_Region_repr : L2.Fun K "__repr__" "Region.__repr__" st_Region_repr a_Region_repr d_Region_repr
  b_Region_repr : L2.Binds K d_Region_repr ["self"] []
  a_Region_bool : Addr
  d_Region_bool : FuncData
  F_Region_bool : L2.Fun K "__bool__" "Region.__bool__" st_Region_bool a_Region_bool d_Region_bool
  b_Region_bool : L2.Binds K d_Region_bool ["self"] []
  a_Region_len : Addr
  d_Region_len : FuncData
  F_Region_len : L2.Fun K "__len__" "Region.__len__" st_Region_len a_Region_len d_Region_len
  b_Region_len : L2.Binds K d_Region_len ["self"] []
  a_Region_rows : Addr
  d_Region_rows : FuncData
  F_Region_rows : L2.Fun K "rows" "Region.rows" st_Region_rows a_Region_rows d_Region_rows
  b_Region_rows : L2.Binds K d_Region_rows ["self"] []
  a_Region_width : Addr
  d_Region_width : FuncData
  F_Region_width : L2.Fun K "width" "Region.width" st_Region_width a_Region_width d_Region_width
  b_Region_width : L2.Binds K d_Region_width ["self"] []
  a_law_same : Addr
  d_law_same : FuncData
  F_law_same : L2.Fun K "_law_same" "_law_same" st_law_same a_law_same d_law_same
  g_law_same : mg "_law_same" = some (.ref a_law_same)
  b_law_same : L2.Binds K d_law_same ["_law_found", "_law_due"] []
  a_Region_contains : Addr
  d_Region_contains : FuncData
  F_Region_contains : L2.Fun K "__contains__" "Region.__contains__" st_Region_contains a_Region_contains d_Region_contains
  b_Region_contains : L2.Binds K d_Region_contains ["self", "value"] []
  a_law_holds : Addr
  d_law_holds : FuncData
  F_law_holds : L2.Fun K "_law_holds" "_law_holds" st_law_holds a_law_holds d_law_holds
  g_law_holds : mg "_law_holds" = some (.ref a_law_holds)
  b_law_holds : L2.Binds K d_law_holds ["_law_rows_z", "_law_row"] []
  a_law_pick : Addr
  d_law_pick : FuncData
  F_law_pick : L2.Fun K "_law_pick" "_law_pick" st_law_pick a_law_pick d_law_pick
  g_law_pick : mg "_law_pick" = some (.ref a_law_pick)
  b_law_pick : L2.Binds K d_law_pick ["_law_bag_here", "_law_row"] []
  a_Region_full : Addr
  d_Region_full : FuncData
  F_Region_full : L2.Fun K "full" "Region.full" st_Region_full a_Region_full d_Region_full
  b_Region_full : L2.Binds K d_Region_full ["width"] []
  a_law_mixed : Addr
  d_law_mixed : FuncData
  F_law_mixed : L2.Fun K "_law_mixed" "_law_mixed" st_law_mixed a_law_mixed d_law_mixed
  g_law_mixed : mg "_law_mixed" = some (.ref a_law_mixed)
  b_law_mixed : L2.Binds K d_law_mixed ["_law_bag_here", "_law_row"] []
  a_Region_eq : Addr
  d_Region_eq : FuncData
  F_Region_eq : L2.Fun K "__eq__" "Region.__eq__" st_Region_eq a_Region_eq d_Region_eq
  b_Region_eq : L2.Binds K d_Region_eq ["self", "other"] []
  a_law : Addr
  d_law : FuncData
  F_law : L2.Fun K "law" "law" st_law a_law d_law
  g_law : mg "law" = some (.ref a_law)
  b_law : L2.Binds K d_law ["_law_script"] []
  e_Region_init_2 : List Value
  v_Region_init_2 : Vals [.ref dz_Region_init] e_Region_init_2
  b_Region_init_2 : L2.Binds K d_Region_init ["self", "width", "rows"] e_Region_init_2
  e_is_number_2 : List Value
  v_is_number_2 : Vals [.non] e_is_number_2
  b_is_number_2 : L2.Binds K d_is_number ["value", "least", "most"] e_is_number_2
  kg_Region_full_0_width : List Value → List Value → List Value
  kb_Region_full_0_width : KBn K d_Region_full ["width"] 0 ["width"] kg_Region_full_0_width gV_Region_full_0_width
  kg_Region_init_1_rows_width : List Value → List Value → List Value
  kb_Region_init_1_rows_width : KBn K d_Region_init ["self", "width", "rows"] 1 ["rows", "width"] kg_Region_init_1_rows_width gV_Region_init_1_rows_width
  kh_Region_init_1_rows_width : ∀ o us uz, kg_Region_init_1_rows_width (o :: us) uz = o :: (kg_Region_init_1_rows_width (o :: us) uz).tail
  kt_Region_init_1_rows_width : ∀ o o' us uz, (kg_Region_init_1_rows_width (o :: us) uz).tail = (kg_Region_init_1_rows_width (o' :: us) uz).tail
  c_Region : mg "Region" = some (.ref (clsAt K "Region"))
  cl_Region : Cls K (clsAt K "Region")
  na_Region_own_least : NoAttr K (clsAt K "Region") "own_least"
  na_Region_own_width : NoAttr K (clsAt K "Region") "own_width"
  mk_Region : Mk K (clsAt K "Region") a_Region_init
  kc_Region : PySem.W.keepIn K (.ref (clsAt K "Region")) = true
  m_Region_repr : Meth K (clsAt K "Region") "__repr__" a_Region_repr
  m_Region_bool : Meth K (clsAt K "Region") "__bool__" a_Region_bool
  m_Region_len : Meth K (clsAt K "Region") "__len__" a_Region_len
  m_Region_rows : Meth K (clsAt K "Region") "rows" a_Region_rows
  p_Region_width : Addr
  pp_Region_width : PropOf K (clsAt K "Region") "width" p_Region_width a_Region_width
  m_Region_contains : Meth K (clsAt K "Region") "__contains__" a_Region_contains
  ps_Region_full : Addr
  sm_Region_full : SMet K (clsAt K "Region") "full" ps_Region_full a_Region_full
  m_Region_eq : Meth K (clsAt K "Region") "__eq__" a_Region_eq
  eq_Region : DXE.EqC K (clsAt K "Region") a_Region_eq
  nf_Region : NotF K (clsAt K "Region")
  t_MOST_WIDTH : Tok
  c_MOST_WIDTH : mg "MOST_WIDTH" = some (.int 4 t_MOST_WIDTH)
  n_all : mg "all" = none
  n_any : mg "any" = none
  n_bool : mg "bool" = none
  n_int : mg "int" = none
  n_isinstance : mg "isinstance" = none
  n_len : mg "len" = none
  n_list : mg "list" = none
  n_range : mg "range" = none
  n_repr : mg "repr" = none
  n_set : mg "set" = none
  n_sorted : mg "sorted" = none
  n_str : mg "str" = none
  n_tuple : mg "tuple" = none
  n_zip : mg "zip" = none
  isi : IsiT K isi_cs isi_sub
end L03

set_option Elab.async false
set_option linter.all false
set_option maxRecDepth 100000
set_option maxHeartbeats 4000000
namespace L03
open PySem PySem.Spec PyProof.Rows L2 DX
set_option pp.maxSteps 1000
section
variable {P : Program} {w : World} {K : PySem.W.Frag} {mg : Str → Option Value} {base : Heap} {TT : List (Addr × Str)}
theorem ok_law_pull (T : Txt P w K mg)  : FnOk P w K mg base (L2N.CX P w) 1 T.a_law_pull T.d_law_pull ["_law_bag_here", "_law_many"] (spD K TT sp_law_pull) :=
  fnD T.F_law_pull sc_law_pull rfl fun cdv A outer s H E F eT hr tk => by
    subst eT
    have hu64 := hr.units
    have hu65 : (A.deeper (envOfC "_law_pull" (defScope st_law_pull) s.heap.objs.size T.a_law_pull cdv)).units + 65 < cLine := by have := hr.un; omega
    exact (jss_cons (js_asg (fun h1 h2 => ps_asg h1 h2) (je_op (ob_add rfl) (je_ix rfl (je_var 0 (pe_var (i := 0) rfl (by first | exact Or.inl rfl | exact Or.inr (Or.inl rfl) | exact Or.inr (Or.inr rfl)))) je_int (fun _ _ => rfl)) je_int) (jg_sub (je_var 0 (pe_var (i := 0) rfl (by first | exact Or.inl rfl | exact Or.inr (Or.inl rfl) | exact Or.inr (Or.inr rfl)))) je_int (fun h1 h2 => pg_sub h1 h2 set_list)))
  (jss_cons (js_if (JW.jt (jw_and (jt_cmp (ob_eq rfl hu64) (nomark _) (je_ix rfl (je_var 0 (pe_var (i := 0) rfl (by first | exact Or.inl rfl | exact Or.inr (Or.inl rfl) | exact Or.inr (Or.inr rfl)))) je_int (fun _ _ => rfl)) je_int) (jw_and1 (jt_cmp ob_lt (nomark _) (je_ix rfl (je_var 0 (pe_var (i := 0) rfl (by first | exact Or.inl rfl | exact Or.inr (Or.inl rfl) | exact Or.inr (Or.inr rfl)))) je_int (fun _ _ => rfl)) (je_cb (oc_len rfl) (ja_cons (je_ix rfl (je_var 0 (pe_var (i := 0) rfl (by first | exact Or.inl rfl | exact Or.inr (Or.inl rfl) | exact Or.inr (Or.inr rfl)))) je_int (fun _ _ => rfl)) ja_nil) (fun h => pe_callB h (by rfl) T.n_len (by decide +kernel) pa))))))
  (jss_cons (js_set (i := 2) (fun h => ps_set (i := 2) sc_law_pull.nd rfl (by first | exact Or.inl rfl | exact Or.inr rfl) h) (je_ix rfl (je_ix rfl (je_var 0 (pe_var (i := 0) rfl (by first | exact Or.inl rfl | exact Or.inr (Or.inl rfl) | exact Or.inr (Or.inr rfl)))) je_int (fun _ _ => rfl)) (je_ix rfl (je_var 0 (pe_var (i := 0) rfl (by first | exact Or.inl rfl | exact Or.inr (Or.inl rfl) | exact Or.inr (Or.inr rfl)))) je_int (fun _ _ => rfl)) (fun _ _ => rfl)))
  (jss_cons (js_asg (fun h1 h2 => ps_asg h1 h2) (je_op (ob_add rfl) (je_ix rfl (je_var 0 (pe_var (i := 0) rfl (by first | exact Or.inl rfl | exact Or.inr (Or.inl rfl) | exact Or.inr (Or.inr rfl)))) je_int (fun _ _ => rfl)) je_int) (jg_sub (je_var 0 (pe_var (i := 0) rfl (by first | exact Or.inl rfl | exact Or.inr (Or.inl rfl) | exact Or.inr (Or.inr rfl)))) je_int (fun h1 h2 => pg_sub h1 h2 set_list)))
  (jss_one (js_if (jt_cmp ob_ge (nomark _) (je_var 2 (pe_var (i := 2) rfl (by first | exact Or.inl rfl | exact Or.inr (Or.inl rfl) | exact Or.inr (Or.inr rfl)))) (je_op ob_pow je_int je_int))
  (jss_one (js_asg (fun h1 h2 => ps_asg h1 h2) (je_var 2 (pe_var (i := 2) rfl (by first | exact Or.inl rfl | exact Or.inr (Or.inl rfl) | exact Or.inr (Or.inr rfl)))) (jg_sub (je_var 0 (pe_var (i := 0) rfl (by first | exact Or.inl rfl | exact Or.inr (Or.inl rfl) | exact Or.inr (Or.inr rfl)))) je_int (fun h1 h2 => pg_sub h1 h2 set_list))))
  (jss_one (js_asg (fun h1 h2 => ps_asg h1 h2) (je_op ob_mod (je_cb oc_int (ja_cons (je_op (ob_add rfl) (je_op (ob_add rfl) (je_op (ob_mul rfl) (je_ix rfl (je_var 0 (pe_var (i := 0) rfl (by first | exact Or.inl rfl | exact Or.inr (Or.inl rfl) | exact Or.inr (Or.inr rfl)))) je_int (fun _ _ => rfl)) je_int) (je_op (ob_mul rfl) (je_op ob_mod (je_cb oc_int (ja_cons (je_var 2 (pe_var (i := 2) rfl (by first | exact Or.inl rfl | exact Or.inr (Or.inl rfl) | exact Or.inr (Or.inr rfl)))) ja_nil) (fun h => pe_callTy h (by rfl) T.n_int (by decide +kernel) pa)) je_int) je_int)) je_int) ja_nil) (fun h => pe_callTy h (by rfl) T.n_int (by decide +kernel) pa)) je_int) (jg_sub (je_var 0 (pe_var (i := 0) rfl (by first | exact Or.inl rfl | exact Or.inr (Or.inl rfl) | exact Or.inr (Or.inr rfl)))) je_int (fun h1 h2 => pg_sub h1 h2 set_list))))))))
  jss_nil)
  (jss_cons (js_if (jt_cmp ob_gt (nomark _) (je_ix rfl (je_var 0 (pe_var (i := 0) rfl (by first | exact Or.inl rfl | exact Or.inr (Or.inl rfl) | exact Or.inr (Or.inr rfl)))) je_int (fun _ _ => rfl)) je_int)
  (jss_cons (js_set (i := 3) (fun h => ps_set (i := 3) sc_law_pull.nd rfl (by first | exact Or.inl rfl | exact Or.inr rfl) h) (je_op ob_mod (je_cb oc_int (ja_cons (je_ix rfl (je_var 0 (pe_var (i := 0) rfl (by first | exact Or.inl rfl | exact Or.inr (Or.inl rfl) | exact Or.inr (Or.inr rfl)))) je_int (fun _ _ => rfl)) ja_nil) (fun h => pe_callTy h (by rfl) T.n_int (by decide +kernel) pa)) (je_var 1 (pe_var (i := 1) rfl (by first | exact Or.inl rfl | exact Or.inr (Or.inl rfl) | exact Or.inr (Or.inr rfl))))))
  (jss_cons (js_asg (fun h1 h2 => ps_asg h1 h2) (je_op ob_div (je_cb oc_int (ja_cons (je_ix rfl (je_var 0 (pe_var (i := 0) rfl (by first | exact Or.inl rfl | exact Or.inr (Or.inl rfl) | exact Or.inr (Or.inr rfl)))) je_int (fun _ _ => rfl)) ja_nil) (fun h => pe_callTy h (by rfl) T.n_int (by decide +kernel) pa)) (je_var 1 (pe_var (i := 1) rfl (by first | exact Or.inl rfl | exact Or.inr (Or.inl rfl) | exact Or.inr (Or.inr rfl))))) (jg_sub (je_var 0 (pe_var (i := 0) rfl (by first | exact Or.inl rfl | exact Or.inr (Or.inl rfl) | exact Or.inr (Or.inr rfl)))) je_int (fun h1 h2 => pg_sub h1 h2 set_list)))
  (jss_one (js_ret (je_var 3 (pe_var (i := 3) rfl (by first | exact Or.inl rfl | exact Or.inr (Or.inl rfl) | exact Or.inr (Or.inr rfl))))))))
  jss_nil)
  (jss_cons (js_set (i := 4) (fun h => ps_set (i := 4) sc_law_pull.nd rfl (by first | exact Or.inl rfl | exact Or.inr rfl) h) (je_op ob_mod (je_cb oc_int (ja_cons (je_op (ob_add rfl) (je_op (ob_mul rfl) (je_ix rfl (je_var 0 (pe_var (i := 0) rfl (by first | exact Or.inl rfl | exact Or.inr (Or.inl rfl) | exact Or.inr (Or.inr rfl)))) je_int (fun _ _ => rfl)) (je_ix rfl (je_var 0 (pe_var (i := 0) rfl (by first | exact Or.inl rfl | exact Or.inr (Or.inl rfl) | exact Or.inr (Or.inr rfl)))) je_int (fun _ _ => rfl))) (je_op (ob_mul rfl) (je_ix rfl (je_var 0 (pe_var (i := 0) rfl (by first | exact Or.inl rfl | exact Or.inr (Or.inl rfl) | exact Or.inr (Or.inr rfl)))) je_int (fun _ _ => rfl)) je_int)) ja_nil) (fun h => pe_callTy h (by rfl) T.n_int (by decide +kernel) pa)) je_int))
  (jss_cons (js_asg (fun h1 h2 => ps_asg h1 h2) (je_op ob_mod (je_cb oc_int (ja_cons (je_op (ob_add rfl) (je_op (ob_add rfl) (je_op (ob_mul rfl) (je_var 4 (pe_var (i := 4) rfl (by first | exact Or.inl rfl | exact Or.inr (Or.inl rfl) | exact Or.inr (Or.inr rfl)))) je_int) (je_op (ob_mul rfl) (je_ix rfl (je_var 0 (pe_var (i := 0) rfl (by first | exact Or.inl rfl | exact Or.inr (Or.inl rfl) | exact Or.inr (Or.inr rfl)))) je_int (fun _ _ => rfl)) je_int)) je_int) ja_nil) (fun h => pe_callTy h (by rfl) T.n_int (by decide +kernel) pa)) je_int) (jg_sub (je_var 0 (pe_var (i := 0) rfl (by first | exact Or.inl rfl | exact Or.inr (Or.inl rfl) | exact Or.inr (Or.inr rfl)))) je_int (fun h1 h2 => pg_sub h1 h2 set_list)))
  (jss_one (js_ret (je_op ob_mod (je_cb oc_int (ja_cons (je_op ob_div (je_ix rfl (je_var 0 (pe_var (i := 0) rfl (by first | exact Or.inl rfl | exact Or.inr (Or.inl rfl) | exact Or.inr (Or.inr rfl)))) je_int (fun _ _ => rfl)) je_int) ja_nil) (fun h => pe_callTy h (by rfl) T.n_int (by decide +kernel) pa)) (je_var 1 (pe_var (i := 1) rfl (by first | exact Or.inl rfl | exact Or.inr (Or.inl rfl) | exact Or.inr (Or.inr rfl))))))))))))

end
end L03

set_option Elab.async false
set_option linter.all false
set_option maxRecDepth 100000
set_option maxHeartbeats 4000000
namespace L03
open PySem PySem.Spec PyProof.Rows L2 DX
set_option pp.maxSteps 1000
section
variable {P : Program} {w : World} {K : PySem.W.Frag} {mg : Str → Option Value} {base : Heap} {TT : List (Addr × Str)}
theorem ok_law_few (T : Txt P w K mg) (G_law_pull : FnOk P w K mg base (L2N.CX P w) 1 T.a_law_pull T.d_law_pull ["_law_bag_here", "_law_many"] (spD K TT sp_law_pull)) : FnOk P w K mg base (L2N.CX P w) 2 T.a_law_few T.d_law_few ["_law_bag_here", "_law_width_z", "_law_most"] (spD K TT sp_law_few) :=
  fnD T.F_law_few sc_law_few rfl fun cdv A outer s H E F eT hr tk => by
    subst eT
    have hu64 := hr.units
    have hu65 : (A.deeper (envOfC "_law_few" (defScope st_law_few) s.heap.objs.size T.a_law_few cdv)).units + 65 < cLine := by have := hr.un; omega
    exact (jss_one (js_ret (je_cb (oc_tup rfl) (ja_cons (je_lcG (own := [("_law_k", 3)]) rfl (by decide) sc_law_few.nd (blkOk_by (N := N_law_few) (sc := defScope st_law_few) (by decide +kernel)) (ji_rng1 (ja_cons (je_var 1 (pe_var (i := 1) rfl (by first | exact Or.inl rfl | exact Or.inr (Or.inl rfl) | exact Or.inr (Or.inr rfl)))) ja_nil) (pi_range1 (by rfl) T.n_range pa)) (fun _ _ _ _ _ => (jg_name (pg_name (i := 3) sc_law_few.nd rfl (by first | exact Or.inl rfl | exact Or.inr rfl)))) (fun _ _ _ _ _ => jts_nil) (fun _ _ _ _ _ => (je_call rfl (rn_fn0 rfl G_law_pull (hr.mono (by omega)) T.b_law_pull takes_none5) (by rfl) T.g_law_pull T.F_law_pull.kp (ja_cons (je_var 0 (pe_var (i := 0) rfl (by first | exact Or.inl rfl | exact Or.inr (Or.inl rfl) | exact Or.inr (Or.inr rfl)))) (ja_cons (je_op (ob_add rfl) (je_var 2 (pe_var (i := 2) rfl (by first | exact Or.inl rfl | exact Or.inr (Or.inl rfl) | exact Or.inr (Or.inr rfl)))) je_int) ja_nil))))) ja_nil) (fun h => pe_callTy h (by rfl) T.n_tuple (by decide +kernel) pa))))

end
end L03

set_option Elab.async false
set_option linter.all false
set_option maxRecDepth 100000
set_option maxHeartbeats 4000000
namespace L03
open PySem PySem.Spec PyProof.Rows L2 DX
set_option pp.maxSteps 1000
section
variable {P : Program} {w : World} {K : PySem.W.Frag} {mg : Str → Option Value} {base : Heap} {TT : List (Addr × Str)}
theorem ok_law_rows (T : Txt P w K mg) (G_law_pull : FnOk P w K mg base (L2N.CX P w) 1 T.a_law_pull T.d_law_pull ["_law_bag_here", "_law_many"] (spD K TT sp_law_pull)) (G_law_few : FnOk P w K mg base (L2N.CX P w) 2 T.a_law_few T.d_law_few ["_law_bag_here", "_law_width_z", "_law_most"] (spD K TT sp_law_few)) : FnOk P w K mg base (L2N.CX P w) 3 T.a_law_rows T.d_law_rows ["_law_bag_here", "_law_width_z", "_law_many", "_law_most"] (spD K TT sp_law_rows) :=
  fnD T.F_law_rows sc_law_rows rfl fun cdv A outer s H E F eT hr tk => by
    subst eT
    have hu64 := hr.units
    have hu65 : (A.deeper (envOfC "_law_rows" (defScope st_law_rows) s.heap.objs.size T.a_law_rows cdv)).units + 65 < cLine := by have := hr.un; omega
    exact (jss_one (js_ret (je_lcG (own := [("_law_k", 4)]) rfl (by decide) sc_law_rows.nd (blkOk_by (N := N_law_rows) (sc := defScope st_law_rows) (by decide +kernel)) (ji_rng1 (ja_cons (je_call rfl (rn_fn0 rfl G_law_pull (hr.mono (by omega)) T.b_law_pull tk) (by rfl) T.g_law_pull T.F_law_pull.kp (ja_cons (je_var 0 (pe_var (i := 0) rfl (by first | exact Or.inl rfl | exact Or.inr (Or.inl rfl) | exact Or.inr (Or.inr rfl)))) (ja_cons (je_op (ob_add rfl) (je_var 2 (pe_var (i := 2) rfl (by first | exact Or.inl rfl | exact Or.inr (Or.inl rfl) | exact Or.inr (Or.inr rfl)))) je_int) ja_nil))) ja_nil) (pi_range1 (by rfl) T.n_range pa)) (fun _ _ _ _ _ => (jg_name (pg_name (i := 4) sc_law_rows.nd rfl (by first | exact Or.inl rfl | exact Or.inr rfl)))) (fun _ _ _ _ _ => jts_nil) (fun _ _ _ _ _ => (je_call rfl (rn_fn0 rfl G_law_few (hr.mono (by omega)) T.b_law_few takes_none5) (by rfl) T.g_law_few T.F_law_few.kp (ja_cons (je_var 0 (pe_var (i := 0) rfl (by first | exact Or.inl rfl | exact Or.inr (Or.inl rfl) | exact Or.inr (Or.inr rfl)))) (ja_cons (je_var 1 (pe_var (i := 1) rfl (by first | exact Or.inl rfl | exact Or.inr (Or.inl rfl) | exact Or.inr (Or.inr rfl)))) (ja_cons (je_var 3 (pe_var (i := 3) rfl (by first | exact Or.inl rfl | exact Or.inr (Or.inl rfl) | exact Or.inr (Or.inr rfl)))) ja_nil))))))))

end
end L03

set_option Elab.async false
set_option linter.all false
set_option maxRecDepth 100000
set_option maxHeartbeats 4000000
namespace L03
open PySem PySem.Spec PyProof.Rows L2 DX
set_option pp.maxSteps 1000
section
variable {P : Program} {w : World} {K : PySem.W.Frag} {mg : Str → Option Value} {base : Heap} {TT : List (Addr × Str)}
theorem ok_law_under (T : Txt P w K mg)  : FnOk P w K mg base (L2N.CX P w) 1 T.a_law_under T.d_law_under ["_law_one", "_law_other"] (spD K TT sp_law_under) :=
  fnD T.F_law_under sc_law_under rfl fun cdv A outer s H E F eT hr tk => by
    subst eT
    have hu64 := hr.units
    have hu65 : (A.deeper (envOfC "_law_under" (defScope st_law_under) s.heap.objs.size T.a_law_under cdv)).units + 65 < cLine := by have := hr.un; omega
    exact (jss_one (js_ret (je_cb (oc_all rfl rfl) (ja_cons (je_lcG (own := [("_law_k", 2)]) rfl (by decide) sc_law_under.nd (blkOk_by (N := N_law_under) (sc := defScope st_law_under) (by decide +kernel)) (ji_rng1 (ja_cons (je_cb (oc_len rfl) (ja_cons (je_var 1 (pe_var (i := 1) rfl (by first | exact Or.inl rfl | exact Or.inr (Or.inl rfl) | exact Or.inr (Or.inr rfl)))) ja_nil) (fun h => pe_callB h (by rfl) T.n_len (by decide +kernel) pa)) ja_nil) (pi_range1 (by rfl) T.n_range pa)) (fun _ _ _ _ _ => (jg_name (pg_name (i := 2) sc_law_under.nd rfl (by first | exact Or.inl rfl | exact Or.inr rfl)))) (fun _ _ _ _ _ => jts_nil) (fun _ _ _ _ _ => (je_cmp ob_le (nomark _) (je_ix rfl (je_var 0 (pe_var (i := 0) rfl (by first | exact Or.inl rfl | exact Or.inr (Or.inl rfl) | exact Or.inr (Or.inr rfl)))) (je_var 2 (pe_var (i := 2) rfl (by first | exact Or.inl rfl | exact Or.inr (Or.inl rfl) | exact Or.inr (Or.inr rfl)))) (fun _ _ => rfl)) (je_ix rfl (je_var 1 (pe_var (i := 1) rfl (by first | exact Or.inl rfl | exact Or.inr (Or.inl rfl) | exact Or.inr (Or.inr rfl)))) (je_var 2 (pe_var (i := 2) rfl (by first | exact Or.inl rfl | exact Or.inr (Or.inl rfl) | exact Or.inr (Or.inr rfl)))) (fun _ _ => rfl))))) ja_nil) (fun h => pe_callB h (by rfl) T.n_all (by decide +kernel) pa))))

end
end L03

set_option Elab.async false
set_option linter.all false
set_option maxRecDepth 100000
set_option maxHeartbeats 4000000
namespace L03
open PySem PySem.Spec PyProof.Rows L2 DX
set_option pp.maxSteps 1000
section
variable {P : Program} {w : World} {K : PySem.W.Frag} {mg : Str → Option Value} {base : Heap} {TT : List (Addr × Str)}
theorem ok_law_smallest (T : Txt P w K mg) (G_law_under : FnOk P w K mg base (L2N.CX P w) 1 T.a_law_under T.d_law_under ["_law_one", "_law_other"] (spD K TT sp_law_under)) : FnOk P w K mg base (L2N.CX P w) 2 T.a_law_smallest T.d_law_smallest ["_law_rows_z"] (spD K TT sp_law_smallest) :=
  fnD T.F_law_smallest sc_law_smallest rfl fun cdv A outer s H E F eT hr tk => by
    subst eT
    have hu64 := hr.units
    have hu65 : (A.deeper (envOfC "_law_smallest" (defScope st_law_smallest) s.heap.objs.size T.a_law_smallest cdv)).units + 65 < cLine := by have := hr.un; omega
    exact (jss_cons (js_set (i := 1) (fun h => ps_set (i := 1) sc_law_smallest.nd rfl (by first | exact Or.inl rfl | exact Or.inr rfl) h) (je_lst ja_nil))
  (jss_cons (js_for (fun h1 h2 h3 => ps_for (passes_of rfl) rfl h1 h2 h3) (ji_seq rfl (je_sortR (pe_callB (call_sortedA rfl) (by rfl) T.n_sorted (by decide +kernel) (pa_cons pe pa_nil)) (je_var 0 (pe_var (i := 0) rfl (by first | exact Or.inl rfl | exact Or.inr (Or.inl rfl) | exact Or.inr (Or.inr rfl)))))) (jg_name (pg_name (i := 2) sc_law_smallest.nd rfl (by first | exact Or.inl rfl | exact Or.inr rfl)))
  (jss_one (js_if (JW.jt (jw_and (jt_cmp (ob_nin rfl hu65) (by rfl) (je_var 2 (pe_var (i := 2) rfl (by first | exact Or.inl rfl | exact Or.inr (Or.inl rfl) | exact Or.inr (Or.inr rfl)))) (je_var 1 (pe_var (i := 1) rfl (by first | exact Or.inl rfl | exact Or.inr (Or.inl rfl) | exact Or.inr (Or.inr rfl))))) (jw_and1 (jt_not (jt_tru (je_cb (oc_any rfl rfl) (ja_cons (je_lcG (own := [("_law_other", 3)]) rfl (by decide) sc_law_smallest.nd (blkOk_by (N := N_law_smallest) (sc := defScope st_law_smallest) (by decide +kernel)) (ji_seq rfl (je_var 0 (pe_var (i := 0) rfl (by first | exact Or.inl rfl | exact Or.inr (Or.inl rfl) | exact Or.inr (Or.inr rfl))))) (fun _ _ _ _ _ => (jg_name (pg_name (i := 3) sc_law_smallest.nd rfl (by first | exact Or.inl rfl | exact Or.inr rfl)))) (fun _ _ _ _ _ => jts_nil) (fun _ _ _ _ _ => (je_and rfl (je_cmp (ob_ne rfl hu64) (nomark _) (je_var 3 (pe_var (i := 3) rfl (by first | exact Or.inl rfl | exact Or.inr (Or.inl rfl) | exact Or.inr (Or.inr rfl)))) (je_var 2 (pe_var (i := 2) rfl (by first | exact Or.inl rfl | exact Or.inr (Or.inl rfl) | exact Or.inr (Or.inr rfl))))) (je_one (je_call rfl (rn_fn0 rfl G_law_under (hr.mono (by omega)) T.b_law_under takes_none5) (by rfl) T.g_law_under T.F_law_under.kp (ja_cons (je_var 3 (pe_var (i := 3) rfl (by first | exact Or.inl rfl | exact Or.inr (Or.inl rfl) | exact Or.inr (Or.inr rfl)))) (ja_cons (je_var 2 (pe_var (i := 2) rfl (by first | exact Or.inl rfl | exact Or.inr (Or.inl rfl) | exact Or.inr (Or.inr rfl)))) ja_nil))))))) ja_nil) (fun h => pe_callB h (by rfl) T.n_any (by decide +kernel) pa)) rfl (fun _ => rfl))))))
  (jss_one (js_drp (je_bm rm_append (je_var 1 (pe_var (i := 1) rfl (by first | exact Or.inl rfl | exact Or.inr (Or.inl rfl) | exact Or.inr (Or.inr rfl)))) (ja_cons (je_var 2 (pe_var (i := 2) rfl (by first | exact Or.inl rfl | exact Or.inr (Or.inl rfl) | exact Or.inr (Or.inr rfl)))) ja_nil) (fun h1 h2 => pe_bm PySem.F.plainAttrs_list PySem.F.slot_list_append PySem.F.type_list_append mt_append h1 h2))))
  jss_nil)))
  (jss_one (js_ret (je_frz (je_var 1 (pe_var (i := 1) rfl (by first | exact Or.inl rfl | exact Or.inr (Or.inl rfl) | exact Or.inr (Or.inr rfl)))))))))

end
end L03

set_option Elab.async false
set_option linter.all false
set_option maxRecDepth 100000
set_option maxHeartbeats 4000000
namespace L03
open PySem PySem.Spec PyProof.Rows L2 DX
set_option pp.maxSteps 1000
section
variable {P : Program} {w : World} {K : PySem.W.Frag} {mg : Str → Option Value} {base : Heap} {TT : List (Addr × Str)}
theorem ok_is_number (T : Txt P w K mg)  : FnOk P w K mg base (L2N.CX P w) 1 T.a_is_number T.d_is_number ["value", "least", "most"] (spD K TT sp_is_number) :=
  fnDD T.F_is_number sc_is_number rfl fun cdv A outer s H E F eT hr tk => by
    subst eT
    have hu64 := hr.units
    have hu65 : (A.deeper (envOfC "is_number" (defScope st_is_number) s.heap.objs.size T.a_is_number cdv)).units + 65 < cLine := by have := hr.un; omega
    exact (jss_cons (js_if (JW.jt (jw_or (jt_not (jt_tru (je_cb (oc_isi rfl T.isi) (ja_cons (je_var 0 (pe_var (i := 0) rfl (by first | exact Or.inl rfl | exact Or.inr (Or.inl rfl) | exact Or.inr (Or.inr rfl)))) (ja_cons (je_con (pe_bltn (v := .ty "int") (by rfl) T.n_int (by decide +kernel) rfl) (fun _ => .ty _)) ja_nil)) (fun h => pe_callB h (by rfl) T.n_isinstance (by decide +kernel) pa)) rfl (fun _ => rfl))) (jw_or1 (jt_tru (je_cb (oc_isi rfl T.isi) (ja_cons (je_var 0 (pe_var (i := 0) rfl (by first | exact Or.inl rfl | exact Or.inr (Or.inl rfl) | exact Or.inr (Or.inr rfl)))) (ja_cons (je_con (pe_bltn (v := .ty "bool") (by rfl) T.n_bool (by decide +kernel) rfl) (fun _ => .ty _)) ja_nil)) (fun h => pe_callB h (by rfl) T.n_isinstance (by decide +kernel) pa)) rfl (fun _ => rfl)))))
  (jss_one (js_ret je_bl))
  jss_nil)
  (jss_one (js_ret (je_and rfl (je_cmp ob_le (nomark _) (je_var 1 (pe_var (i := 1) rfl (by first | exact Or.inl rfl | exact Or.inr (Or.inl rfl) | exact Or.inr (Or.inr rfl)))) (je_var 0 (pe_var (i := 0) rfl (by first | exact Or.inl rfl | exact Or.inr (Or.inl rfl) | exact Or.inr (Or.inr rfl))))) (je_one (je_or rfl (je_cmp ob_isN (nomark _) (je_var 2 (pe_var (i := 2) rfl (by first | exact Or.inl rfl | exact Or.inr (Or.inl rfl) | exact Or.inr (Or.inr rfl)))) je_non) (je_one (je_cmp ob_le (nomark _) (je_var 0 (pe_var (i := 0) rfl (by first | exact Or.inl rfl | exact Or.inr (Or.inl rfl) | exact Or.inr (Or.inr rfl)))) (je_var 2 (pe_var (i := 2) rfl (by first | exact Or.inl rfl | exact Or.inr (Or.inl rfl) | exact Or.inr (Or.inr rfl))))))))))))

end
end L03

set_option Elab.async false
set_option linter.all false
set_option maxRecDepth 100000
set_option maxHeartbeats 4000000
namespace L03
open PySem PySem.Spec PyProof.Rows L2 DX
set_option pp.maxSteps 1000
section
variable {P : Program} {w : World} {K : PySem.W.Frag} {mg : Str → Option Value} {base : Heap} {TT : List (Addr × Str)}
theorem ok_is_row (T : Txt P w K mg) (G_is_number : FnOk P w K mg base (L2N.CX P w) 1 T.a_is_number T.d_is_number ["value", "least", "most"] (spD K TT sp_is_number)) : FnOk P w K mg base (L2N.CX P w) 2 T.a_is_row T.d_is_row ["width", "value"] (spD K TT sp_is_row) :=
  fnD T.F_is_row sc_is_row rfl fun cdv A outer s H E F eT hr tk => by
    subst eT
    have hu64 := hr.units
    have hu65 : (A.deeper (envOfC "is_row" (defScope st_is_row) s.heap.objs.size T.a_is_row cdv)).units + 65 < cLine := by have := hr.un; omega
    exact (jss_one (js_ret (je_and rfl (je_cb (oc_isi rfl T.isi) (ja_cons (je_var 1 (pe_var (i := 1) rfl (by first | exact Or.inl rfl | exact Or.inr (Or.inl rfl) | exact Or.inr (Or.inr rfl)))) (ja_cons (je_con (pe_bltn (v := .ty "tuple") (by rfl) T.n_tuple (by decide +kernel) rfl) (fun _ => .ty _)) ja_nil)) (fun h => pe_callB h (by rfl) T.n_isinstance (by decide +kernel) pa)) (je_and rfl (je_cmp (ob_eq rfl hu64) (nomark _) (je_cb (oc_len rfl) (ja_cons (je_var 1 (pe_var (i := 1) rfl (by first | exact Or.inl rfl | exact Or.inr (Or.inl rfl) | exact Or.inr (Or.inr rfl)))) ja_nil) (fun h => pe_callB h (by rfl) T.n_len (by decide +kernel) pa)) (je_var 0 (pe_var (i := 0) rfl (by first | exact Or.inl rfl | exact Or.inr (Or.inl rfl) | exact Or.inr (Or.inr rfl))))) (je_one (je_cb (oc_all rfl rfl) (ja_cons (je_lcG (own := [("amount", 2)]) rfl (by decide) sc_is_row.nd (blkOk_by (N := N_is_row) (sc := defScope st_is_row) (by decide +kernel)) (ji_seq rfl (je_var 1 (pe_var (i := 1) rfl (by first | exact Or.inl rfl | exact Or.inr (Or.inl rfl) | exact Or.inr (Or.inr rfl))))) (fun _ _ _ _ _ => (jg_name (pg_name (i := 2) sc_is_row.nd rfl (by first | exact Or.inl rfl | exact Or.inr rfl)))) (fun _ _ _ _ _ => jts_nil) (fun _ _ _ _ _ => (je_call rfl (rn_fn rfl G_is_number (hr.mono (by omega)) T.b_is_number_2 T.v_is_number_2 (fun _ => w_is_number_2) takes_none5) (by rfl) T.g_is_number T.F_is_number.kp (ja_cons (je_var 2 (pe_var (i := 2) rfl (by first | exact Or.inl rfl | exact Or.inr (Or.inl rfl) | exact Or.inr (Or.inr rfl)))) (ja_cons je_int ja_nil))))) ja_nil) (fun h => pe_callB h (by rfl) T.n_all (by decide +kernel) pa)))))))

end
end L03

set_option Elab.async false
set_option linter.all false
set_option maxRecDepth 100000
set_option maxHeartbeats 4000000
namespace L03
open PySem PySem.Spec PyProof.Rows L2 DX
set_option pp.maxSteps 1000
section
variable {P : Program} {w : World} {K : PySem.W.Frag} {mg : Str → Option Value} {base : Heap} {TT : List (Addr × Str)}
theorem ok_is_below (T : Txt P w K mg)  : FnOk P w K mg base (L2N.CX P w) 1 T.a_is_below T.d_is_below ["one", "other"] (spD K TT sp_is_below) :=
  fnD T.F_is_below sc_is_below rfl fun cdv A outer s H E F eT hr tk => by
    subst eT
    have hu64 := hr.units
    have hu65 : (A.deeper (envOfC "is_below" (defScope st_is_below) s.heap.objs.size T.a_is_below cdv)).units + 65 < cLine := by have := hr.un; omega
    exact (jss_one (js_ret (je_cb (oc_all rfl rfl) (ja_cons (je_lcG (own := [("less", 2), ("more", 3)]) rfl (by decide) sc_is_below.nd (blkOk_by (N := N_is_below) (sc := defScope st_is_below) (by decide +kernel)) (ji_zip (RZ.pi_zipA (by rfl) T.n_zip pa) (ja_cons (je_var 0 (pe_var (i := 0) rfl (by first | exact Or.inl rfl | exact Or.inr (Or.inl rfl) | exact Or.inr (Or.inr rfl)))) (ja_cons (je_var 1 (pe_var (i := 1) rfl (by first | exact Or.inl rfl | exact Or.inr (Or.inl rfl) | exact Or.inr (Or.inr rfl)))) ja_nil))) (fun _ _ _ _ _ => (jg_tup rfl (by rfl) (jgs_cons (quiet_consN quiet_nil) (jg_name (pg_name (i := 2) sc_is_below.nd rfl (by first | exact Or.inl rfl | exact Or.inr rfl))) (jgs_cons quiet_nil (jg_name (pg_name (i := 3) sc_is_below.nd rfl (by first | exact Or.inl rfl | exact Or.inr rfl))) jgs_nil)))) (fun _ _ _ _ _ => jts_nil) (fun _ _ _ _ _ => (je_cmp ob_le (nomark _) (je_var 2 (pe_var (i := 2) rfl (by first | exact Or.inl rfl | exact Or.inr (Or.inl rfl) | exact Or.inr (Or.inr rfl)))) (je_var 3 (pe_var (i := 3) rfl (by first | exact Or.inl rfl | exact Or.inr (Or.inl rfl) | exact Or.inr (Or.inr rfl))))))) ja_nil) (fun h => pe_callB h (by rfl) T.n_all (by decide +kernel) pa))))

end
end L03

set_option Elab.async false
set_option linter.all false
set_option maxRecDepth 100000
set_option maxHeartbeats 4000000
namespace L03
open PySem PySem.Spec PyProof.Rows L2 DX
set_option pp.maxSteps 1000
section
variable {P : Program} {w : World} {K : PySem.W.Frag} {mg : Str → Option Value} {base : Heap} {TT : List (Addr × Str)}
theorem ok_least_rows (T : Txt P w K mg) (G_is_below : FnOk P w K mg base (L2N.CX P w) 1 T.a_is_below T.d_is_below ["one", "other"] (spD K TT sp_is_below)) : FnOk P w K mg base (L2N.CX P w) 2 T.a_least_rows T.d_least_rows ["rows"] (spD K TT sp_least_rows) :=
  fnD T.F_least_rows sc_least_rows rfl fun cdv A outer s H E F eT hr tk => by
    subst eT
    have hu64 := hr.units
    have hu65 : (A.deeper (envOfC "least_rows" (defScope st_least_rows) s.heap.objs.size T.a_least_rows cdv)).units + 65 < cLine := by have := hr.un; omega
    exact (jss_cons (js_set (i := 1) (fun h => ps_set (i := 1) sc_least_rows.nd rfl (by first | exact Or.inl rfl | exact Or.inr rfl) h) (je_lst ja_nil))
  (jss_cons (js_for (fun h1 h2 h3 => ps_for (passes_of rfl) rfl h1 h2 h3) (ji_seq rfl (je_sortS (pe_callB (call_sortedA rfl) (by rfl) T.n_sorted (by decide +kernel) (pa_cons (pe_callTy (call_setA rfl hu64) (by rfl) T.n_set (by decide +kernel) (pa_cons pe pa_nil)) pa_nil)) (je_var 0 (pe_var (i := 0) rfl (by first | exact Or.inl rfl | exact Or.inr (Or.inl rfl) | exact Or.inr (Or.inr rfl)))))) (jg_name (pg_name (i := 2) sc_least_rows.nd rfl (by first | exact Or.inl rfl | exact Or.inr rfl)))
  (jss_one (js_if (jt_not (jt_tru (je_cb (oc_any rfl rfl) (ja_cons (je_lcG (own := [("other", 3)]) rfl (by decide) sc_least_rows.nd (blkOk_by (N := N_least_rows) (sc := defScope st_least_rows) (by decide +kernel)) (ji_seq rfl (je_var 1 (pe_var (i := 1) rfl (by first | exact Or.inl rfl | exact Or.inr (Or.inl rfl) | exact Or.inr (Or.inr rfl))))) (fun _ _ _ _ _ => (jg_name (pg_name (i := 3) sc_least_rows.nd rfl (by first | exact Or.inl rfl | exact Or.inr rfl)))) (fun _ _ _ _ _ => jts_nil) (fun _ _ _ _ _ => (je_call rfl (rn_fn0 rfl G_is_below (hr.mono (by omega)) T.b_is_below takes_none5) (by rfl) T.g_is_below T.F_is_below.kp (ja_cons (je_var 3 (pe_var (i := 3) rfl (by first | exact Or.inl rfl | exact Or.inr (Or.inl rfl) | exact Or.inr (Or.inr rfl)))) (ja_cons (je_var 2 (pe_var (i := 2) rfl (by first | exact Or.inl rfl | exact Or.inr (Or.inl rfl) | exact Or.inr (Or.inr rfl)))) ja_nil))))) ja_nil) (fun h => pe_callB h (by rfl) T.n_any (by decide +kernel) pa)) rfl (fun _ => rfl)))
  (jss_one (js_drp (je_bm rm_append (je_var 1 (pe_var (i := 1) rfl (by first | exact Or.inl rfl | exact Or.inr (Or.inl rfl) | exact Or.inr (Or.inr rfl)))) (ja_cons (je_var 2 (pe_var (i := 2) rfl (by first | exact Or.inl rfl | exact Or.inr (Or.inl rfl) | exact Or.inr (Or.inr rfl)))) ja_nil) (fun h1 h2 => pe_bm PySem.F.plainAttrs_list PySem.F.slot_list_append PySem.F.type_list_append mt_append h1 h2))))
  jss_nil)))
  (jss_one (js_ret (je_var 1 (pe_var (i := 1) rfl (by first | exact Or.inl rfl | exact Or.inr (Or.inl rfl) | exact Or.inr (Or.inr rfl))))))))

end
end L03

set_option Elab.async false
set_option linter.all false
set_option maxRecDepth 100000
set_option maxHeartbeats 4000000
namespace L03
open PySem PySem.Spec PyProof.Rows L2 DX
set_option pp.maxSteps 1000
section
variable {P : Program} {w : World} {K : PySem.W.Frag} {mg : Str → Option Value} {base : Heap} {TT : List (Addr × Str)}
theorem ok_Region_init (T : Txt P w K mg) (G_is_number : FnOk P w K mg base (L2N.CX P w) 1 T.a_is_number T.d_is_number ["value", "least", "most"] (spD K TT sp_is_number)) (G_is_row : FnOk P w K mg base (L2N.CX P w) 2 T.a_is_row T.d_is_row ["width", "value"] (spD K TT sp_is_row)) (G_least_rows : FnOk P w K mg base (L2N.CX P w) 2 T.a_least_rows T.d_least_rows ["rows"] (spD K TT sp_least_rows)) : FnOk P w K mg base (L2N.CX P w) 3 T.a_Region_init T.d_Region_init ["self", "width", "rows"] (spD K TT sp_Region_init) :=
  fnDD T.F_Region_init sc_Region_init rfl fun cdv A outer s H E F eT hr tk => by
    subst eT
    have hu64 := hr.units
    have hu65 : (A.deeper (envOfC "Region.__init__" (defScope st_Region_init) s.heap.objs.size T.a_Region_init cdv)).units + 65 < cLine := by have := hr.un; omega
    exact (jss_cons (js_if (jt_not (jt_tru (je_call rfl (rn_fn0 rfl G_is_number (hr.mono (by omega)) T.b_is_number tk) (by rfl) T.g_is_number T.F_is_number.kp (ja_cons (je_var 1 (pe_var (i := 1) rfl (by first | exact Or.inl rfl | exact Or.inr (Or.inl rfl) | exact Or.inr (Or.inr rfl)))) (ja_cons je_int (ja_cons (je_con (pe_glob (v := .int 4) (by rfl) T.c_MOST_WIDTH ⟨_, rfl⟩) (fun _ => .int _)) ja_nil)))) rfl (fun _ => rfl)))
  (jss_one js_no)
  jss_nil)
  (jss_cons (js_for (fun h1 h2 h3 => ps_for (passes_of rfl) rfl h1 h2 h3) (ji_seq rfl (je_var 2 (pe_var (i := 2) rfl (by first | exact Or.inl rfl | exact Or.inr (Or.inl rfl) | exact Or.inr (Or.inr rfl))))) (jg_name (pg_name (i := 3) sc_Region_init.nd rfl (by first | exact Or.inl rfl | exact Or.inr rfl)))
  (jss_one (js_if (jt_not (jt_tru (je_call rfl (rn_fn0 rfl G_is_row (hr.mono (by omega)) T.b_is_row tk) (by rfl) T.g_is_row T.F_is_row.kp (ja_cons (je_var 1 (pe_var (i := 1) rfl (by first | exact Or.inl rfl | exact Or.inr (Or.inl rfl) | exact Or.inr (Or.inr rfl)))) (ja_cons (je_var 3 (pe_var (i := 3) rfl (by first | exact Or.inl rfl | exact Or.inr (Or.inl rfl) | exact Or.inr (Or.inr rfl)))) ja_nil))) rfl (fun _ => rfl)))
  (jss_one js_no)
  jss_nil)))
  (jss_cons (js_fld (f := "own_width") rfl (fld_cons T.cl_Region T.na_Region_own_width fld_nil) (je_var 0 (pe_var (i := 0) rfl (by first | exact Or.inl rfl | exact Or.inr (Or.inl rfl) | exact Or.inr (Or.inr rfl)))) (je_var 1 (pe_var (i := 1) rfl (by first | exact Or.inl rfl | exact Or.inr (Or.inl rfl) | exact Or.inr (Or.inr rfl)))))
  (jss_one (js_fld (f := "own_least") rfl (fld_cons T.cl_Region T.na_Region_own_least fld_nil) (je_var 0 (pe_var (i := 0) rfl (by first | exact Or.inl rfl | exact Or.inr (Or.inl rfl) | exact Or.inr (Or.inr rfl)))) (je_frz (je_call rfl (rn_fn0 rfl G_least_rows (hr.mono (by omega)) T.b_least_rows tk) (by rfl) T.g_least_rows T.F_least_rows.kp (ja_cons (je_var 2 (pe_var (i := 2) rfl (by first | exact Or.inl rfl | exact Or.inr (Or.inl rfl) | exact Or.inr (Or.inr rfl)))) ja_nil))))))))

end
end L03

set_option Elab.async false
set_option linter.all false
set_option maxRecDepth 100000
set_option maxHeartbeats 4000000
namespace L03
open PySem PySem.Spec PyProof.Rows L2 DX
set_option pp.maxSteps 1000
section
variable {P : Program} {w : World} {K : PySem.W.Frag} {mg : Str → Option Value} {base : Heap} {TT : List (Addr × Str)}
theorem ok_Region_repr (T : Txt P w K mg)  : FnOk P w K mg base (L2N.CX P w) 1 T.a_Region_repr T.d_Region_repr ["self"] (spD K TT sp_Region_repr) :=
  fnD T.F_Region_repr sc_Region_repr rfl fun cdv A outer s H E F eT hr tk => by
    subst eT
    have hu64 := hr.units
    have hu65 : (A.deeper (envOfC "Region.__repr__" (defScope st_Region_repr) s.heap.objs.size T.a_Region_repr cdv)).units + 65 < cLine := by have := hr.un; omega
    exact (jss_one (js_ret (je_joined (jj_cons je_str (jj_cons (je_fmt (je_cb (oc_len rfl) (ja_cons (je_attr (f := "own_least") rfl (ats_cons (.fld T.cl_Region T.na_Region_own_least) ats_nil) (je_var 0 (pe_var (i := 0) rfl (by first | exact Or.inl rfl | exact Or.inr (Or.inl rfl) | exact Or.inr (Or.inr rfl))))) ja_nil) (fun h => pe_callB h (by rfl) T.n_len (by decide +kernel) pa))) (jj_cons je_str jj_nil))))))

end
end L03

set_option Elab.async false
set_option linter.all false
set_option maxRecDepth 100000
set_option maxHeartbeats 4000000
namespace L03
open PySem PySem.Spec PyProof.Rows L2 DX
set_option pp.maxSteps 1000
section
variable {P : Program} {w : World} {K : PySem.W.Frag} {mg : Str → Option Value} {base : Heap} {TT : List (Addr × Str)}
theorem ok_Region_bool (T : Txt P w K mg)  : FnOk P w K mg base (L2N.CX P w) 1 T.a_Region_bool T.d_Region_bool ["self"] (spD K TT sp_Region_bool) :=
  fnD T.F_Region_bool sc_Region_bool rfl fun cdv A outer s H E F eT hr tk => by
    subst eT
    have hu64 := hr.units
    have hu65 : (A.deeper (envOfC "Region.__bool__" (defScope st_Region_bool) s.heap.objs.size T.a_Region_bool cdv)).units + 65 < cLine := by have := hr.un; omega
    exact (jss_one (js_ret (je_cmp ob_gt (nomark _) (je_cb (oc_len rfl) (ja_cons (je_attr (f := "own_least") rfl (ats_cons (.fld T.cl_Region T.na_Region_own_least) ats_nil) (je_var 0 (pe_var (i := 0) rfl (by first | exact Or.inl rfl | exact Or.inr (Or.inl rfl) | exact Or.inr (Or.inr rfl))))) ja_nil) (fun h => pe_callB h (by rfl) T.n_len (by decide +kernel) pa)) je_int)))

end
end L03

set_option Elab.async false
set_option linter.all false
set_option maxRecDepth 100000
set_option maxHeartbeats 4000000
namespace L03
open PySem PySem.Spec PyProof.Rows L2 DX
set_option pp.maxSteps 1000
section
variable {P : Program} {w : World} {K : PySem.W.Frag} {mg : Str → Option Value} {base : Heap} {TT : List (Addr × Str)}
theorem ok_Region_len (T : Txt P w K mg)  : FnOk P w K mg base (L2N.CX P w) 1 T.a_Region_len T.d_Region_len ["self"] (spD K TT sp_Region_len) :=
  fnD T.F_Region_len sc_Region_len rfl fun cdv A outer s H E F eT hr tk => by
    subst eT
    have hu64 := hr.units
    have hu65 : (A.deeper (envOfC "Region.__len__" (defScope st_Region_len) s.heap.objs.size T.a_Region_len cdv)).units + 65 < cLine := by have := hr.un; omega
    exact (jss_one (js_ret (je_cb (oc_len rfl) (ja_cons (je_attr (f := "own_least") rfl (ats_cons (.fld T.cl_Region T.na_Region_own_least) ats_nil) (je_var 0 (pe_var (i := 0) rfl (by first | exact Or.inl rfl | exact Or.inr (Or.inl rfl) | exact Or.inr (Or.inr rfl))))) ja_nil) (fun h => pe_callB h (by rfl) T.n_len (by decide +kernel) pa))))

end
end L03

set_option Elab.async false
set_option linter.all false
set_option maxRecDepth 100000
set_option maxHeartbeats 4000000
namespace L03
open PySem PySem.Spec PyProof.Rows L2 DX
set_option pp.maxSteps 1000
section
variable {P : Program} {w : World} {K : PySem.W.Frag} {mg : Str → Option Value} {base : Heap} {TT : List (Addr × Str)}
theorem ok_Region_rows (T : Txt P w K mg)  : FnOk P w K mg base (L2N.CX P w) 1 T.a_Region_rows T.d_Region_rows ["self"] (spD K TT sp_Region_rows) :=
  fnD T.F_Region_rows sc_Region_rows rfl fun cdv A outer s H E F eT hr tk => by
    subst eT
    have hu64 := hr.units
    have hu65 : (A.deeper (envOfC "Region.rows" (defScope st_Region_rows) s.heap.objs.size T.a_Region_rows cdv)).units + 65 < cLine := by have := hr.un; omega
    exact (jss_one (js_ret (je_cb (oc_list rfl) (ja_cons (je_attr (f := "own_least") rfl (ats_cons (.fld T.cl_Region T.na_Region_own_least) ats_nil) (je_var 0 (pe_var (i := 0) rfl (by first | exact Or.inl rfl | exact Or.inr (Or.inl rfl) | exact Or.inr (Or.inr rfl))))) ja_nil) (fun h => pe_callTy h (by rfl) T.n_list (by decide +kernel) pa))))

end
end L03

set_option Elab.async false
set_option linter.all false
set_option maxRecDepth 100000
set_option maxHeartbeats 4000000
namespace L03
open PySem PySem.Spec PyProof.Rows L2 DX
set_option pp.maxSteps 1000
section
variable {P : Program} {w : World} {K : PySem.W.Frag} {mg : Str → Option Value} {base : Heap} {TT : List (Addr × Str)}
theorem ok_Region_width (T : Txt P w K mg)  : FnOk P w K mg base (L2N.CX P w) 1 T.a_Region_width T.d_Region_width ["self"] (spD K TT sp_Region_width) :=
  fnD T.F_Region_width sc_Region_width rfl fun cdv A outer s H E F eT hr tk => by
    subst eT
    have hu64 := hr.units
    have hu65 : (A.deeper (envOfC "Region.width" (defScope st_Region_width) s.heap.objs.size T.a_Region_width cdv)).units + 65 < cLine := by have := hr.un; omega
    exact (jss_one (js_ret (je_attr (f := "own_width") rfl (ats_cons (.fld T.cl_Region T.na_Region_own_width) ats_nil) (je_var 0 (pe_var (i := 0) rfl (by first | exact Or.inl rfl | exact Or.inr (Or.inl rfl) | exact Or.inr (Or.inr rfl)))))))

end
end L03

set_option Elab.async false
set_option linter.all false
set_option maxRecDepth 100000
set_option maxHeartbeats 4000000
namespace L03
open PySem PySem.Spec PyProof.Rows L2 DX
set_option pp.maxSteps 1000
section
variable {P : Program} {w : World} {K : PySem.W.Frag} {mg : Str → Option Value} {base : Heap} {TT : List (Addr × Str)}
theorem okr_law_same (T : Txt P w K mg) (r : DSp) (j : Nat) (hj : 0 ≤ j)  (G_law_same : FnOk P w K mg base (L2N.CX P w) j T.a_law_same T.d_law_same ["_law_found", "_law_due"] (spD K TT r)) : FnOk P w K mg base (L2N.CX P w) (j + 1) T.a_law_same T.d_law_same ["_law_found", "_law_due"] (spD K TT (bodyD 2 4 (m_law_same r))) :=
  fnD T.F_law_same sc_law_same rfl fun cdv A outer s H E F eT hr tk => by
    subst eT
    have hu64 := hr.units
    have hu65 : (A.deeper (envOfC "_law_same" (defScope st_law_same) s.heap.objs.size T.a_law_same cdv)).units + 65 < cLine := by have := hr.un; omega
    exact (jss_cons (js_if (jt_tru (je_isiT rfl T.isi (je_var 1 (pe_var (i := 1) rfl (by first | exact Or.inl rfl | exact Or.inr (Or.inl rfl) | exact Or.inr (Or.inr rfl)))) (ja_cons (je_con (pe_bltn (v := .ty "list") (by rfl) T.n_list (by decide +kernel) rfl) (fun _ => .ty _)) (ja_cons (je_con (pe_bltn (v := .ty "tuple") (by rfl) T.n_tuple (by decide +kernel) rfl) (fun _ => .ty _)) ja_nil)) (fun h1 h2 => pe_callB h1 (by rfl) T.n_isinstance (by decide +kernel) h2)) rfl (fun _ => rfl))
  (jss_cons (js_if (JW.jt (jw_or (jt_cmp (ob_ne rfl hu64) (nomark _) (je_cb (oc_isi rfl T.isi) (ja_cons (je_var 0 (pe_var (i := 0) rfl (by first | exact Or.inl rfl | exact Or.inr (Or.inl rfl) | exact Or.inr (Or.inr rfl)))) (ja_cons (je_con (pe_bltn (v := .ty "list") (by rfl) T.n_list (by decide +kernel) rfl) (fun _ => .ty _)) ja_nil)) (fun h => pe_callB h (by rfl) T.n_isinstance (by decide +kernel) pa)) (je_cb (oc_isi rfl T.isi) (ja_cons (je_var 1 (pe_var (i := 1) rfl (by first | exact Or.inl rfl | exact Or.inr (Or.inl rfl) | exact Or.inr (Or.inr rfl)))) (ja_cons (je_con (pe_bltn (v := .ty "list") (by rfl) T.n_list (by decide +kernel) rfl) (fun _ => .ty _)) ja_nil)) (fun h => pe_callB h (by rfl) T.n_isinstance (by decide +kernel) pa))) (jw_or1 (jt_cmp (ob_ne rfl hu64) (nomark _) (je_cb (oc_isi rfl T.isi) (ja_cons (je_var 0 (pe_var (i := 0) rfl (by first | exact Or.inl rfl | exact Or.inr (Or.inl rfl) | exact Or.inr (Or.inr rfl)))) (ja_cons (je_con (pe_bltn (v := .ty "tuple") (by rfl) T.n_tuple (by decide +kernel) rfl) (fun _ => .ty _)) ja_nil)) (fun h => pe_callB h (by rfl) T.n_isinstance (by decide +kernel) pa)) (je_cb (oc_isi rfl T.isi) (ja_cons (je_var 1 (pe_var (i := 1) rfl (by first | exact Or.inl rfl | exact Or.inr (Or.inl rfl) | exact Or.inr (Or.inr rfl)))) (ja_cons (je_con (pe_bltn (v := .ty "tuple") (by rfl) T.n_tuple (by decide +kernel) rfl) (fun _ => .ty _)) ja_nil)) (fun h => pe_callB h (by rfl) T.n_isinstance (by decide +kernel) pa))))))
  (jss_one (js_ret je_bl))
  jss_nil)
  (jss_one (js_ret (je_and rfl (je_cmp (ob_eq rfl hu64) (nomark _) (je_cb (oc_len rfl) (ja_cons (je_var 0 (pe_var (i := 0) rfl (by first | exact Or.inl rfl | exact Or.inr (Or.inl rfl) | exact Or.inr (Or.inr rfl)))) ja_nil) (fun h => pe_callB h (by rfl) T.n_len (by decide +kernel) pa)) (je_cb (oc_len rfl) (ja_cons (je_var 1 (pe_var (i := 1) rfl (by first | exact Or.inl rfl | exact Or.inr (Or.inl rfl) | exact Or.inr (Or.inr rfl)))) ja_nil) (fun h => pe_callB h (by rfl) T.n_len (by decide +kernel) pa))) (je_one (je_cb (oc_all rfl rfl) (ja_cons (je_lcG (own := [("_law_one", 2), ("_law_other", 3)]) rfl (by decide) sc_law_same.nd (blkOk_by (N := N_law_same) (sc := defScope st_law_same) (by decide +kernel)) (ji_zip (RZ.pi_zipA (by rfl) T.n_zip pa) (ja_cons (je_var 0 (pe_var (i := 0) rfl (by first | exact Or.inl rfl | exact Or.inr (Or.inl rfl) | exact Or.inr (Or.inr rfl)))) (ja_cons (je_var 1 (pe_var (i := 1) rfl (by first | exact Or.inl rfl | exact Or.inr (Or.inl rfl) | exact Or.inr (Or.inr rfl)))) ja_nil))) (fun _ _ _ _ _ => (jg_tup rfl (by rfl) (jgs_cons (quiet_consN quiet_nil) (jg_name (pg_name (i := 2) sc_law_same.nd rfl (by first | exact Or.inl rfl | exact Or.inr rfl))) (jgs_cons quiet_nil (jg_name (pg_name (i := 3) sc_law_same.nd rfl (by first | exact Or.inl rfl | exact Or.inr rfl))) jgs_nil)))) (fun _ _ _ _ _ => jts_nil) (fun _ _ _ _ _ => (je_call rfl (rn_fn0 rfl G_law_same (hr.mono (by omega)) T.b_law_same takes_none5) (by rfl) T.g_law_same T.F_law_same.kp (ja_cons (je_var 2 (pe_var (i := 2) rfl (by first | exact Or.inl rfl | exact Or.inr (Or.inl rfl) | exact Or.inr (Or.inr rfl)))) (ja_cons (je_var 3 (pe_var (i := 3) rfl (by first | exact Or.inl rfl | exact Or.inr (Or.inl rfl) | exact Or.inr (Or.inr rfl)))) ja_nil))))) ja_nil) (fun h => pe_callB h (by rfl) T.n_all (by decide +kernel) pa)))))))
  jss_nil)
  (jss_cons (js_if (JW.jt (jw_or (jt_cmp ob_isN (nomark _) (je_var 1 (pe_var (i := 1) rfl (by first | exact Or.inl rfl | exact Or.inr (Or.inl rfl) | exact Or.inr (Or.inr rfl)))) je_non) (jw_or1 (jt_cmp ob_isN (nomark _) (je_var 0 (pe_var (i := 0) rfl (by first | exact Or.inl rfl | exact Or.inr (Or.inl rfl) | exact Or.inr (Or.inr rfl)))) je_non))))
  (jss_one (js_ret (je_and rfl (je_cmp ob_isN (nomark _) (je_var 1 (pe_var (i := 1) rfl (by first | exact Or.inl rfl | exact Or.inr (Or.inl rfl) | exact Or.inr (Or.inr rfl)))) je_non) (je_one (je_cmp ob_isN (nomark _) (je_var 0 (pe_var (i := 0) rfl (by first | exact Or.inl rfl | exact Or.inr (Or.inl rfl) | exact Or.inr (Or.inr rfl)))) je_non)))))
  jss_nil)
  (jss_cons (js_if (JW.jt (jw_or (jt_cmp (ob_ne rfl hu64) (nomark _) (je_cb (oc_isi rfl T.isi) (ja_cons (je_var 1 (pe_var (i := 1) rfl (by first | exact Or.inl rfl | exact Or.inr (Or.inl rfl) | exact Or.inr (Or.inr rfl)))) (ja_cons (je_con (pe_bltn (v := .ty "bool") (by rfl) T.n_bool (by decide +kernel) rfl) (fun _ => .ty _)) ja_nil)) (fun h => pe_callB h (by rfl) T.n_isinstance (by decide +kernel) pa)) (je_cb (oc_isi rfl T.isi) (ja_cons (je_var 0 (pe_var (i := 0) rfl (by first | exact Or.inl rfl | exact Or.inr (Or.inl rfl) | exact Or.inr (Or.inr rfl)))) (ja_cons (je_con (pe_bltn (v := .ty "bool") (by rfl) T.n_bool (by decide +kernel) rfl) (fun _ => .ty _)) ja_nil)) (fun h => pe_callB h (by rfl) T.n_isinstance (by decide +kernel) pa))) (jw_or1 (jt_cmp (ob_ne rfl hu64) (nomark _) (je_cb (oc_isi rfl T.isi) (ja_cons (je_var 1 (pe_var (i := 1) rfl (by first | exact Or.inl rfl | exact Or.inr (Or.inl rfl) | exact Or.inr (Or.inr rfl)))) (ja_cons (je_con (pe_bltn (v := .ty "int") (by rfl) T.n_int (by decide +kernel) rfl) (fun _ => .ty _)) ja_nil)) (fun h => pe_callB h (by rfl) T.n_isinstance (by decide +kernel) pa)) (je_cb (oc_isi rfl T.isi) (ja_cons (je_var 0 (pe_var (i := 0) rfl (by first | exact Or.inl rfl | exact Or.inr (Or.inl rfl) | exact Or.inr (Or.inr rfl)))) (ja_cons (je_con (pe_bltn (v := .ty "int") (by rfl) T.n_int (by decide +kernel) rfl) (fun _ => .ty _)) ja_nil)) (fun h => pe_callB h (by rfl) T.n_isinstance (by decide +kernel) pa))))))
  (jss_one (js_ret je_bl))
  jss_nil)
  (jss_one (js_ret (je_and rfl (je_cmp (ob_eq rfl hu64) (nomark _) (je_cb (oc_isi rfl T.isi) (ja_cons (je_var 1 (pe_var (i := 1) rfl (by first | exact Or.inl rfl | exact Or.inr (Or.inl rfl) | exact Or.inr (Or.inr rfl)))) (ja_cons (je_con (pe_bltn (v := .ty "str") (by rfl) T.n_str (by decide +kernel) rfl) (fun _ => .ty _)) ja_nil)) (fun h => pe_callB h (by rfl) T.n_isinstance (by decide +kernel) pa)) (je_cb (oc_isi rfl T.isi) (ja_cons (je_var 0 (pe_var (i := 0) rfl (by first | exact Or.inl rfl | exact Or.inr (Or.inl rfl) | exact Or.inr (Or.inr rfl)))) (ja_cons (je_con (pe_bltn (v := .ty "str") (by rfl) T.n_str (by decide +kernel) rfl) (fun _ => .ty _)) ja_nil)) (fun h => pe_callB h (by rfl) T.n_isinstance (by decide +kernel) pa))) (je_one (je_cmp (ob_eq rfl hu64) (nomark _) (je_var 0 (pe_var (i := 0) rfl (by first | exact Or.inl rfl | exact Or.inr (Or.inl rfl) | exact Or.inr (Or.inr rfl)))) (je_var 1 (pe_var (i := 1) rfl (by first | exact Or.inl rfl | exact Or.inr (Or.inl rfl) | exact Or.inr (Or.inr rfl))))))))))))
theorem okn_law_same (T : Txt P w K mg)  : ∀ i, FnOk P w K mg base (L2N.CX P w) (0 + i) T.a_law_same T.d_law_same ["_law_found", "_law_due"] (spD K TT (spn_law_same i))
  | 0 => fn_false
  | i + 1 => okr_law_same T (spn_law_same i) (0 + i) (by omega) (okn_law_same T i)
theorem ok_law_same (T : Txt P w K mg)  : FnOk P w K mg base (L2N.CX P w) 5 T.a_law_same T.d_law_same ["_law_found", "_law_due"] (spD K TT sp_law_same) := (okn_law_same T 4).mono (by omega)

end
end L03

set_option Elab.async false
set_option linter.all false
set_option maxRecDepth 100000
set_option maxHeartbeats 4000000
namespace L03
open PySem PySem.Spec PyProof.Rows L2 DX
set_option pp.maxSteps 1000
section
variable {P : Program} {w : World} {K : PySem.W.Frag} {mg : Str → Option Value} {base : Heap} {TT : List (Addr × Str)}
theorem ok_Region_contains (T : Txt P w K mg) (G_is_below : FnOk P w K mg base (L2N.CX P w) 1 T.a_is_below T.d_is_below ["one", "other"] (spD K TT sp_is_below)) (G_is_row : FnOk P w K mg base (L2N.CX P w) 2 T.a_is_row T.d_is_row ["width", "value"] (spD K TT sp_is_row)) : FnOk P w K mg base (L2N.CX P w) 3 T.a_Region_contains T.d_Region_contains ["self", "value"] (spD K TT sp_Region_contains) :=
  fnD T.F_Region_contains sc_Region_contains rfl fun cdv A outer s H E F eT hr tk => by
    subst eT
    have hu64 := hr.units
    have hu65 : (A.deeper (envOfC "Region.__contains__" (defScope st_Region_contains) s.heap.objs.size T.a_Region_contains cdv)).units + 65 < cLine := by have := hr.un; omega
    exact (jss_one (js_ret (je_and rfl (je_call rfl (rn_fn0 rfl G_is_row (hr.mono (by omega)) T.b_is_row tk) (by rfl) T.g_is_row T.F_is_row.kp (ja_cons (je_attr (f := "own_width") rfl (ats_cons (.fld T.cl_Region T.na_Region_own_width) ats_nil) (je_var 0 (pe_var (i := 0) rfl (by first | exact Or.inl rfl | exact Or.inr (Or.inl rfl) | exact Or.inr (Or.inr rfl))))) (ja_cons (je_var 1 (pe_var (i := 1) rfl (by first | exact Or.inl rfl | exact Or.inr (Or.inl rfl) | exact Or.inr (Or.inr rfl)))) ja_nil))) (je_one (je_cb (oc_any rfl rfl) (ja_cons (je_lcG (own := [("row", 2)]) rfl (by decide) sc_Region_contains.nd (blkOk_by (N := N_Region_contains) (sc := defScope st_Region_contains) (by decide +kernel)) (ji_seq rfl (je_attr (f := "own_least") rfl (ats_cons (.fld T.cl_Region T.na_Region_own_least) ats_nil) (je_var 0 (pe_var (i := 0) rfl (by first | exact Or.inl rfl | exact Or.inr (Or.inl rfl) | exact Or.inr (Or.inr rfl)))))) (fun _ _ _ _ _ => (jg_name (pg_name (i := 2) sc_Region_contains.nd rfl (by first | exact Or.inl rfl | exact Or.inr rfl)))) (fun _ _ _ _ _ => jts_nil) (fun _ _ _ _ _ => (je_call rfl (rn_fn0 rfl G_is_below (hr.mono (by omega)) T.b_is_below takes_none5) (by rfl) T.g_is_below T.F_is_below.kp (ja_cons (je_var 2 (pe_var (i := 2) rfl (by first | exact Or.inl rfl | exact Or.inr (Or.inl rfl) | exact Or.inr (Or.inr rfl)))) (ja_cons (je_var 1 (pe_var (i := 1) rfl (by first | exact Or.inl rfl | exact Or.inr (Or.inl rfl) | exact Or.inr (Or.inr rfl)))) ja_nil))))) ja_nil) (fun h => pe_callB h (by rfl) T.n_any (by decide +kernel) pa))))))

end
end L03

set_option Elab.async false
set_option linter.all false
set_option maxRecDepth 100000
set_option maxHeartbeats 4000000
namespace L03
open PySem PySem.Spec PyProof.Rows L2 DX
set_option pp.maxSteps 1000
section
variable {P : Program} {w : World} {K : PySem.W.Frag} {mg : Str → Option Value} {base : Heap} {TT : List (Addr × Str)}
theorem ok_law_holds (T : Txt P w K mg) (G_law_under : FnOk P w K mg base (L2N.CX P w) 1 T.a_law_under T.d_law_under ["_law_one", "_law_other"] (spD K TT sp_law_under)) : FnOk P w K mg base (L2N.CX P w) 2 T.a_law_holds T.d_law_holds ["_law_rows_z", "_law_row"] (spD K TT sp_law_holds) :=
  fnD T.F_law_holds sc_law_holds rfl fun cdv A outer s H E F eT hr tk => by
    subst eT
    have hu64 := hr.units
    have hu65 : (A.deeper (envOfC "_law_holds" (defScope st_law_holds) s.heap.objs.size T.a_law_holds cdv)).units + 65 < cLine := by have := hr.un; omega
    exact (jss_one (js_ret (je_cb (oc_any rfl rfl) (ja_cons (je_lcG (own := [("_law_less", 2)]) rfl (by decide) sc_law_holds.nd (blkOk_by (N := N_law_holds) (sc := defScope st_law_holds) (by decide +kernel)) (ji_seq rfl (je_var 0 (pe_var (i := 0) rfl (by first | exact Or.inl rfl | exact Or.inr (Or.inl rfl) | exact Or.inr (Or.inr rfl))))) (fun _ _ _ _ _ => (jg_name (pg_name (i := 2) sc_law_holds.nd rfl (by first | exact Or.inl rfl | exact Or.inr rfl)))) (fun _ _ _ _ _ => jts_nil) (fun _ _ _ _ _ => (je_call rfl (rn_fn0 rfl G_law_under (hr.mono (by omega)) T.b_law_under takes_none5) (by rfl) T.g_law_under T.F_law_under.kp (ja_cons (je_var 2 (pe_var (i := 2) rfl (by first | exact Or.inl rfl | exact Or.inr (Or.inl rfl) | exact Or.inr (Or.inr rfl)))) (ja_cons (je_var 1 (pe_var (i := 1) rfl (by first | exact Or.inl rfl | exact Or.inr (Or.inl rfl) | exact Or.inr (Or.inr rfl)))) ja_nil))))) ja_nil) (fun h => pe_callB h (by rfl) T.n_any (by decide +kernel) pa))))

end
end L03

set_option Elab.async false
set_option linter.all false
set_option maxRecDepth 100000
set_option maxHeartbeats 4000000
namespace L03
open PySem PySem.Spec PyProof.Rows L2 DX
set_option pp.maxSteps 1000
section
variable {P : Program} {w : World} {K : PySem.W.Frag} {mg : Str → Option Value} {base : Heap} {TT : List (Addr × Str)}
theorem ok_law_pick (T : Txt P w K mg) (G_law_pull : FnOk P w K mg base (L2N.CX P w) 1 T.a_law_pull T.d_law_pull ["_law_bag_here", "_law_many"] (spD K TT sp_law_pull)) : FnOk P w K mg base (L2N.CX P w) 2 T.a_law_pick T.d_law_pick ["_law_bag_here", "_law_row"] (spD K TT sp_law_pick) :=
  fnD T.F_law_pick sc_law_pick rfl fun cdv A outer s H E F eT hr tk => by
    subst eT
    have hu64 := hr.units
    have hu65 : (A.deeper (envOfC "_law_pick" (defScope st_law_pick) s.heap.objs.size T.a_law_pick cdv)).units + 65 < cLine := by have := hr.un; omega
    exact (jss_one (js_ret (je_ix rfl (je_var 1 (pe_var (i := 1) rfl (by first | exact Or.inl rfl | exact Or.inr (Or.inl rfl) | exact Or.inr (Or.inr rfl)))) (je_call rfl (rn_fn0 rfl G_law_pull (hr.mono (by omega)) T.b_law_pull tk) (by rfl) T.g_law_pull T.F_law_pull.kp (ja_cons (je_var 0 (pe_var (i := 0) rfl (by first | exact Or.inl rfl | exact Or.inr (Or.inl rfl) | exact Or.inr (Or.inr rfl)))) (ja_cons (je_cb (oc_len rfl) (ja_cons (je_var 1 (pe_var (i := 1) rfl (by first | exact Or.inl rfl | exact Or.inr (Or.inl rfl) | exact Or.inr (Or.inr rfl)))) ja_nil) (fun h => pe_callB h (by rfl) T.n_len (by decide +kernel) pa)) ja_nil))) (fun _ _ => rfl))))

end
end L03

set_option Elab.async false
set_option linter.all false
set_option maxRecDepth 100000
set_option maxHeartbeats 4000000
namespace L03
open PySem PySem.Spec PyProof.Rows L2 DX
set_option pp.maxSteps 1000
section
variable {P : Program} {w : World} {K : PySem.W.Frag} {mg : Str → Option Value} {base : Heap} {TT : List (Addr × Str)}
theorem ok_Region_full (T : Txt P w K mg) (G_is_number : FnOk P w K mg base (L2N.CX P w) 1 T.a_is_number T.d_is_number ["value", "least", "most"] (spD K TT sp_is_number)) (G_Region_init : FnOk P w K mg base (L2N.CX P w) 3 T.a_Region_init T.d_Region_init ["self", "width", "rows"] (spD K TT sp_Region_init)) : FnOk P w K mg base (L2N.CX P w) 5 T.a_Region_full T.d_Region_full ["width"] (spD K TT sp_Region_full) :=
  fnD T.F_Region_full sc_Region_full rfl fun cdv A outer s H E F eT hr tk => by
    subst eT
    have hu64 := hr.units
    have hu65 : (A.deeper (envOfC "Region.full" (defScope st_Region_full) s.heap.objs.size T.a_Region_full cdv)).units + 65 < cLine := by have := hr.un; omega
    exact (jss_cons (js_if (jt_not (jt_tru (je_call rfl (rn_fn0 rfl G_is_number (hr.mono (by omega)) T.b_is_number tk) (by rfl) T.g_is_number T.F_is_number.kp (ja_cons (je_var 0 (pe_var (i := 0) rfl (by first | exact Or.inl rfl | exact Or.inr (Or.inl rfl) | exact Or.inr (Or.inr rfl)))) (ja_cons je_int (ja_cons (je_con (pe_glob (v := .int 4) (by rfl) T.c_MOST_WIDTH ⟨_, rfl⟩) (fun _ => .int _)) ja_nil)))) rfl (fun _ => rfl)))
  (jss_one js_no)
  jss_nil)
  (jss_one (js_ret (je_frz (je_call rfl (rn_mk0 rfl T.mk_Region G_Region_init (hr.mono (by omega)) T.b_Region_init len_Region_init tk) (by rfl) T.c_Region T.kc_Region (ja_cons (je_var 0 (pe_var (i := 0) rfl (by first | exact Or.inl rfl | exact Or.inr (Or.inl rfl) | exact Or.inr (Or.inr rfl)))) (ja_cons (je_lst (ja_cons (je_op (ob_mul rfl) (je_tup (ja_cons je_int ja_nil)) (je_var 0 (pe_var (i := 0) rfl (by first | exact Or.inl rfl | exact Or.inr (Or.inl rfl) | exact Or.inr (Or.inr rfl))))) ja_nil)) ja_nil)))))))

end
end L03

set_option Elab.async false
set_option linter.all false
set_option maxRecDepth 100000
set_option maxHeartbeats 4000000
namespace L03
open PySem PySem.Spec PyProof.Rows L2 DX
set_option pp.maxSteps 1000
section
variable {P : Program} {w : World} {K : PySem.W.Frag} {mg : Str → Option Value} {base : Heap} {TT : List (Addr × Str)}
theorem ok_law_mixed (T : Txt P w K mg) (G_law_pull : FnOk P w K mg base (L2N.CX P w) 1 T.a_law_pull T.d_law_pull ["_law_bag_here", "_law_many"] (spD K TT sp_law_pull)) : FnOk P w K mg base (L2N.CX P w) 2 T.a_law_mixed T.d_law_mixed ["_law_bag_here", "_law_row"] (spD K TT sp_law_mixed) :=
  fnD T.F_law_mixed sc_law_mixed rfl fun cdv A outer s H E F eT hr tk => by
    subst eT
    have hu64 := hr.units
    have hu65 : (A.deeper (envOfC "_law_mixed" (defScope st_law_mixed) s.heap.objs.size T.a_law_mixed cdv)).units + 65 < cLine := by have := hr.un; omega
    exact (jss_cons (js_par (fun h => ps_par (i := 2) (j := 3) (by rfl) sc_law_mixed.nd rfl rfl (by decide) rfl rfl h (by rfl)) (ja_cons (je_cb (oc_list rfl) (ja_cons (je_var 1 (pe_var (i := 1) rfl (by first | exact Or.inl rfl | exact Or.inr (Or.inl rfl) | exact Or.inr (Or.inr rfl)))) ja_nil) (fun h => pe_callTy h (by rfl) T.n_list (by decide +kernel) pa)) (ja_cons (je_lst ja_nil) ja_nil)))
  (jss_cons (js_for (fun h1 h2 h3 => ps_for (passes_of rfl) rfl h1 h2 h3) (ji_rng1 (ja_cons (je_cb (oc_len rfl) (ja_cons (je_var 2 (pe_var (i := 2) rfl (by first | exact Or.inl rfl | exact Or.inr (Or.inl rfl) | exact Or.inr (Or.inr rfl)))) ja_nil) (fun h => pe_callB h (by rfl) T.n_len (by decide +kernel) pa)) ja_nil) (pi_range1 (by rfl) T.n_range pa)) (jg_name (pg_name (i := 4) sc_law_mixed.nd rfl (by first | exact Or.inl rfl | exact Or.inr rfl)))
  (jss_one (js_drp (je_bm rm_append (je_var 3 (pe_var (i := 3) rfl (by first | exact Or.inl rfl | exact Or.inr (Or.inl rfl) | exact Or.inr (Or.inr rfl)))) (ja_cons (je_bm rm_popAt (je_var 2 (pe_var (i := 2) rfl (by first | exact Or.inl rfl | exact Or.inr (Or.inl rfl) | exact Or.inr (Or.inr rfl)))) (ja_cons (je_call rfl (rn_fn0 rfl G_law_pull (hr.mono (by omega)) T.b_law_pull tk) (by rfl) T.g_law_pull T.F_law_pull.kp (ja_cons (je_var 0 (pe_var (i := 0) rfl (by first | exact Or.inl rfl | exact Or.inr (Or.inl rfl) | exact Or.inr (Or.inr rfl)))) (ja_cons (je_cb (oc_len rfl) (ja_cons (je_var 2 (pe_var (i := 2) rfl (by first | exact Or.inl rfl | exact Or.inr (Or.inl rfl) | exact Or.inr (Or.inr rfl)))) ja_nil) (fun h => pe_callB h (by rfl) T.n_len (by decide +kernel) pa)) ja_nil))) ja_nil) (fun h1 h2 => pe_bm PySem.F.plainAttrs_list PySem.F.slot_list_pop PySem.F.type_list_pop mt_popAt h1 h2)) ja_nil) (fun h1 h2 => pe_bm PySem.F.plainAttrs_list PySem.F.slot_list_append PySem.F.type_list_append mt_append h1 h2)))))
  (jss_one (js_ret (je_var 3 (pe_var (i := 3) rfl (by first | exact Or.inl rfl | exact Or.inr (Or.inl rfl) | exact Or.inr (Or.inr rfl))))))))

end
end L03

set_option Elab.async false
set_option linter.all false
set_option maxRecDepth 100000
set_option maxHeartbeats 4000000
namespace L03
open PySem PySem.Spec PyProof.Rows L2 DX
set_option pp.maxSteps 1000
section
variable {P : Program} {w : World} {K : PySem.W.Frag} {mg : Str → Option Value} {base : Heap} {TT : List (Addr × Str)}
theorem ok_Region_eq (T : Txt P w K mg)  : FnOk P w K mg base (L2N.CX P w) 1 T.a_Region_eq T.d_Region_eq ["self", "other"] (spD K TT sp_Region_eq) :=
  fnD T.F_Region_eq sc_Region_eq rfl fun cdv A outer s H E F eT hr tk => by
    subst eT
    have hu64 := hr.units
    have hu65 : (A.deeper (envOfC "Region.__eq__" (defScope st_Region_eq) s.heap.objs.size T.a_Region_eq cdv)).units + 65 < cLine := by have := hr.un; omega
    exact (jss_one (js_ret (je_and rfl (je_cb (oc_isi rfl T.isi) (ja_cons (je_var 1 (pe_var (i := 1) rfl (by first | exact Or.inl rfl | exact Or.inr (Or.inl rfl) | exact Or.inr (Or.inr rfl)))) (ja_cons (je_con (pe_glob (v := .ref (clsAt K "Region")) (by rfl) T.c_Region rfl) (fun _ => .cls _)) ja_nil)) (fun h => pe_callB h (by rfl) T.n_isinstance (by decide +kernel) pa)) (je_one (je_cmp (ob_eq rfl hu64) (nomark _) (je_tup (ja_cons (je_attr (f := "own_width") rfl (ats_cons (.fld T.cl_Region T.na_Region_own_width) ats_nil) (je_var 0 (pe_var (i := 0) rfl (by first | exact Or.inl rfl | exact Or.inr (Or.inl rfl) | exact Or.inr (Or.inr rfl))))) (ja_cons (je_attr (f := "own_least") rfl (ats_cons (.fld T.cl_Region T.na_Region_own_least) ats_nil) (je_var 0 (pe_var (i := 0) rfl (by first | exact Or.inl rfl | exact Or.inr (Or.inl rfl) | exact Or.inr (Or.inr rfl))))) ja_nil))) (je_tup (ja_cons (je_attr (f := "own_width") rfl (ats_cons (.fld T.cl_Region T.na_Region_own_width) ats_nil) (je_var 1 (pe_var (i := 1) rfl (by first | exact Or.inl rfl | exact Or.inr (Or.inl rfl) | exact Or.inr (Or.inr rfl))))) (ja_cons (je_attr (f := "own_least") rfl (ats_cons (.fld T.cl_Region T.na_Region_own_least) ats_nil) (je_var 1 (pe_var (i := 1) rfl (by first | exact Or.inl rfl | exact Or.inr (Or.inl rfl) | exact Or.inr (Or.inr rfl))))) ja_nil))))))))

end
end L03

set_option Elab.async false
set_option linter.all false
set_option maxRecDepth 100000
set_option maxHeartbeats 4000000
namespace L03
open PySem PySem.Spec PyProof.Rows L2 DX
set_option pp.maxSteps 1000
section
variable {P : Program} {w : World} {K : PySem.W.Frag} {mg : Str → Option Value} {base : Heap} {TT : List (Addr × Str)}
theorem ok_law_bag (T : Txt P w K mg) : FnOk P w K mg base (L2N.CX P w) 1 T.a_law_bag T.d_law_bag ["_law_script"] (spBag K) := by
  refine okFN T.F_law_bag sc_law_bag (fun vs H Q E ⟨a, ns, e, _⟩ => by rw [e]; rfl) (fun cdv A outer s H vs Q E hr h => ?_)
  obtain ⟨a, ns, rfl, hS, hlen, q⟩ := h
  refine ⟨_, (pss_cons (ps_set (i := 1) sc_law_bag.nd rfl (by first | exact Or.inl rfl | exact Or.inr rfl) pe_int)
  (pss_cons (ps_for (passes_of rfl) rfl (pi_list (pe_slice sl_list (pe_var (i := 0) rfl (by first | exact Or.inl rfl | exact Or.inr (Or.inl rfl) | exact Or.inr (Or.inr rfl))) po_none (po_some pe_int))) (pg_name (i := 2) sc_law_bag.nd rfl (by first | exact Or.inl rfl | exact Or.inr rfl))
  (pss_one (ps_set (i := 1) sc_law_bag.nd rfl (by first | exact Or.inl rfl | exact Or.inr rfl) (pe_op op_mod (pe_callTy call_int1 (by rfl) T.n_int (by decide +kernel) (pa_cons (pe_op op_add (pe_op op_add (pe_op op_mul (pe_var (i := 1) rfl (by first | exact Or.inl rfl | exact Or.inr (Or.inl rfl) | exact Or.inr (Or.inr rfl))) pe_int) (pe_op op_mod (pe_callTy call_int1 (by rfl) T.n_int (by decide +kernel) (pa_cons (pe_var (i := 2) rfl (by first | exact Or.inl rfl | exact Or.inr (Or.inl rfl) | exact Or.inr (Or.inr rfl))) pa_nil)) pe_int)) pe_int) pa_nil)) pe_int))))
  (pss_one (ps_ret (pe_lst (pa_cons (pe_lc (own := [("_law_cell", 2)]) (g := (gName 2)) (tt := tYes) rfl sc_law_bag.nd (pi_list (pe_slice sl_list (pe_var (i := 0) rfl (by first | exact Or.inl rfl | exact Or.inr (Or.inl rfl) | exact Or.inr (Or.inr rfl))) po_none (po_some pe_int))) (blkOk_by (N := N_law_bag) (sc := defScope st_law_bag) (by decide +kernel)) (fun _ _ _ _ _ => (pg_name (i := 2) sc_law_bag.nd rfl (by first | exact Or.inl rfl | exact Or.inr rfl))) (fun _ _ _ _ _ => pts_nil) (fun _ _ _ _ _ => (pe_callTy call_int1 (by rfl) T.n_int (by decide +kernel) (pa_cons (pe_var (i := 2) rfl (by first | exact Or.inl rfl | exact Or.inr (Or.inl rfl) | exact Or.inr (Or.inr rfl))) pa_nil)))) (pa_cons pe_int (pa_cons pe_int (pa_cons (pe_var (i := 1) rfl (by first | exact Or.inl rfl | exact Or.inr (Or.inl rfl) | exact Or.inr (Or.inr rfl))) (pa_cons pe_int pa_nil)))))))))), ?_⟩
  refine ⟨.ref a, rfl, ⟨63, rfl, a, ns.map V.int, rfl, hS, fun p np => ?_⟩⟩
  generalize hcut : cutV (ns.map V.int) none (some 63) = cs
  obtain ⟨ms, rfl⟩ : ∃ ms : List Int, cs = ms.map V.int := by
    refine ⟨((ns.drop (HT.sIx ns.length 0 none)).take (HT.sIx ns.length ns.length (some 63) - HT.sIx ns.length 0 none)), ?_⟩
    rw [← hcut]
    unfold cutV
    rw [List.length_map, List.map_take, List.map_drop]
  have hml : ms.length ≤ 63 := by
    have h1 := cutV_length (ns.map V.int) none (some 63)
    rw [hcut, List.length_map, List.length_map] at h1
    omega
  have s1 : DX.Same H (upd H p (.lst (ms.map V.int))) := fun b o e => by
    rw [upd_ne (ne_of_none e np)]
    exact e
  refine ⟨p, rfl, ⟨_, sqL upd_same⟩, ?_⟩
  refine for_list (xs := ms.map V.int) (fun i σ H' => H' = upd H p (.lst (ms.map V.int)) ∧ ∃ y2 z, σ = [some (.ref a), some (.int z), y2] ∧ 0 ≤ z ∧ z < 2147483629) ⟨rfl, none, 4913, rfl, by decide, by decide⟩ (fun i σ H' hi hp => ?_) (fun i x σ H' hx hp => ?_) (fun σ H' hp => ?_)
  · rw [hp.1]
    exact sqL upd_same
  · obtain ⟨rfl, y2, z, rfl, h0, h1⟩ := hp
    obtain ⟨c, rfl⟩ : ∃ c, x = .int c := by
      rw [List.getElem?_map] at hx
      cases e : ms[i]? with
      | none => rw [e] at hx; cases hx
      | some c =>
        rw [e] at hx
        exact ⟨c, (Option.some.inj hx).symm⟩
    refine ⟨.int z, rfl, ⟨z, 50021, rfl, rfl, .inr ⟨by decide, by decide⟩, .int c, rfl, .inl ⟨c, rfl, c, 2147483563, rfl, rfl, (show (0 : Int) < 2147483563 by decide), ?_⟩⟩⟩
    refine ⟨_, _, rfl, rfl, _, _, rfl, rfl, .inl ⟨_, rfl, _, _, rfl, rfl, (show (0 : Int) < 2147483629 by decide), ?_⟩⟩
    exact ⟨rfl, _, _, rfl, Int.emod_nonneg _ (by decide), Int.emod_lt_of_pos _ (by decide)⟩
  · obtain ⟨rfl, y2, z, rfl, h0, h1⟩ := hp
    refine ⟨.ref a, rfl, ⟨63, rfl, a, ns.map V.int, rfl, s1.seq hS, fun p2 np2 => ?_⟩⟩
    rw [hcut]
    have s2 : DX.Same H (upd (upd H p (.lst (ms.map V.int))) p2 (.lst (ms.map V.int))) := fun b o e => by
      rw [upd_ne (ne_of_none (s1 _ _ e) np2)]
      exact s1 _ _ e
    refine ⟨p2, rfl, ⟨_, sqL upd_same⟩, fun D nD => ?_⟩
    have nD2 : p2 ≠ D := fun e => by
      rw [← e, upd_same] at nD
      cases nD
    refine lc_list (xs := ms.map V.int) (fun i H' => H' = upd (upd (upd H p (.lst (ms.map V.int))) p2 (.lst (ms.map V.int))) D (.lst ((ms.take i).map V.int))) rfl (fun i H' hi hp => ?_) (fun i x H' hx hp => ?_) (fun H' hp => ?_)
    · rw [hp]
      refine sqL ?_
      rw [upd_ne nD2]
      exact upd_same
    · subst hp
      rw [List.getElem?_map] at hx
      cases e : ms[i]? with
      | none => rw [e] at hx; cases hx
      | some c =>
        rw [e] at hx
        cases hx
        refine ⟨rfl, ?_⟩
        refine ⟨.int c, rfl, .inl ⟨c, rfl, _, upd_same, ?_, ?_⟩⟩
        · rw [List.length_map, List.length_take]
          exact DX.small1000 (by omega)
        · rw [upd_upd, List.take_add_one, e, List.map_append]
          rfl
    · subst hp
      rw [List.length_map, List.take_length]
      refine ⟨.int z, rfl, by show 5 ≤ sizeLine; decide, fun b nb => ?_⟩
      have nbD : D ≠ b := fun e => by
        rw [← e, upd_same] at nb
        cases nb
      have s3 : DX.Same H (upd (upd (upd H p (.lst (ms.map V.int))) p2 (.lst (ms.map V.int))) D (.lst (ms.map V.int))) := fun x o e => by
        rw [upd_ne (ne_of_none (s2 _ _ e) nD)]
        exact s2 _ _ e
      refine q _ b D ms z nbD.symm (fun x o e => by rw [upd_ne (ne_of_none (s3 _ _ e) nb)]; exact s3 _ _ e) upd_same ?_ hml h0 h1
      rw [upd_ne nbD]
      exact upd_same

end
end L03

set_option Elab.async false
set_option linter.all false
set_option maxRecDepth 100000
set_option maxHeartbeats 4000000
namespace L03
open PySem PySem.Spec PyProof.Rows L2 DX
set_option pp.maxSteps 1000
section
variable {P : Program} {w : World} {K : PySem.W.Frag} {mg : Str → Option Value} {base : Heap} {TT : List (Addr × Str)}
theorem ok_law (T : Txt P w K mg) (G_law_bag : FnOk P w K mg base (L2N.CX P w) 1 T.a_law_bag T.d_law_bag ["_law_script"] (spBag K)) (G_law_pull : FnOk P w K mg base (L2N.CX P w) 1 T.a_law_pull T.d_law_pull ["_law_bag_here", "_law_many"] (spD K TT sp_law_pull)) (G_law_rows : FnOk P w K mg base (L2N.CX P w) 3 T.a_law_rows T.d_law_rows ["_law_bag_here", "_law_width_z", "_law_many", "_law_most"] (spD K TT sp_law_rows)) (G_law_smallest : FnOk P w K mg base (L2N.CX P w) 2 T.a_law_smallest T.d_law_smallest ["_law_rows_z"] (spD K TT sp_law_smallest)) (G_Region_init : FnOk P w K mg base (L2N.CX P w) 3 T.a_Region_init T.d_Region_init ["self", "width", "rows"] (spD K TT sp_Region_init)) (G_Region_repr : FnOk P w K mg base (L2N.CX P w) 1 T.a_Region_repr T.d_Region_repr ["self"] (spD K TT sp_Region_repr)) (G_Region_bool : FnOk P w K mg base (L2N.CX P w) 1 T.a_Region_bool T.d_Region_bool ["self"] (spD K TT sp_Region_bool)) (G_Region_len : FnOk P w K mg base (L2N.CX P w) 1 T.a_Region_len T.d_Region_len ["self"] (spD K TT sp_Region_len)) (G_Region_rows : FnOk P w K mg base (L2N.CX P w) 1 T.a_Region_rows T.d_Region_rows ["self"] (spD K TT sp_Region_rows)) (G_Region_width : FnOk P w K mg base (L2N.CX P w) 1 T.a_Region_width T.d_Region_width ["self"] (spD K TT sp_Region_width)) (G_law_same : FnOk P w K mg base (L2N.CX P w) 5 T.a_law_same T.d_law_same ["_law_found", "_law_due"] (spD K TT sp_law_same)) (G_Region_contains : FnOk P w K mg base (L2N.CX P w) 3 T.a_Region_contains T.d_Region_contains ["self", "value"] (spD K TT sp_Region_contains)) (G_law_holds : FnOk P w K mg base (L2N.CX P w) 2 T.a_law_holds T.d_law_holds ["_law_rows_z", "_law_row"] (spD K TT sp_law_holds)) (G_law_pick : FnOk P w K mg base (L2N.CX P w) 2 T.a_law_pick T.d_law_pick ["_law_bag_here", "_law_row"] (spD K TT sp_law_pick)) (G_Region_full : FnOk P w K mg base (L2N.CX P w) 5 T.a_Region_full T.d_Region_full ["width"] (spD K TT sp_Region_full)) (G_law_mixed : FnOk P w K mg base (L2N.CX P w) 2 T.a_law_mixed T.d_law_mixed ["_law_bag_here", "_law_row"] (spD K TT sp_law_mixed)) (G_Region_eq : FnOk P w K mg base (L2N.CX P w) 1 T.a_Region_eq T.d_Region_eq ["self", "other"] (spD K TT sp_Region_eq))
    (hm : ∀ p c ms z, p ≠ c → ms.length ≤ 63 → 0 ≤ z → z < 2147483629 → m_law lawC (none :: some (.ref p) :: List.replicate 12 none) (bagS p c ms z)) : FnOk P w K mg base (L2N.CX P w) 6 T.a_law T.d_law ["_law_script"] (spLaw K TT) := by
  refine okFN T.F_law sc_law (fun vs H Q E ⟨a, ns, e, _⟩ => by rw [e]; rfl) (fun cdv A outer s H vs Q E hr h => ?_)
  obtain ⟨a, ns, rfl, hS, hlen, qq, hTT⟩ := h
  have hu64 := hr.units
  have hu65 : (A.deeper (envOfC "law" (defScope st_law) s.heap.objs.size T.a_law cdv)).units + 65 < cLine := by have := hr.un; omega
  refine ⟨_, pss_cons (ps_set (i := 1) sc_law.nd rfl (by first | exact Or.inl rfl | exact Or.inr rfl) (pe_call G_law_bag (hr.mono (by omega)) (by rfl) T.g_law_bag T.F_law_bag.kp T.b_law_bag .nil passes_f (pa_cons (pe_var (i := 0) rfl (by first | exact Or.inl rfl | exact Or.inr (Or.inl rfl) | exact Or.inr (Or.inr rfl))) pa_nil))) pss, ?_⟩
  refine enter_law (N := N_law) (n := 12) rfl hS hlen qq (m := m_law) hTT (fun F eW eT => ?_) hm
  subst eT
  have tk : L2N.Takes (cxOf (L2N.CX P w) P w K mg base N_law "law" (defScope st_law) T.a_law cdv A outer s H E) F.Wx := by rw [eW]; exact takes_none5
  exact (jss_cons (js_for (fun h1 h2 h3 => ps_for (passes_of rfl) rfl h1 h2 h3) (ji_rng1 (ja_cons je_int ja_nil) (pi_range1 (by rfl) T.n_range pa)) (jg_name (pg_name (i := 2) sc_law.nd rfl (by first | exact Or.inl rfl | exact Or.inr rfl)))
  (jss_cons (js_set (i := 3) (fun h => ps_set (i := 3) sc_law.nd rfl (by first | exact Or.inl rfl | exact Or.inr rfl) h) (je_op (ob_add rfl) je_int (je_call rfl (rn_fn0 rfl G_law_pull (hr.mono (by omega)) T.b_law_pull tk) (by rfl) T.g_law_pull T.F_law_pull.kp (ja_cons (je_var 1 (pe_var (i := 1) rfl (by first | exact Or.inl rfl | exact Or.inr (Or.inl rfl) | exact Or.inr (Or.inr rfl)))) (ja_cons je_int ja_nil)))))
  (jss_cons (js_set (i := 4) (fun h => ps_set (i := 4) sc_law.nd rfl (by first | exact Or.inl rfl | exact Or.inr rfl) h) (je_call rfl (rn_fn0 rfl G_law_rows (hr.mono (by omega)) T.b_law_rows tk) (by rfl) T.g_law_rows T.F_law_rows.kp (ja_cons (je_var 1 (pe_var (i := 1) rfl (by first | exact Or.inl rfl | exact Or.inr (Or.inl rfl) | exact Or.inr (Or.inr rfl)))) (ja_cons (je_var 3 (pe_var (i := 3) rfl (by first | exact Or.inl rfl | exact Or.inr (Or.inl rfl) | exact Or.inr (Or.inr rfl)))) (ja_cons je_int (ja_cons je_int ja_nil))))))
  (jss_cons (js_par (fun h => ps_par (i := 5) (j := 6) (by rfl) sc_law.nd rfl rfl (by decide) rfl rfl h (by rfl)) (ja_cons (je_cb (oc_list rfl) (ja_cons (je_var 4 (pe_var (i := 4) rfl (by first | exact Or.inl rfl | exact Or.inr (Or.inl rfl) | exact Or.inr (Or.inr rfl)))) ja_nil) (fun h => pe_callTy h (by rfl) T.n_list (by decide +kernel) pa)) (ja_cons (je_call rfl (rn_fn0 rfl G_law_smallest (hr.mono (by omega)) T.b_law_smallest tk) (by rfl) T.g_law_smallest T.F_law_smallest.kp (ja_cons (je_var 4 (pe_var (i := 4) rfl (by first | exact Or.inl rfl | exact Or.inr (Or.inl rfl) | exact Or.inr (Or.inr rfl)))) ja_nil)) ja_nil)))
  (jss_cons (js_set (i := 7) (fun h => ps_set (i := 7) sc_law.nd rfl (by first | exact Or.inl rfl | exact Or.inr rfl) h) (je_frz (je_call rfl (rn_mk0 rfl T.mk_Region G_Region_init (hr.mono (by omega)) T.b_Region_init len_Region_init tk) (by rfl) T.c_Region T.kc_Region (ja_cons (je_var 3 (pe_var (i := 3) rfl (by first | exact Or.inl rfl | exact Or.inr (Or.inl rfl) | exact Or.inr (Or.inr rfl)))) (ja_cons (je_var 5 (pe_var (i := 5) rfl (by first | exact Or.inl rfl | exact Or.inr (Or.inl rfl) | exact Or.inr (Or.inr rfl)))) ja_nil)))))
  (jss_cons (js_drp (je_bm rm_append (je_var 5 (pe_var (i := 5) rfl (by first | exact Or.inl rfl | exact Or.inr (Or.inl rfl) | exact Or.inr (Or.inr rfl)))) (ja_cons (je_op (ob_mul rfl) (je_tup (ja_cons je_int ja_nil)) (je_var 3 (pe_var (i := 3) rfl (by first | exact Or.inl rfl | exact Or.inr (Or.inl rfl) | exact Or.inr (Or.inr rfl))))) ja_nil) (fun h1 h2 => pe_bm PySem.F.plainAttrs_list PySem.F.slot_list_append PySem.F.type_list_append mt_append h1 h2)))
  (jss_cons (js_for (fun h1 h2 h3 => ps_for (passes_of rfl) rfl h1 h2 h3) (ji_rng1 (ja_cons je_int ja_nil) (pi_range1 (by rfl) T.n_range pa)) (jg_name (pg_name (i := 8) sc_law.nd rfl (by first | exact Or.inl rfl | exact Or.inr rfl)))
  (jss_cons (js_set (i := 9) (fun h => ps_set (i := 9) sc_law.nd rfl (by first | exact Or.inl rfl | exact Or.inr rfl) h) (je_lst (ja_cons (je_attr (f := "width") rfl (ats_cons (.prp T.cl_Region T.pp_Region_width G_Region_width (hr.mono (by omega)) T.b_Region_width) ats_nil) (je_var 7 (pe_var (i := 7) rfl (by first | exact Or.inl rfl | exact Or.inr (Or.inl rfl) | exact Or.inr (Or.inr rfl))))) (ja_cons (je_frz (je_meth0 (m := "rows") rfl (meths_cons ⟨T.cl_Region, _, T.m_Region_rows, (rn_fn0 rfl G_Region_rows (hr.mono (by omega)) T.b_Region_rows tk)⟩ meths_nil) (je_var 7 (pe_var (i := 7) rfl (by first | exact Or.inl rfl | exact Or.inr (Or.inl rfl) | exact Or.inr (Or.inr rfl)))))) (ja_cons (je_lenO rfl tk (lens_cons ⟨T.cl_Region, _, _, _, _, T.m_Region_len, G_Region_len, hr.mono (by omega), T.b_Region_len⟩ lens_nil) (by rfl) T.n_len (ja_cons (je_var 7 (pe_var (i := 7) rfl (by first | exact Or.inl rfl | exact Or.inr (Or.inl rfl) | exact Or.inr (Or.inr rfl)))) ja_nil)) (ja_cons (je_boolO rfl tk ⟨T.cl_Region, _, _, _, _, T.m_Region_bool, G_Region_bool, hr.mono (by omega), T.b_Region_bool⟩ (by rfl) T.n_bool (ja_cons (je_var 7 (pe_var (i := 7) rfl (by first | exact Or.inl rfl | exact Or.inr (Or.inl rfl) | exact Or.inr (Or.inr rfl)))) ja_nil)) (ja_cons (je_reprO rfl tk ⟨T.cl_Region, _, _, _, _, T.m_Region_repr, G_Region_repr, hr.mono (by omega), T.b_Region_repr⟩ (by rfl) T.n_repr (ja_cons (je_var 7 (pe_var (i := 7) rfl (by first | exact Or.inl rfl | exact Or.inr (Or.inl rfl) | exact Or.inr (Or.inr rfl)))) ja_nil)) ja_nil)))))))
  (jss_cons (js_if (jt_not (jt_tru (je_call rfl (rn_fn0 rfl G_law_same (hr.mono (by omega)) T.b_law_same tk) (by rfl) T.g_law_same T.F_law_same.kp (ja_cons (je_var 9 (pe_var (i := 9) rfl (by first | exact Or.inl rfl | exact Or.inr (Or.inl rfl) | exact Or.inr (Or.inr rfl)))) (ja_cons (je_lst (ja_cons (je_var 3 (pe_var (i := 3) rfl (by first | exact Or.inl rfl | exact Or.inr (Or.inl rfl) | exact Or.inr (Or.inr rfl)))) (ja_cons (je_var 6 (pe_var (i := 6) rfl (by first | exact Or.inl rfl | exact Or.inr (Or.inl rfl) | exact Or.inr (Or.inr rfl)))) (ja_cons (je_cb (oc_len rfl) (ja_cons (je_var 6 (pe_var (i := 6) rfl (by first | exact Or.inl rfl | exact Or.inr (Or.inl rfl) | exact Or.inr (Or.inr rfl)))) ja_nil) (fun h => pe_callB h (by rfl) T.n_len (by decide +kernel) pa)) (ja_cons (je_cmp (ob_ne rfl hu64) (nomark _) (je_var 6 (pe_var (i := 6) rfl (by first | exact Or.inl rfl | exact Or.inr (Or.inl rfl) | exact Or.inr (Or.inr rfl)))) (je_lst ja_nil)) (ja_cons (je_op (ob_add rfl) (je_op (ob_add rfl) je_str (je_cb oc_str (ja_cons (je_cb (oc_len rfl) (ja_cons (je_var 6 (pe_var (i := 6) rfl (by first | exact Or.inl rfl | exact Or.inr (Or.inl rfl) | exact Or.inr (Or.inr rfl)))) ja_nil) (fun h => pe_callB h (by rfl) T.n_len (by decide +kernel) pa)) ja_nil) (fun h => pe_callTy h (by rfl) T.n_str (by decide +kernel) pa))) je_str) ja_nil)))))) ja_nil))) rfl (fun _ => rfl)))
  (jss_one (js_ret je_bl))
  jss_nil)
  (jss_one (js_drp (je_bm rm_append (je_meth0 (m := "rows") rfl (meths_cons ⟨T.cl_Region, _, T.m_Region_rows, (rn_fn0 rfl G_Region_rows (hr.mono (by omega)) T.b_Region_rows tk)⟩ meths_nil) (je_var 7 (pe_var (i := 7) rfl (by first | exact Or.inl rfl | exact Or.inr (Or.inl rfl) | exact Or.inr (Or.inr rfl))))) (ja_cons (je_op (ob_mul rfl) (je_tup (ja_cons je_int ja_nil)) (je_var 3 (pe_var (i := 3) rfl (by first | exact Or.inl rfl | exact Or.inr (Or.inl rfl) | exact Or.inr (Or.inr rfl))))) ja_nil) (fun h1 h2 => pe_bm PySem.F.plainAttrs_list PySem.F.slot_list_append PySem.F.type_list_append mt_append h1 h2)))))))
  (jss_cons (js_for (fun h1 h2 h3 => ps_for (passes_of rfl) rfl h1 h2 h3) (ji_seq rfl (je_op (ob_add rfl) (je_op (ob_add rfl) (je_call rfl (rn_fn0 rfl G_law_rows (hr.mono (by omega)) T.b_law_rows tk) (by rfl) T.g_law_rows T.F_law_rows.kp (ja_cons (je_var 1 (pe_var (i := 1) rfl (by first | exact Or.inl rfl | exact Or.inr (Or.inl rfl) | exact Or.inr (Or.inr rfl)))) (ja_cons (je_var 3 (pe_var (i := 3) rfl (by first | exact Or.inl rfl | exact Or.inr (Or.inl rfl) | exact Or.inr (Or.inr rfl)))) (ja_cons je_int (ja_cons je_int ja_nil))))) (je_var 4 (pe_var (i := 4) rfl (by first | exact Or.inl rfl | exact Or.inr (Or.inl rfl) | exact Or.inr (Or.inr rfl))))) (je_lst (ja_cons (je_op (ob_mul rfl) (je_tup (ja_cons je_int ja_nil)) (je_var 3 (pe_var (i := 3) rfl (by first | exact Or.inl rfl | exact Or.inr (Or.inl rfl) | exact Or.inr (Or.inr rfl))))) (ja_cons (je_op (ob_mul rfl) (je_tup (ja_cons (je_op ob_pow je_int je_int) ja_nil)) (je_var 3 (pe_var (i := 3) rfl (by first | exact Or.inl rfl | exact Or.inr (Or.inl rfl) | exact Or.inr (Or.inr rfl))))) ja_nil))))) (jg_name (pg_name (i := 10) sc_law.nd rfl (by first | exact Or.inl rfl | exact Or.inr rfl)))
  (jss_one (js_if (jt_cmp (ob_ne rfl hu64) (nomark _) (je_cmp (ob_inOwn rfl T.m_Region_contains G_Region_contains (hr.mono (by omega)) T.b_Region_contains) (by rfl) (je_var 10 (pe_var (i := 10) rfl (by first | exact Or.inl rfl | exact Or.inr (Or.inl rfl) | exact Or.inr (Or.inr rfl)))) (je_var 7 (pe_var (i := 7) rfl (by first | exact Or.inl rfl | exact Or.inr (Or.inl rfl) | exact Or.inr (Or.inr rfl))))) (je_call rfl (rn_fn0 rfl G_law_holds (hr.mono (by omega)) T.b_law_holds tk) (by rfl) T.g_law_holds T.F_law_holds.kp (ja_cons (je_var 4 (pe_var (i := 4) rfl (by first | exact Or.inl rfl | exact Or.inr (Or.inl rfl) | exact Or.inr (Or.inr rfl)))) (ja_cons (je_var 10 (pe_var (i := 10) rfl (by first | exact Or.inl rfl | exact Or.inr (Or.inl rfl) | exact Or.inr (Or.inr rfl)))) ja_nil))))
  (jss_one (js_ret je_bl))
  jss_nil)))
  (jss_cons (js_set (i := 11) (fun h => ps_set (i := 11) sc_law.nd rfl (by first | exact Or.inl rfl | exact Or.inr rfl) h) (je_call rfl (rn_fn0 rfl G_law_pick (hr.mono (by omega)) T.b_law_pick tk) (by rfl) T.g_law_pick T.F_law_pick.kp (ja_cons (je_var 1 (pe_var (i := 1) rfl (by first | exact Or.inl rfl | exact Or.inr (Or.inl rfl) | exact Or.inr (Or.inr rfl)))) (ja_cons (je_lst (ja_cons je_non (ja_cons je_int (ja_cons je_str (ja_cons je_bl (ja_cons (je_tup ja_nil) (ja_cons (je_op (ob_mul rfl) (je_tup (ja_cons je_int ja_nil)) (je_op (ob_add rfl) (je_var 3 (pe_var (i := 3) rfl (by first | exact Or.inl rfl | exact Or.inr (Or.inl rfl) | exact Or.inr (Or.inr rfl)))) je_int)) (ja_cons (je_op (ob_mul rfl) (je_lst (ja_cons je_int ja_nil)) (je_var 3 (pe_var (i := 3) rfl (by first | exact Or.inl rfl | exact Or.inr (Or.inl rfl) | exact Or.inr (Or.inr rfl))))) (ja_cons (je_op (ob_mul rfl) (je_tup (ja_cons je_bl ja_nil)) (je_var 3 (pe_var (i := 3) rfl (by first | exact Or.inl rfl | exact Or.inr (Or.inl rfl) | exact Or.inr (Or.inr rfl))))) (ja_cons (je_op (ob_add rfl) (je_op (ob_mul rfl) (je_tup (ja_cons je_int ja_nil)) (je_op ob_sub (je_var 3 (pe_var (i := 3) rfl (by first | exact Or.inl rfl | exact Or.inr (Or.inl rfl) | exact Or.inr (Or.inr rfl)))) je_int)) (je_tup (ja_cons (je_op ob_sub je_int je_int) ja_nil))) (ja_cons (je_op (ob_add rfl) (je_op (ob_mul rfl) (je_tup (ja_cons (je_op ob_pow je_int je_int) ja_nil)) (je_op ob_sub (je_var 3 (pe_var (i := 3) rfl (by first | exact Or.inl rfl | exact Or.inr (Or.inl rfl) | exact Or.inr (Or.inr rfl)))) je_int)) (je_tup (ja_cons je_str ja_nil))) ja_nil))))))))))) ja_nil))))
  (jss_cons (js_if (JW.jt (jw_or (jt_cmp (ob_inOwn rfl T.m_Region_contains G_Region_contains (hr.mono (by omega)) T.b_Region_contains) (by rfl) (je_var 11 (pe_var (i := 11) rfl (by first | exact Or.inl rfl | exact Or.inr (Or.inl rfl) | exact Or.inr (Or.inr rfl)))) (je_var 7 (pe_var (i := 7) rfl (by first | exact Or.inl rfl | exact Or.inr (Or.inl rfl) | exact Or.inr (Or.inr rfl))))) (jw_or1 (jt_cmp (ob_inOwn rfl T.m_Region_contains G_Region_contains (hr.mono (by omega)) T.b_Region_contains) (by rfl) (je_var 11 (pe_var (i := 11) rfl (by first | exact Or.inl rfl | exact Or.inr (Or.inl rfl) | exact Or.inr (Or.inr rfl)))) (je_stat (m := "full") (cl := "Region") rfl T.sm_Region_full (rn_fn0 rfl G_Region_full (hr.mono (by omega)) T.b_Region_full tk) (pe_glob (v := .ref (clsAt K "Region")) (by rfl) T.c_Region rfl) (ja_cons (je_var 3 (pe_var (i := 3) rfl (by first | exact Or.inl rfl | exact Or.inr (Or.inl rfl) | exact Or.inr (Or.inr rfl)))) ja_nil))))))
  (jss_one (js_ret je_bl))
  jss_nil)
  (jss_cons (js_set (i := 12) (fun h => ps_set (i := 12) sc_law.nd rfl (by first | exact Or.inl rfl | exact Or.inr rfl) h) (je_call rfl (rn_fn0 rfl G_law_rows (hr.mono (by omega)) T.b_law_rows tk) (by rfl) T.g_law_rows T.F_law_rows.kp (ja_cons (je_var 1 (pe_var (i := 1) rfl (by first | exact Or.inl rfl | exact Or.inr (Or.inl rfl) | exact Or.inr (Or.inr rfl)))) (ja_cons (je_var 3 (pe_var (i := 3) rfl (by first | exact Or.inl rfl | exact Or.inr (Or.inl rfl) | exact Or.inr (Or.inr rfl)))) (ja_cons je_int (ja_cons je_int ja_nil))))))
  (jss_cons (js_set (i := 13) (fun h => ps_set (i := 13) sc_law.nd rfl (by first | exact Or.inl rfl | exact Or.inr rfl) h) (je_frz (je_callK0 rfl (rn_mkK (gD := gi_Region_init_1_rows_width) rfl T.mk_Region G_Region_init (hr.mono (by omega)) T.kb_Region_init_1_rows_width T.kh_Region_init_1_rows_width gv_Region_init_1_rows_width (fun _ _ _ _ _ _ => giw_Region_init_1_rows_width) T.kt_Region_init_1_rows_width tk) (by rfl) T.c_Region T.kc_Region (jk_cons (je_cb (oc_tup rfl) (ja_cons (je_frz (je_call rfl (rn_fn0 rfl G_law_mixed (hr.mono (by omega)) T.b_law_mixed tk) (by rfl) T.g_law_mixed T.F_law_mixed.kp (ja_cons (je_var 1 (pe_var (i := 1) rfl (by first | exact Or.inl rfl | exact Or.inr (Or.inl rfl) | exact Or.inr (Or.inr rfl)))) (ja_cons (je_op (ob_add rfl) (je_var 4 (pe_var (i := 4) rfl (by first | exact Or.inl rfl | exact Or.inr (Or.inl rfl) | exact Or.inr (Or.inr rfl)))) (je_var 6 (pe_var (i := 6) rfl (by first | exact Or.inl rfl | exact Or.inr (Or.inl rfl) | exact Or.inr (Or.inr rfl))))) ja_nil)))) ja_nil) (fun h => pe_callTy h (by rfl) T.n_tuple (by decide +kernel) pa)) (jk_cons (je_var 3 (pe_var (i := 3) rfl (by first | exact Or.inl rfl | exact Or.inr (Or.inl rfl) | exact Or.inr (Or.inr rfl)))) jk_nil)))))
  (jss_cons (js_set (i := 9) (fun h => ps_set (i := 9) sc_law.nd rfl (by first | exact Or.inl rfl | exact Or.inr rfl) h) (je_lst (ja_cons (je_cmp (ob_eqOwn rfl T.isi T.eq_Region T.nf_Region G_Region_eq (hr.mono (by omega)) T.b_Region_eq) (nomark _) (je_var 7 (pe_var (i := 7) rfl (by first | exact Or.inl rfl | exact Or.inr (Or.inl rfl) | exact Or.inr (Or.inr rfl)))) (je_var 13 (pe_var (i := 13) rfl (by first | exact Or.inl rfl | exact Or.inr (Or.inl rfl) | exact Or.inr (Or.inr rfl))))) (ja_cons (je_cmp (ob_eqOwn rfl T.isi T.eq_Region T.nf_Region G_Region_eq (hr.mono (by omega)) T.b_Region_eq) (nomark _) (je_var 7 (pe_var (i := 7) rfl (by first | exact Or.inl rfl | exact Or.inr (Or.inl rfl) | exact Or.inr (Or.inr rfl)))) (je_frz (je_call rfl (rn_mk0 rfl T.mk_Region G_Region_init (hr.mono (by omega)) T.b_Region_init len_Region_init tk) (by rfl) T.c_Region T.kc_Region (ja_cons (je_var 3 (pe_var (i := 3) rfl (by first | exact Or.inl rfl | exact Or.inr (Or.inl rfl) | exact Or.inr (Or.inr rfl)))) (ja_cons (je_var 12 (pe_var (i := 12) rfl (by first | exact Or.inl rfl | exact Or.inr (Or.inl rfl) | exact Or.inr (Or.inr rfl)))) ja_nil))))) (ja_cons (je_cmp (ob_eqOwn rfl T.isi T.eq_Region T.nf_Region G_Region_eq (hr.mono (by omega)) T.b_Region_eq) (nomark _) (je_var 7 (pe_var (i := 7) rfl (by first | exact Or.inl rfl | exact Or.inr (Or.inl rfl) | exact Or.inr (Or.inr rfl)))) (je_var 6 (pe_var (i := 6) rfl (by first | exact Or.inl rfl | exact Or.inr (Or.inl rfl) | exact Or.inr (Or.inr rfl))))) (ja_cons (je_frz (je_meth0 (m := "rows") rfl (meths_cons ⟨T.cl_Region, _, T.m_Region_rows, (rn_fn0 rfl G_Region_rows (hr.mono (by omega)) T.b_Region_rows tk)⟩ meths_nil) (je_stat (m := "full") (cl := "Region") rfl T.sm_Region_full (rn_fn0 rfl G_Region_full (hr.mono (by omega)) T.b_Region_full tk) (pe_glob (v := .ref (clsAt K "Region")) (by rfl) T.c_Region rfl) (ja_cons (je_var 3 (pe_var (i := 3) rfl (by first | exact Or.inl rfl | exact Or.inr (Or.inl rfl) | exact Or.inr (Or.inr rfl)))) ja_nil)))) ja_nil))))))
  (jss_one (js_if (jt_not (jt_tru (je_call rfl (rn_fn0 rfl G_law_same (hr.mono (by omega)) T.b_law_same tk) (by rfl) T.g_law_same T.F_law_same.kp (ja_cons (je_var 9 (pe_var (i := 9) rfl (by first | exact Or.inl rfl | exact Or.inr (Or.inl rfl) | exact Or.inr (Or.inr rfl)))) (ja_cons (je_lst (ja_cons je_bl (ja_cons (je_cmp (ob_eq rfl hu64) (nomark _) (je_var 6 (pe_var (i := 6) rfl (by first | exact Or.inl rfl | exact Or.inr (Or.inl rfl) | exact Or.inr (Or.inr rfl)))) (je_call rfl (rn_fn0 rfl G_law_smallest (hr.mono (by omega)) T.b_law_smallest tk) (by rfl) T.g_law_smallest T.F_law_smallest.kp (ja_cons (je_var 12 (pe_var (i := 12) rfl (by first | exact Or.inl rfl | exact Or.inr (Or.inl rfl) | exact Or.inr (Or.inr rfl)))) ja_nil))) (ja_cons je_bl (ja_cons (je_lst (ja_cons (je_op (ob_mul rfl) (je_tup (ja_cons je_int ja_nil)) (je_var 3 (pe_var (i := 3) rfl (by first | exact Or.inl rfl | exact Or.inr (Or.inl rfl) | exact Or.inr (Or.inr rfl))))) ja_nil)) ja_nil))))) ja_nil))) rfl (fun _ => rfl)))
  (jss_one (js_ret je_bl))
  jss_nil)))))))))))))))
  (jss_cons (js_set (i := 9) (fun h => ps_set (i := 9) sc_law.nd rfl (by first | exact Or.inl rfl | exact Or.inr rfl) h) (je_lst (ja_cons (je_cmp (ob_eqOwn rfl T.isi T.eq_Region T.nf_Region G_Region_eq (hr.mono (by omega)) T.b_Region_eq) (nomark _) (je_frz (je_call rfl (rn_mk rfl T.mk_Region G_Region_init (hr.mono (by omega)) T.b_Region_init_2 T.v_Region_init_2 (fun G => .cons (.d (.tup (T.dzq_Region_init G) .nil)) .nil) len_Region_init tk) (by rfl) T.c_Region T.kc_Region (ja_cons je_int ja_nil))) (je_frz (je_call rfl (rn_mk rfl T.mk_Region G_Region_init (hr.mono (by omega)) T.b_Region_init_2 T.v_Region_init_2 (fun G => .cons (.d (.tup (T.dzq_Region_init G) .nil)) .nil) len_Region_init tk) (by rfl) T.c_Region T.kc_Region (ja_cons je_int ja_nil)))) (ja_cons (je_frz (je_meth0 (m := "rows") rfl (meths_cons ⟨T.cl_Region, _, T.m_Region_rows, (rn_fn0 rfl G_Region_rows (hr.mono (by omega)) T.b_Region_rows tk)⟩ meths_nil) (je_frz (je_call rfl (rn_mk rfl T.mk_Region G_Region_init (hr.mono (by omega)) T.b_Region_init_2 T.v_Region_init_2 (fun G => .cons (.d (.tup (T.dzq_Region_init G) .nil)) .nil) len_Region_init tk) (by rfl) T.c_Region T.kc_Region (ja_cons je_int ja_nil))))) (ja_cons (je_boolO rfl tk ⟨T.cl_Region, _, _, _, _, T.m_Region_bool, G_Region_bool, hr.mono (by omega), T.b_Region_bool⟩ (by rfl) T.n_bool (ja_cons (je_frz (je_call rfl (rn_mk rfl T.mk_Region G_Region_init (hr.mono (by omega)) T.b_Region_init_2 T.v_Region_init_2 (fun G => .cons (.d (.tup (T.dzq_Region_init G) .nil)) .nil) len_Region_init tk) (by rfl) T.c_Region T.kc_Region (ja_cons je_int ja_nil))) ja_nil)) (ja_cons (je_lenO rfl tk (lens_cons ⟨T.cl_Region, _, _, _, _, T.m_Region_len, G_Region_len, hr.mono (by omega), T.b_Region_len⟩ lens_nil) (by rfl) T.n_len (ja_cons (je_stat (m := "full") (cl := "Region") rfl T.sm_Region_full (rn_fn0 rfl G_Region_full (hr.mono (by omega)) T.b_Region_full tk) (pe_glob (v := .ref (clsAt K "Region")) (by rfl) T.c_Region rfl) (ja_cons je_int ja_nil)) ja_nil)) (ja_cons (je_boolO rfl tk ⟨T.cl_Region, _, _, _, _, T.m_Region_bool, G_Region_bool, hr.mono (by omega), T.b_Region_bool⟩ (by rfl) T.n_bool (ja_cons (je_statK0 (m := "full") (cl := "Region") rfl T.sm_Region_full (rn_fnK (gD := gd_Region_full_0_width) rfl G_Region_full (hr.mono (by omega)) T.kb_Region_full_0_width (fun _ _ _ _ _ => gw_Region_full_0_width) tk) (pe_glob (v := .ref (clsAt K "Region")) (by rfl) T.c_Region rfl) (jk_cons je_int jk_nil)) ja_nil)) ja_nil)))))))
  (jss_one (js_ret (je_call rfl (rn_fn0 rfl G_law_same (hr.mono (by omega)) T.b_law_same tk) (by rfl) T.g_law_same T.F_law_same.kp (ja_cons (je_var 9 (pe_var (i := 9) rfl (by first | exact Or.inl rfl | exact Or.inr (Or.inl rfl) | exact Or.inr (Or.inr rfl)))) (ja_cons (je_lst (ja_cons je_bl (ja_cons (je_lst ja_nil) (ja_cons je_bl (ja_cons je_int (ja_cons je_bl ja_nil)))))) ja_nil)))))))

end
end L03

set_option Elab.async false
set_option linter.all false
set_option maxRecDepth 100000
set_option maxHeartbeats 4000000
namespace L03
open PySem PySem.Spec PyProof.Rows L2 DX
local macro_rules | `(tactic| walk_at "run") => `(tactic| simp only [x_bl, x_tru, x_kbl, x_ktru, x_chain, x_kch, x_andV, x_orV, x_notV, x_kand, x_kor, x_knot, x_star, x_kstar, x_kat, x_kcell, x_kvar, x_c, x_var, x_op, x_un, x_and, x_or, x_not, x_if, x_nil, x_cons, x_tup, x_lst, x_newF, x_newT, x_cb, x_call, x_callK,
  x_add, x_sub, x_mul, x_mod, x_div, x_pow, x_lt, x_le, x_gt, x_ge, x_eqI, x_neI, x_eqS, x_neS, x_isN, x_notN, x_ixC, x_ixL, x_ixT, x_lenC, x_lenL, x_lenT, x_int, x_intB, x_setIx, x_tupL, x_tupT, x_tupC, x_listL, x_listT, x_listC, x_newMap, x_allL, x_anyL, allB_bls, x_inT, x_ninT, inV_nil, inV_str, mapSc, D.sc, x_isi, x_isiC, x_isiT, x_fisi, isAny, isI, W.tg, D.tg, D.ctg, Tg.inC, x_fld, x_con, x_prp, x_attr, x_kattrD, x_kattrC, x_kobj, x_meth, x_kmethD, x_kmethC, x_putA, x_fldS, x_frz, x_kfrzD, putW, List.lookup_cons, List.lookup_nil, List.all_cons, List.all_nil, Option.isSome_some, String.reduceEq, String.reduceBEq, ofString_eq, x_truN, x_truB, x_truI, x_truL, x_truT, x_seqL, x_seqT, x_mcons, x_mnil, x_set, x_asg, x_drp, x_ret, x_retN, x_ifS, x_tgN, x_tgSub, x_par, XF, startD, lawC,
  upS_same, upS_upS, List.map_cons, List.map_nil, List.cons_append, List.nil_append, List.append_nil, List.getElem?_cons_zero, List.getElem?_cons_succ, List.getElem?_nil, List.set_cons_zero, List.set_cons_succ, List.length_cons, List.length_nil, List.length_map, List.replicate_succ, List.replicate_zero, Nat.sub_self, Nat.reduceSub, Nat.reduceAdd, Nat.reduceLT, Nat.reduceLeDiff, Nat.zero_add, Nat.add_zero, Int.cast_ofNat_Int, Int.reduceAdd, Int.reduceSub, Int.reduceMul, Int.reduceLE, Int.reduceLT, Int.reducePow, Int.reduceToNat, Int.reduceEq, Int.reduceNeg, Nat.reducePow,
  L2.atI, ixN, Option.bind_some, Option.bind_none, allD, mkT, W.isN, Option.map_some, Option.map_none, Bool.not_true, Bool.not_false, Bool.and_true, Bool.true_and, Bool.or_true, Bool.true_or, Bool.or_false, Bool.false_or, Bool.and_self, Bool.false_eq_true, reduceCtorEq, if_true, if_false, ite_true, ite_false, true_and, and_true, and_self, true_or, or_true, decide_true, decide_false, decide_eq_true_eq, not_true_eq_false, not_false_eq_true, beq_self_eq_true])
theorem dn_of {P : W → Store → Prop} {w : W} {S : Store} (h : P w S) : dnW P w S := .of h
theorem bag_up {S : Store} {p c : Addr} {ms : List Int} {i r z n : Int} (hc : S c = some (bagI ms)) (ne : p ≠ c) (hm : ms.length ≤ 63) (hi : 0 ≤ i) (hr : 0 ≤ r) (hz : 0 ≤ z) (hz2 : z < 2147483629) : BagOk (upS S p (.lst [.ref c, .d (.int i), .d (.int r), .d (.int z), .d (.int n)])) p c :=
  ⟨ms, i, r, z, n, upS_same, by rw [upS_ne (Ne.symm ne)]; exact hc, ne, hm, hi, hr, hz, hz2⟩
theorem pull_ok {p c : Addr} {many : Int} {S : Store} {P : W → Store → Prop} {X : XP} (hb : BagOk S p c) (h1 : 1 ≤ many) (h2 : many < 2 ^ 64) (h : ∀ d cell, 0 ≤ d → d < many → BagOk (upS S p cell) p c → P (.d (.int d)) (upS S p cell)) : sp_law_pull [.ref p, .d (.int many)] S P X := by
  obtain ⟨ms, i, r, z, n, hp, hc, ne, hm, hi, hr, hz, hz2⟩ := hb
  unfold bagC at hp
  have hc' : ∀ x, (upS S p x) c = some (bagI ms) := fun x => by rw [upS_ne (Ne.symm ne)]; exact hc
  unfold bagI at hc'
  have m1 : 0 < many := by omega
  refine ⟨rfl, ?_⟩
  unfold m_law_pull
  have cm1 : ∀ q : Int, CMul q 7001 := fun q => cmul_r (by decide) (by decide)
  have cm2 : ∀ q : Int, CMul q 30011 := fun q => cmul_r (by decide) (by decide)
  have cm3 : ∀ q : Int, CMul q 613 := fun q => cmul_r (by decide) (by decide)
  have cm4 : ∀ q : Int, CMul q 40013 := fun q => cmul_r (by decide) (by decide)
  have cm5 : ∀ q : Int, CMul q 977 := fun q => cmul_r (by decide) (by decide)
  have nm : ∀ q : Int, 0 ≤ q % many ∧ q % many < many := fun q => ⟨Int.emod_nonneg _ (by omega), Int.emod_lt_of_pos _ m1⟩
  have np : ∀ q : Int, 0 ≤ q % 2147483629 ∧ q % 2147483629 < 2147483629 := fun q => ⟨Int.emod_nonneg _ (by decide), Int.emod_lt_of_pos _ (by decide)⟩
  have cz : ∀ z : Int, 0 ≤ z → z < 2147483629 → CMul z z := fun z a b => cmul_r (by omega) (by omega)
  have na : Int.natAbs 10 < 18446744073709551616 := by decide
  repeat (first | walk_at "run" | simp only [hp] | simp only [hc'])
  have dig : ∀ (i r z n : Int), 0 ≤ i → 0 < r → 0 ≤ z → z < 2147483629 → dnW P (W.d (D.int (r % many))) (upS S p (Cell.lst [W.ref c, W.d (D.int i), W.d (D.int (r / many)), W.d (D.int z), W.d (D.int n)])) := fun i r z n a1 a2 a3 a4 =>
    dn_of (h _ _ (nm r).1 (nm r).2 (bag_up hc ne hm a1 (Int.ediv_nonneg (by omega) (by omega)) a3 a4))
  have fin : ∀ (i r q y n : Int), 0 ≤ i → 0 ≤ r → dnW P (W.d (D.int (y % many))) (upS S p (Cell.lst [W.ref c, W.d (D.int i), W.d (D.int r), W.d (D.int (q % 2147483629)), W.d (D.int n)])) := fun i r q y n a1 a2 =>
    dn_of (h _ _ (nm y).1 (nm y).2 (bag_up hc ne hm a1 a2 (np q).1 (np q).2))
  have rest : ∀ (h0 : Prop) [Decidable h0] (A B : Prop), (h0 → A) → (¬ h0 → B) → if h0 then A else B := fun h0 _ A B a b => by split; exact a ‹_›; exact b ‹_›
  have h2' : many < 18446744073709551616 := h2
  refine rest _ _ _ (fun r0 => ?_) (fun r0 => ?_)
  · refine rest _ _ _ (fun il => ?_) (fun il => ?_)
    · have hl : i.toNat < ms.length := by omega
      have e : ((if 0 ≤ i then if i < (ms.length : Int) then some i.toNat else none else if -(ms.length : Int) ≤ i then some (i + (ms.length : Int)).toNat else none).bind fun j => (List.map (fun m => W.d (D.int m)) ms)[j]?) = some (.d (.int ms[i.toNat])) := by
        rw [if_pos hi, if_pos il]
        simp [hl]
      rw [e]
      generalize ms[i.toNat] = v
      repeat (first | walk_at "run" | simp only [hp] | simp only [hc'])
      refine ⟨na, ?_⟩
      refine rest _ _ _ (fun v0 => ?_) (fun v0 => ?_)
      · rw [if_pos (by omega)]
        exact ⟨m1, ⟨m1, h2'⟩, dig _ _ _ _ (by omega) (by omega) hz hz2⟩
      · refine ⟨cm4 _, cm5 _, ?_⟩
        rw [if_neg (by omega)]
        exact ⟨cz _ (np _).1 (np _).2, cm1 _, cm2 _, cm3 _, m1, fin _ _ _ _ _ (by omega) hr⟩
    · rw [if_neg (by omega)]
      exact ⟨cz _ hz hz2, cm1 _, cm2 _, cm3 _, m1, fin _ _ _ _ _ hi hr⟩
  · rw [if_pos (by omega)]
    exact ⟨m1, ⟨m1, h2'⟩, dig _ _ _ _ hi (by omega) hz hz2⟩

theorem q_law_pull : QF [true, false] sp_law_pull fPull := qf_pull pull_ok
noncomputable section
def f_law_few : FS :=
  (fRet (fCB fbTup (fCons (fLc [3] (fiRng1 (fCons (fVar 1) fNil)) (ftN 3) ftYes (fCall fPull (fCons (fVar 0) (fCons (fOp foAdd (fVar 2) (fC (.int 1))) fNil)))) fNil)))
def F_law_few : DF := bodyF 3 4 f_law_few
theorem q_law_few : QF [true, false, false] sp_law_few F_law_few := qf_body (c := ⟨[0], [0], []⟩) (show QS ⟨[0], [0], []⟩ false m_law_few f_law_few from
  (qs_ret (qe_cb sn_tup (qa_cons (qe_lc (QI0.i (qi_rng1 (qa_cons (qe_var (i := 1) (by decide)) qa_nil))) (qg_n (i := 3)) qt_yes (qe_call q_law_pull (qa_own (i := 0) (by decide) (qa_cons (qe_op so_add (qe_var (i := 2) (by decide)) qe_c) qa_nil)))) qa_nil))))
def f_law_rows : FS :=
  (fRet (fLc [4] (fiRng1 (fCons (fCall fPull (fCons (fVar 0) (fCons (fOp foAdd (fVar 2) (fC (.int 1))) fNil))) fNil)) (ftN 4) ftYes (fCall F_law_few (fCons (fVar 0) (fCons (fVar 1) (fCons (fVar 3) fNil))))))
def F_law_rows : DF := bodyF 4 5 f_law_rows
theorem q_law_rows : QF [true, false, false, false] sp_law_rows F_law_rows := qf_body (c := ⟨[0], [0], []⟩) (show QS ⟨[0], [0], []⟩ false m_law_rows f_law_rows from
  (qs_ret (qe_lc (QI0.i (qi_rng1 (qa_cons (qe_call q_law_pull (qa_own (i := 0) (by decide) (qa_cons (qe_op so_add (qe_var (i := 2) (by decide)) qe_c) qa_nil))) qa_nil))) (qg_n (i := 4)) qt_yes (qe_call q_law_few (qa_own (i := 0) (by decide) (qa_cons (qe_var (i := 1) (by decide)) (qa_cons (qe_var (i := 3) (by decide)) qa_nil)))))))
def f_law_under : FS :=
  (fRet (fCB fbAll (fCons (fLc [2] (fiRng1 (fCons (fCB fbLen (fCons (fVar 1) fNil)) fNil)) (ftN 2) ftYes (fOp foLe (fOp foIx (fVar 0) (fVar 2)) (fOp foIx (fVar 1) (fVar 2)))) fNil)))
def F_law_under : DF := bodyF 2 3 f_law_under
theorem q_law_under : QF [false, false] sp_law_under F_law_under := qf_body (c := ⟨[], [], []⟩) (show QS ⟨[], [], []⟩ false m_law_under f_law_under from
  (qs_ret (qe_cb sn_all (qa_cons (qe_lc (QI0.i (qi_rng1 (qa_cons (qe_cb sn_len (qa_cons (qe_var (i := 1) (by decide)) qa_nil)) qa_nil))) (qg_n (i := 2)) qt_yes (qe_op so_le (qe_op so_ix (qe_var (i := 0) (by decide)) (qe_var (i := 2) (by decide))) (qe_op so_ix (qe_var (i := 1) (by decide)) (qe_var (i := 2) (by decide))))) qa_nil))))
def f_law_smallest : FS :=
  (fSCons (fSet 1 (fLst fNil))
  (fSCons (fFor (fiSeq (fSortR (fVar 0))) (ftN 2)
  (fIfS (fAnd (fBl (fOp foNin (fVar 2) (fVar 1))) (fNot (fTru (fCB fbAny (fCons (fLc [3] (fiSeq (fVar 0)) (ftN 3) ftYes (fAndV (fOp foNe (fVar 3) (fVar 2)) (fCall F_law_under (fCons (fVar 3) (fCons (fVar 2) fNil))))) fNil)))))
  (fAppend 1 (fVar 2))
  fSNil) [2])
  (fRetZ 1)))
def F_law_smallest : DF := bodyF 1 4 f_law_smallest
theorem q_law_smallest : QF [false] sp_law_smallest F_law_smallest := qf_body (c := ⟨[1], [], []⟩) (show QS ⟨[1], [], []⟩ false m_law_smallest f_law_smallest from
  (qs_cons (qs_setO (qo_lst qa_nil))
  (qs_cons (qs_for (dead := [2]) (qi_seq (qe_sortR (qe_var (i := 0) (by decide)))) (qg_n (i := 2))
  (qs_if (qt_and (qt_bl (qe_opR so_nin (by decide) (qe_var (i := 2) (by decide)))) (qt_not (qt_tru (qe_cb sn_any (qa_cons (qe_lc (QI0.i (qi_seq (qe_var (i := 0) (by decide)))) (qg_n (i := 3)) qt_yes (qe_andV (qe_op so_ne (qe_var (i := 3) (by decide)) (qe_var (i := 2) (by decide))) (qe_call q_law_under (qa_cons (qe_var (i := 3) (by decide)) (qa_cons (qe_var (i := 2) (by decide)) qa_nil))))) qa_nil)))))
  (qs_app (i := 1) (qe_var (i := 2) (by decide)))
  qs_nil))
  (qs_retZ (i := 1)))))
def f_is_number : FS :=
  (fSCons (fIfS (fOr (fNot (fTru (fCB (fbIsi isi_cs isi_sub) (fCons (fVar 0) (fCons (fC (.ty "int")) fNil))))) (fTru (fCB (fbIsi isi_cs isi_sub) (fCons (fVar 0) (fCons (fC (.ty "bool")) fNil)))))
  (fRet (fC (.bl false)))
  fSNil)
  (fRet (fAndV (fOp foLe (fVar 1) (fVar 0)) (fOrV (fOp foIsN (fVar 2) (fC .non)) (fOp foLe (fVar 0) (fVar 2))))))
def F_is_number : DF := bodyF 3 3 f_is_number
theorem q_is_number : QF [false, false, false] sp_is_number F_is_number := qf_body (c := ⟨[], [], []⟩) (show QS ⟨[], [], []⟩ false m_is_number f_is_number from
  (qs_cons (qs_if (qt_or (qt_not (qt_tru (qe_cb sn_isi (qa_cons (qe_var (i := 0) (by decide)) (qa_cons qe_c qa_nil))))) (qt_tru (qe_cb sn_isi (qa_cons (qe_var (i := 0) (by decide)) (qa_cons qe_c qa_nil)))))
  (qs_ret qe_c)
  qs_nil)
  (qs_ret (qe_andV (qe_op so_le (qe_var (i := 1) (by decide)) (qe_var (i := 0) (by decide))) (qe_orV (qe_op so_isN (qe_var (i := 2) (by decide)) qe_c) (qe_op so_le (qe_var (i := 0) (by decide)) (qe_var (i := 2) (by decide))))))))
def dd_is_number_2_D : List D := [(.non)]
def f_is_row : FS :=
  (fRet (fAndV (fCB (fbIsi isi_cs isi_sub) (fCons (fVar 1) (fCons (fC (.ty "tuple")) fNil))) (fAndV (fOp foEq (fCB fbLen (fCons (fVar 1) fNil)) (fVar 0)) (fCB fbAll (fCons (fLc [2] (fiSeq (fVar 1)) (ftN 2) ftYes (fCall (fun ds => F_is_number (ds ++ dd_is_number_2_D)) (fCons (fVar 2) (fCons (fC (.int 0)) fNil)))) fNil)))))
def F_is_row : DF := bodyF 2 3 f_is_row
theorem q_is_row : QF [false, false] sp_is_row F_is_row := qf_body (c := ⟨[], [], []⟩) (show QS ⟨[], [], []⟩ false m_is_row f_is_row from
  (qs_ret (qe_andV (qe_cb sn_isi (qa_cons (qe_var (i := 1) (by decide)) (qa_cons qe_c qa_nil))) (qe_andV (qe_op so_eq (qe_cb sn_len (qa_cons (qe_var (i := 1) (by decide)) qa_nil)) (qe_var (i := 0) (by decide))) (qe_cb sn_all (qa_cons (qe_lc (QI0.i (qi_seq (qe_var (i := 1) (by decide)))) (qg_n (i := 2)) qt_yes (qe_call (qf_dfl (es := dd_is_number_2_D) (us := dd_is_number_2) q_is_number rfl rfl) (qa_cons (qe_var (i := 2) (by decide)) (qa_cons qe_c qa_nil)))) qa_nil))))))
def f_is_below : FS :=
  (fRet (fCB fbAll (fCons (fLc [2, 3] (fiZip (fCons (fVar 0) (fCons (fVar 1) fNil))) (ftT 2 (ftCons 2 (ftCons 3 ftNil))) ftYes (fOp foLe (fVar 2) (fVar 3))) fNil)))
def F_is_below : DF := bodyF 2 4 f_is_below
theorem q_is_below : QF [false, false] sp_is_below F_is_below := qf_body (c := ⟨[], [], []⟩) (show QS ⟨[], [], []⟩ false m_is_below f_is_below from
  (qs_ret (qe_cb sn_all (qa_cons (qe_lc (QI0.i (qi_zip (qa_cons (qe_var (i := 0) (by decide)) (qa_cons (qe_var (i := 1) (by decide)) qa_nil)))) (qg_t (qgs_cons (i := 2) (qgs_cons (i := 3) qgs_nil))) qt_yes (qe_op so_le (qe_var (i := 2) (by decide)) (qe_var (i := 3) (by decide)))) qa_nil))))
def f_least_rows : FS :=
  (fSCons (fSet 1 (fLst fNil))
  (fSCons (fFor (fiSeq (fSortS (fVar 0))) (ftN 2)
  (fIfS (fNot (fTru (fCB fbAny (fCons (fLc [3] (fiSeq (fVar 1)) (ftN 3) ftYes (fCall F_is_below (fCons (fVar 3) (fCons (fVar 2) fNil)))) fNil))))
  (fAppend 1 (fVar 2))
  fSNil) [2])
  (fRetV 1)))
def F_least_rows : DF := bodyF 1 4 f_least_rows
theorem q_least_rows_1 : QFO [true] sp_least_rows F_least_rows := qf_bodyO (c := ⟨[0, 1], [0], []⟩) (show QS ⟨[0, 1], [0], []⟩ true m_least_rows f_least_rows from
  (qs_cons (qs_setO (qo_lst qa_nil))
  (qs_cons (qs_for (dead := [2]) (qi_seq (qe_sortSO (by decide))) (qg_n (i := 2))
  (qs_if (qt_not (qt_tru (qe_cb sn_any (qa_cons (qe_lc (qi_seqO (by decide)) (qg_n (i := 3)) qt_yes (qe_call q_is_below (qa_cons (qe_var (i := 3) (by decide)) (qa_cons (qe_var (i := 2) (by decide)) qa_nil)))) qa_nil))))
  (qs_app (i := 1) (qe_var (i := 2) (by decide)))
  qs_nil))
  (qs_retV (i := 1)))))
def f_Region_init : FS :=
  (fSCons (fIfS (fNot (fTru (fCall F_is_number (fCons (fVar 1) (fCons (fC (.int 1)) (fCons (fC (.int 4)) fNil))))))
  fSNo
  fSNil)
  (fSCons (fFor (fiSeq (fVar 2)) (ftN 3)
  (fIfS (fNot (fTru (fCall F_is_row (fCons (fVar 1) (fCons (fVar 3) fNil)))))
  fSNo
  fSNil) [3])
  (fSCons (fFld "own_width" ["Region"] 0 (fVar 1))
  (fFld "own_least" ["Region"] 0 (fFrzA (fCall F_least_rows (fCons (fVar 2) fNil)))))))
def M_Region_init : MF := bodyM 3 4 f_Region_init
theorem q_Region_init_01 : QM [false, true] sp_Region_init M_Region_init := qm_body (c := ⟨[0, 2], [2], [0]⟩) (show QS ⟨[0, 2], [2], [0]⟩ false m_Region_init f_Region_init from
  (qs_cons (qs_if (qt_not (qt_tru (qe_call q_is_number (qa_cons (qe_var (i := 1) (by decide)) (qa_cons qe_c (qa_cons qe_c qa_nil))))))
  qs_no
  qs_nil)
  (qs_cons (qs_for (dead := [3]) (qi_seqP (i := 2) (by decide) (by decide)) (qg_n (i := 3))
  (qs_if (qt_not (qt_tru (qe_call q_is_row (qa_cons (qe_var (i := 1) (by decide)) (qa_cons (qe_var (i := 3) (by decide)) qa_nil)))))
  qs_no
  qs_nil))
  (qs_cons (qs_fld (i := 0) (qe_var (i := 1) (by decide)))
  (qs_fld (i := 0) (qe_frzA (qo_call q_least_rows_1 (qa_own (i := 2) (by decide) qa_nil))))))))
def f_Region_repr : FS :=
  (fRet (fJs (fjCons (fC (.str "Region(")) (fjCons (fFmt (fCB fbLen (fCons (fAttr "own_least" (("Region", .fld) :: []) (fVar 0)) fNil))) (fjCons (fC (.str " rows)")) fjNil)))))
def F_Region_repr : DF := bodyF 1 1 f_Region_repr
theorem q_Region_repr : QF [false] sp_Region_repr F_Region_repr := qf_body (c := ⟨[], [], []⟩) (show QS ⟨[], [], []⟩ false m_Region_repr f_Region_repr from
  (qs_ret (qe_js (qj_cons qe_c (qj_cons (qe_fmt (qe_cb sn_len (qa_cons (qe_attr (qe_var (i := 0) (by decide)) (.cons .fld .nil)) qa_nil))) (qj_cons qe_c qj_nil))))))
def f_Region_bool : FS :=
  (fRet (fOp foGt (fCB fbLen (fCons (fAttr "own_least" (("Region", .fld) :: []) (fVar 0)) fNil)) (fC (.int 0))))
def F_Region_bool : DF := bodyF 1 1 f_Region_bool
theorem q_Region_bool : QF [false] sp_Region_bool F_Region_bool := qf_body (c := ⟨[], [], []⟩) (show QS ⟨[], [], []⟩ false m_Region_bool f_Region_bool from
  (qs_ret (qe_op so_gt (qe_cb sn_len (qa_cons (qe_attr (qe_var (i := 0) (by decide)) (.cons .fld .nil)) qa_nil)) qe_c)))
def f_Region_len : FS :=
  (fRet (fCB fbLen (fCons (fAttr "own_least" (("Region", .fld) :: []) (fVar 0)) fNil)))
def F_Region_len : DF := bodyF 1 1 f_Region_len
theorem q_Region_len : QF [false] sp_Region_len F_Region_len := qf_body (c := ⟨[], [], []⟩) (show QS ⟨[], [], []⟩ false m_Region_len f_Region_len from
  (qs_ret (qe_cb sn_len (qa_cons (qe_attr (qe_var (i := 0) (by decide)) (.cons .fld .nil)) qa_nil))))
def f_Region_rows : FS :=
  (fRet (fCB fbList (fCons (fAttr "own_least" (("Region", .fld) :: []) (fVar 0)) fNil)))
def F_Region_rows : DF := bodyF 1 1 f_Region_rows
theorem q_Region_rows : QFO [false] sp_Region_rows F_Region_rows := qf_bodyO (c := ⟨[], [], []⟩) (show QS ⟨[], [], []⟩ true m_Region_rows f_Region_rows from
  (qs_retO (qo_list (qa_cons (qe_attr (qe_var (i := 0) (by decide)) (.cons .fld .nil)) qa_nil))))
def f_Region_width : FS :=
  (fRet (fAttr "own_width" (("Region", .fld) :: []) (fVar 0)))
def F_Region_width : DF := bodyF 1 1 f_Region_width
theorem q_Region_width : QF [false] sp_Region_width F_Region_width := qf_body (c := ⟨[], [], []⟩) (show QS ⟨[], [], []⟩ false m_Region_width f_Region_width from
  (qs_ret (qe_attr (qe_var (i := 0) (by decide)) (.cons .fld .nil))))
def f_law_same (rF : DF) : FS :=
  (fSCons (fIfS (fTru (fIsT isi_cs isi_sub (fVar 1) (fCons (fC (.ty "list")) (fCons (fC (.ty "tuple")) fNil))))
  (fSCons (fIfS (fOr (fBl (fOp foNe (fCB (fbIsi isi_cs isi_sub) (fCons (fVar 0) (fCons (fC (.ty "list")) fNil))) (fCB (fbIsi isi_cs isi_sub) (fCons (fVar 1) (fCons (fC (.ty "list")) fNil))))) (fBl (fOp foNe (fCB (fbIsi isi_cs isi_sub) (fCons (fVar 0) (fCons (fC (.ty "tuple")) fNil))) (fCB (fbIsi isi_cs isi_sub) (fCons (fVar 1) (fCons (fC (.ty "tuple")) fNil))))))
  (fRet (fC (.bl false)))
  fSNil)
  (fRet (fAndV (fOp foEq (fCB fbLen (fCons (fVar 0) fNil)) (fCB fbLen (fCons (fVar 1) fNil))) (fCB fbAll (fCons (fLc [2, 3] (fiZip (fCons (fVar 0) (fCons (fVar 1) fNil))) (ftT 2 (ftCons 2 (ftCons 3 ftNil))) ftYes (fCall rF (fCons (fVar 2) (fCons (fVar 3) fNil)))) fNil)))))
  fSNil)
  (fSCons (fIfS (fOr (fBl (fOp foIsN (fVar 1) (fC .non))) (fBl (fOp foIsN (fVar 0) (fC .non))))
  (fRet (fAndV (fOp foIsN (fVar 1) (fC .non)) (fOp foIsN (fVar 0) (fC .non))))
  fSNil)
  (fSCons (fIfS (fOr (fBl (fOp foNe (fCB (fbIsi isi_cs isi_sub) (fCons (fVar 1) (fCons (fC (.ty "bool")) fNil))) (fCB (fbIsi isi_cs isi_sub) (fCons (fVar 0) (fCons (fC (.ty "bool")) fNil))))) (fBl (fOp foNe (fCB (fbIsi isi_cs isi_sub) (fCons (fVar 1) (fCons (fC (.ty "int")) fNil))) (fCB (fbIsi isi_cs isi_sub) (fCons (fVar 0) (fCons (fC (.ty "int")) fNil))))))
  (fRet (fC (.bl false)))
  fSNil)
  (fRet (fAndV (fOp foEq (fCB (fbIsi isi_cs isi_sub) (fCons (fVar 1) (fCons (fC (.ty "str")) fNil))) (fCB (fbIsi isi_cs isi_sub) (fCons (fVar 0) (fCons (fC (.ty "str")) fNil)))) (fOp foEq (fVar 0) (fVar 1)))))))
def Fn_law_same : Nat → DF
  | 0 => fun _ => .no
  | n + 1 => bodyF 2 4 (f_law_same (Fn_law_same n))
def F_law_same : DF := Fn_law_same 4
theorem q_law_samen : ∀ n, QF [false, false] (spn_law_same n) (Fn_law_same n)
  | 0 => fun ws ds S Ls P X ow q => q.elim
  | n + 1 => qf_body (c := ⟨[], [], []⟩) (show QS ⟨[], [], []⟩ false (m_law_same (spn_law_same n)) (f_law_same (Fn_law_same n)) from
  (fun hr => (qs_cons (qs_if (qt_tru (qe_isiT (qe_var (i := 1) (by decide)) (qa_cons qe_c (qa_cons qe_c qa_nil))))
  (qs_cons (qs_if (qt_or (qt_bl (qe_op so_ne (qe_cb sn_isi (qa_cons (qe_var (i := 0) (by decide)) (qa_cons qe_c qa_nil))) (qe_cb sn_isi (qa_cons (qe_var (i := 1) (by decide)) (qa_cons qe_c qa_nil))))) (qt_bl (qe_op so_ne (qe_cb sn_isi (qa_cons (qe_var (i := 0) (by decide)) (qa_cons qe_c qa_nil))) (qe_cb sn_isi (qa_cons (qe_var (i := 1) (by decide)) (qa_cons qe_c qa_nil))))))
  (qs_ret qe_c)
  qs_nil)
  (qs_ret (qe_andV (qe_op so_eq (qe_cb sn_len (qa_cons (qe_var (i := 0) (by decide)) qa_nil)) (qe_cb sn_len (qa_cons (qe_var (i := 1) (by decide)) qa_nil))) (qe_cb sn_all (qa_cons (qe_lc (QI0.i (qi_zip (qa_cons (qe_var (i := 0) (by decide)) (qa_cons (qe_var (i := 1) (by decide)) qa_nil)))) (qg_t (qgs_cons (i := 2) (qgs_cons (i := 3) qgs_nil))) qt_yes (qe_call hr (qa_cons (qe_var (i := 2) (by decide)) (qa_cons (qe_var (i := 3) (by decide)) qa_nil)))) qa_nil)))))
  qs_nil)
  (qs_cons (qs_if (qt_or (qt_bl (qe_op so_isN (qe_var (i := 1) (by decide)) qe_c)) (qt_bl (qe_op so_isN (qe_var (i := 0) (by decide)) qe_c)))
  (qs_ret (qe_andV (qe_op so_isN (qe_var (i := 1) (by decide)) qe_c) (qe_op so_isN (qe_var (i := 0) (by decide)) qe_c)))
  qs_nil)
  (qs_cons (qs_if (qt_or (qt_bl (qe_op so_ne (qe_cb sn_isi (qa_cons (qe_var (i := 1) (by decide)) (qa_cons qe_c qa_nil))) (qe_cb sn_isi (qa_cons (qe_var (i := 0) (by decide)) (qa_cons qe_c qa_nil))))) (qt_bl (qe_op so_ne (qe_cb sn_isi (qa_cons (qe_var (i := 1) (by decide)) (qa_cons qe_c qa_nil))) (qe_cb sn_isi (qa_cons (qe_var (i := 0) (by decide)) (qa_cons qe_c qa_nil))))))
  (qs_ret qe_c)
  qs_nil)
  (qs_ret (qe_andV (qe_op so_eq (qe_cb sn_isi (qa_cons (qe_var (i := 1) (by decide)) (qa_cons qe_c qa_nil))) (qe_cb sn_isi (qa_cons (qe_var (i := 0) (by decide)) (qa_cons qe_c qa_nil)))) (qe_op so_eq (qe_var (i := 0) (by decide)) (qe_var (i := 1) (by decide))))))))) (q_law_samen n))
theorem q_law_same : QF [false, false] sp_law_same F_law_same := q_law_samen 4
def f_Region_contains : FS :=
  (fRet (fAndV (fCall F_is_row (fCons (fAttr "own_width" (("Region", .fld) :: []) (fVar 0)) (fCons (fVar 1) fNil))) (fCB fbAny (fCons (fLc [2] (fiSeq (fAttr "own_least" (("Region", .fld) :: []) (fVar 0))) (ftN 2) ftYes (fCall F_is_below (fCons (fVar 2) (fCons (fVar 1) fNil)))) fNil))))
def F_Region_contains : DF := bodyF 2 3 f_Region_contains
theorem q_Region_contains : QF [false, false] sp_Region_contains F_Region_contains := qf_body (c := ⟨[], [], []⟩) (show QS ⟨[], [], []⟩ false m_Region_contains f_Region_contains from
  (qs_ret (qe_andV (qe_call q_is_row (qa_cons (qe_attr (qe_var (i := 0) (by decide)) (.cons .fld .nil)) (qa_cons (qe_var (i := 1) (by decide)) qa_nil))) (qe_cb sn_any (qa_cons (qe_lc (QI0.i (qi_seq (qe_attr (qe_var (i := 0) (by decide)) (.cons .fld .nil)))) (qg_n (i := 2)) qt_yes (qe_call q_is_below (qa_cons (qe_var (i := 2) (by decide)) (qa_cons (qe_var (i := 1) (by decide)) qa_nil)))) qa_nil)))))
def f_law_holds : FS :=
  (fRet (fCB fbAny (fCons (fLc [2] (fiSeq (fVar 0)) (ftN 2) ftYes (fCall F_law_under (fCons (fVar 2) (fCons (fVar 1) fNil)))) fNil)))
def F_law_holds : DF := bodyF 2 3 f_law_holds
theorem q_law_holds : QF [false, false] sp_law_holds F_law_holds := qf_body (c := ⟨[], [], []⟩) (show QS ⟨[], [], []⟩ false m_law_holds f_law_holds from
  (qs_ret (qe_cb sn_any (qa_cons (qe_lc (QI0.i (qi_seq (qe_var (i := 0) (by decide)))) (qg_n (i := 2)) qt_yes (qe_call q_law_under (qa_cons (qe_var (i := 2) (by decide)) (qa_cons (qe_var (i := 1) (by decide)) qa_nil)))) qa_nil))))
def f_law_pick : FS :=
  (fRet (fOp foIx (fVar 1) (fCall fPull (fCons (fVar 0) (fCons (fCB fbLen (fCons (fVar 1) fNil)) fNil)))))
def F_law_pick : DF := bodyF 2 2 f_law_pick
theorem q_law_pick : QF [true, false] sp_law_pick F_law_pick := qf_body (c := ⟨[0], [0], []⟩) (show QS ⟨[0], [0], []⟩ false m_law_pick f_law_pick from
  (qs_ret (qe_op so_ix (qe_var (i := 1) (by decide)) (qe_call q_law_pull (qa_own (i := 0) (by decide) (qa_cons (qe_cb sn_len (qa_cons (qe_var (i := 1) (by decide)) qa_nil)) qa_nil))))))
theorem q_least_rows : QFO [false] sp_least_rows F_least_rows := qf_bodyO (c := ⟨[1], [], []⟩) (show QS ⟨[1], [], []⟩ true m_least_rows f_least_rows from
  (qs_cons (qs_setO (qo_lst qa_nil))
  (qs_cons (qs_for (dead := [2]) (qi_seq (qe_sortS (qe_var (i := 0) (by decide)))) (qg_n (i := 2))
  (qs_if (qt_not (qt_tru (qe_cb sn_any (qa_cons (qe_lc (qi_seqO (by decide)) (qg_n (i := 3)) qt_yes (qe_call q_is_below (qa_cons (qe_var (i := 3) (by decide)) (qa_cons (qe_var (i := 2) (by decide)) qa_nil)))) qa_nil))))
  (qs_app (i := 1) (qe_var (i := 2) (by decide)))
  qs_nil))
  (qs_retV (i := 1)))))
theorem q_Region_init : QM [false, false] sp_Region_init M_Region_init := qm_body (c := ⟨[0], [], [0]⟩) (show QS ⟨[0], [], [0]⟩ false m_Region_init f_Region_init from
  (qs_cons (qs_if (qt_not (qt_tru (qe_call q_is_number (qa_cons (qe_var (i := 1) (by decide)) (qa_cons qe_c (qa_cons qe_c qa_nil))))))
  qs_no
  qs_nil)
  (qs_cons (qs_for (dead := [3]) (qi_seq (qe_var (i := 2) (by decide))) (qg_n (i := 3))
  (qs_if (qt_not (qt_tru (qe_call q_is_row (qa_cons (qe_var (i := 1) (by decide)) (qa_cons (qe_var (i := 3) (by decide)) qa_nil)))))
  qs_no
  qs_nil))
  (qs_cons (qs_fld (i := 0) (qe_var (i := 1) (by decide)))
  (qs_fld (i := 0) (qe_frzA (qo_call q_least_rows (qa_cons (qe_var (i := 2) (by decide)) qa_nil))))))))
def f_Region_full : FS :=
  (fSCons (fIfS (fNot (fTru (fCall F_is_number (fCons (fVar 0) (fCons (fC (.int 1)) (fCons (fC (.int 4)) fNil))))))
  fSNo
  fSNil)
  (fRet (fFrzA (fCall (fMk "Region" M_Region_init) (fCons (fVar 0) (fCons (fLst (fCons (fOp foMul (fTup (fCons (fC (.int 0)) fNil)) (fVar 0)) fNil)) fNil))))))
def F_Region_full : DF := bodyF 1 1 f_Region_full
theorem q_Region_full : QF [false] sp_Region_full F_Region_full := qf_body (c := ⟨[], [], []⟩) (show QS ⟨[], [], []⟩ false m_Region_full f_Region_full from
  (qs_cons (qs_if (qt_not (qt_tru (qe_call q_is_number (qa_cons (qe_var (i := 0) (by decide)) (qa_cons qe_c (qa_cons qe_c qa_nil))))))
  qs_no
  qs_nil)
  (qs_ret (qe_frzA (qo_call (qf_mk q_Region_init) (qa_cons (qe_var (i := 0) (by decide)) (qa_cons (qe_lst (qa_cons (qe_op so_mul (qe_tup (qa_cons qe_c qa_nil)) (qe_var (i := 0) (by decide))) qa_nil)) qa_nil)))))))
def f_law_mixed : FS :=
  (fSCons (fPar 2 3 (fCB fbList (fCons (fVar 1) fNil)) (fLst fNil))
  (fSCons (fFor (fiRng1 (fCons (fCB fbLen (fCons (fVar 2) fNil)) fNil)) (ftN 4)
  (fMv 3 2 (fCall fPull (fCons (fVar 0) (fCons (fCB fbLen (fCons (fVar 2) fNil)) fNil)))) [4])
  (fRetV 3)))
def F_law_mixed : DF := bodyF 2 5 f_law_mixed
theorem q_law_mixed : QFO [true, false] sp_law_mixed F_law_mixed := qf_bodyO (c := ⟨[0, 2, 3], [0], []⟩) (show QS ⟨[0, 2, 3], [0], []⟩ true m_law_mixed f_law_mixed from
  (qs_cons (qs_parOO (qo_list (qa_cons (qe_var (i := 1) (by decide)) qa_nil)) (qo_lst qa_nil))
  (qs_cons (qs_for (dead := [4]) (qi_rng1 (qa_cons (qe_cb sn_len (qa_own (i := 2) (by decide) qa_nil)) qa_nil)) (qg_n (i := 4))
  (qs_mv (i := 3) (j := 2) (qe_call q_law_pull (qa_own (i := 0) (by decide) (qa_cons (qe_cb sn_len (qa_own (i := 2) (by decide) qa_nil)) qa_nil)))))
  (qs_retV (i := 3)))))
def gdD_Region_init_1_rows_width (ds : List D) : List D := atL ds 0 ++ (atL ds 2 ++ (atL ds 1))
def giD_Region_init_1_rows_width (ds : List D) : List D := atL ds 1 ++ (atL ds 0)
theorem giL_Region_init_1_rows_width (ds : List D) (h : ds.length = 2) : gi_Region_init_1_rows_width (ds.map .d) = (giD_Region_init_1_rows_width ds).map .d ∧ (giD_Region_init_1_rows_width ds).length = 2 := match ds, h with | [_, _], _ => ⟨rfl, rfl⟩
def f_Region_eq : FS :=
  (fRet (fAndV (fCB (fbIsi isi_cs isi_sub) (fCons (fVar 1) (fCons (fC (.cls "Region")) fNil))) (fOp foEq (fTup (fCons (fAttr "own_width" (("Region", .fld) :: []) (fVar 0)) (fCons (fAttr "own_least" (("Region", .fld) :: []) (fVar 0)) fNil))) (fTup (fCons (fAttr "own_width" (("Region", .fld) :: []) (fVar 1)) (fCons (fAttr "own_least" (("Region", .fld) :: []) (fVar 1)) fNil))))))
def F_Region_eq : DF := bodyF 2 2 f_Region_eq
theorem q_Region_eq : QF [false, false] sp_Region_eq F_Region_eq := qf_body (c := ⟨[], [], []⟩) (show QS ⟨[], [], []⟩ false m_Region_eq f_Region_eq from
  (qs_ret (qe_andV (qe_cb sn_isi (qa_cons (qe_var (i := 1) (by decide)) (qa_cons qe_c qa_nil))) (qe_op so_eq (qe_tup (qa_cons (qe_attr (qe_var (i := 0) (by decide)) (.cons .fld .nil)) (qa_cons (qe_attr (qe_var (i := 0) (by decide)) (.cons .fld .nil)) qa_nil))) (qe_tup (qa_cons (qe_attr (qe_var (i := 1) (by decide)) (.cons .fld .nil)) (qa_cons (qe_attr (qe_var (i := 1) (by decide)) (.cons .fld .nil)) qa_nil)))))))
def gdD_Region_full_0_width (ds : List D) : List D := atL ds 0
theorem gdL_Region_full_0_width (ds : List D) (h : ds.length = 1) : gd_Region_full_0_width (ds.map .d) = (gdD_Region_full_0_width ds).map .d ∧ (gdD_Region_full_0_width ds).length = 1 := match ds, h with | [_], _ => ⟨rfl, rfl⟩
def dd_Region_init_2_D : List D := [(.tup [])]
def f_law : FS :=
  (fSCons (fFor (fiRng1 (fCons (fC (.int 4)) fNil)) (ftN 2)
  (fSCons (fSet 3 (fOp foAdd (fC (.int 1)) (fCall fPull (fCons (fVar 1) (fCons (fC (.int 4)) fNil)))))
  (fSCons (fSet 4 (fCall F_law_rows (fCons (fVar 1) (fCons (fVar 3) (fCons (fC (.int 6)) (fCons (fC (.int 4)) fNil))))))
  (fSCons (fPar 5 6 (fCB fbList (fCons (fVar 4) fNil)) (fCall F_law_smallest (fCons (fVar 4) fNil)))
  (fSCons (fSet 7 (fFrzA (fCall (fMk "Region" M_Region_init) (fCons (fVar 3) (fCons (fVar 5) fNil)))))
  (fSCons (fAppend 5 (fOp foMul (fTup (fCons (fC (.int 9)) fNil)) (fVar 3)))
  (fSCons (fFor (fiRng1 (fCons (fC (.int 2)) fNil)) (ftN 8)
  (fSCons (fSet 9 (fLst (fCons (fAttr "width" (("Region", .prp F_Region_width) :: []) (fVar 7)) (fCons (fFrzA (fMeth "rows" (("Region", F_Region_rows) :: []) (fVar 7) fNil)) (fCons (fLenO (("Region", F_Region_len) :: []) (fCons (fVar 7) fNil)) (fCons (fBoolO "Region" F_Region_bool (fCons (fVar 7) fNil)) (fCons (fReprO "Region" F_Region_repr (fCons (fVar 7) fNil)) fNil)))))))
  (fSCons (fIfS (fNot (fTru (fCall F_law_same (fCons (fVar 9) (fCons (fLst (fCons (fVar 3) (fCons (fVar 6) (fCons (fCB fbLen (fCons (fVar 6) fNil)) (fCons (fOp foNe (fVar 6) (fLst fNil)) (fCons (fOp foAdd (fOp foAdd (fC (.str "Region(")) (fCB fbStr (fCons (fCB fbLen (fCons (fVar 6) fNil)) fNil))) (fC (.str " rows)"))) fNil)))))) fNil)))))
  (fRet (fC (.bl false)))
  fSNil)
  (fDropApp (fMeth "rows" (("Region", F_Region_rows) :: []) (fVar 7) fNil) (fOp foMul (fTup (fCons (fC (.int 0)) fNil)) (fVar 3))))) [8, 9])
  (fSCons (fFor (fiSeq (fOp foAdd (fOp foAdd (fCall F_law_rows (fCons (fVar 1) (fCons (fVar 3) (fCons (fC (.int 6)) (fCons (fC (.int 5)) fNil))))) (fVar 4)) (fLst (fCons (fOp foMul (fTup (fCons (fC (.int 0)) fNil)) (fVar 3)) (fCons (fOp foMul (fTup (fCons (fOp foPow (fC (.int 10)) (fC (.int 9))) fNil)) (fVar 3)) fNil))))) (ftN 10)
  (fIfS (fBl (fOp foNe (fInO "Region" id F_Region_contains (fVar 10) (fVar 7)) (fCall F_law_holds (fCons (fVar 4) (fCons (fVar 10) fNil)))))
  (fRet (fC (.bl false)))
  fSNil) [10])
  (fSCons (fSet 11 (fCall F_law_pick (fCons (fVar 1) (fCons (fLst (fCons (fC .non) (fCons (fC (.int 3)) (fCons (fC (.str "a")) (fCons (fC (.bl true)) (fCons (fTup fNil) (fCons (fOp foMul (fTup (fCons (fC (.int 0)) fNil)) (fOp foAdd (fVar 3) (fC (.int 1)))) (fCons (fOp foMul (fLst (fCons (fC (.int 0)) fNil)) (fVar 3)) (fCons (fOp foMul (fTup (fCons (fC (.bl true)) fNil)) (fVar 3)) (fCons (fOp foAdd (fOp foMul (fTup (fCons (fC (.int 0)) fNil)) (fOp foSub (fVar 3) (fC (.int 1)))) (fTup (fCons (fOp foSub (fC (.int 0)) (fC (.int 1))) fNil))) (fCons (fOp foAdd (fOp foMul (fTup (fCons (fOp foPow (fC (.int 10)) (fC (.int 9))) fNil)) (fOp foSub (fVar 3) (fC (.int 1)))) (fTup (fCons (fC (.str "9")) fNil))) fNil))))))))))) fNil))))
  (fSCons (fIfS (fOr (fBl (fInO "Region" id F_Region_contains (fVar 11) (fVar 7))) (fBl (fInO "Region" id F_Region_contains (fVar 11) (fCall F_Region_full (fCons (fVar 3) fNil)))))
  (fRet (fC (.bl false)))
  fSNil)
  (fSCons (fSet 12 (fCall F_law_rows (fCons (fVar 1) (fCons (fVar 3) (fCons (fC (.int 4)) (fCons (fC (.int 2)) fNil))))))
  (fSCons (fSet 13 (fFrzA (fCallK (fun ds => fMk "Region" M_Region_init (giD_Region_init_1_rows_width ds)) fNil (fCons (fCB fbTup (fCons (fFrzA (fCall F_law_mixed (fCons (fVar 1) (fCons (fOp foAdd (fVar 4) (fVar 6)) fNil)))) fNil)) (fCons (fVar 3) fNil)))))
  (fSCons (fSet 9 (fLst (fCons (fEqO isi_cs "Region" id F_Region_eq (fVar 7) (fVar 13)) (fCons (fEqO isi_cs "Region" id F_Region_eq (fVar 7) (fFrzA (fCall (fMk "Region" M_Region_init) (fCons (fVar 3) (fCons (fVar 12) fNil))))) (fCons (fEqO isi_cs "Region" id F_Region_eq (fVar 7) (fVar 6)) (fCons (fFrzA (fMeth "rows" (("Region", F_Region_rows) :: []) (fCall F_Region_full (fCons (fVar 3) fNil)) fNil)) fNil))))))
  (fIfS (fNot (fTru (fCall F_law_same (fCons (fVar 9) (fCons (fLst (fCons (fC (.bl true)) (fCons (fOp foEq (fVar 6) (fCall F_law_smallest (fCons (fVar 12) fNil))) (fCons (fC (.bl false)) (fCons (fLst (fCons (fOp foMul (fTup (fCons (fC (.int 0)) fNil)) (fVar 3)) fNil)) fNil))))) fNil)))))
  (fRet (fC (.bl false)))
  fSNil))))))))))))) [2, 3, 4, 5, 6, 7, 8, 9, 10, 11, 12, 13])
  (fSCons (fSet 9 (fLst (fCons (fEqO isi_cs "Region" id F_Region_eq (fFrzA (fCall (fun ds => fMk "Region" M_Region_init (ds ++ dd_Region_init_2_D)) (fCons (fC (.int 2)) fNil))) (fFrzA (fCall (fun ds => fMk "Region" M_Region_init (ds ++ dd_Region_init_2_D)) (fCons (fC (.int 3)) fNil)))) (fCons (fFrzA (fMeth "rows" (("Region", F_Region_rows) :: []) (fFrzA (fCall (fun ds => fMk "Region" M_Region_init (ds ++ dd_Region_init_2_D)) (fCons (fC (.int 2)) fNil))) fNil)) (fCons (fBoolO "Region" F_Region_bool (fCons (fFrzA (fCall (fun ds => fMk "Region" M_Region_init (ds ++ dd_Region_init_2_D)) (fCons (fC (.int 1)) fNil))) fNil)) (fCons (fLenO (("Region", F_Region_len) :: []) (fCons (fCall F_Region_full (fCons (fC (.int 4)) fNil)) fNil)) (fCons (fBoolO "Region" F_Region_bool (fCons (fCallK (fun ds => F_Region_full (gdD_Region_full_0_width ds)) fNil (fCons (fC (.int 1)) fNil)) fNil)) fNil)))))))
  (fRet (fCall F_law_same (fCons (fVar 9) (fCons (fLst (fCons (fC (.bl false)) (fCons (fLst fNil) (fCons (fC (.bl false)) (fCons (fC (.int 1)) (fCons (fC (.bl true)) fNil)))))) fNil))))))
theorem q_law : QS ⟨[1, 5], [1], []⟩ false m_law f_law :=
  (qs_cons (qs_for (dead := [2, 3, 4, 5, 6, 7, 8, 9, 10, 11, 12, 13]) (qi_rng1 (qa_cons qe_c qa_nil)) (qg_n (i := 2))
  (qs_cons (qs_set (qe_op so_add qe_c (qe_call q_law_pull (qa_own (i := 1) (by decide) (qa_cons qe_c qa_nil)))))
  (qs_cons (qs_set (qe_call q_law_rows (qa_own (i := 1) (by decide) (qa_cons (qe_var (i := 3) (by decide)) (qa_cons qe_c (qa_cons qe_c qa_nil))))))
  (qs_cons (qs_parOT (qo_list (qa_cons (qe_var (i := 4) (by decide)) qa_nil)) (qe_call q_law_smallest (qa_cons (qe_var (i := 4) (by decide)) qa_nil)))
  (qs_cons (qs_set (qe_frzA (qo_call (qf_mk q_Region_init_01) (qa_cons (qe_var (i := 3) (by decide)) (qa_own (i := 5) (by decide) qa_nil)))))
  (qs_cons (qs_app (i := 5) (qe_op so_mul (qe_tup (qa_cons qe_c qa_nil)) (qe_var (i := 3) (by decide))))
  (qs_cons (qs_for (dead := [8, 9]) (qi_rng1 (qa_cons qe_c qa_nil)) (qg_n (i := 8))
  (qs_cons (qs_set (qe_lst (qa_cons (qe_attr (qe_var (i := 7) (by decide)) (.cons (.prp q_Region_width) .nil)) (qa_cons (qe_frzA (qo_meth (qe_var (i := 7) (by decide)) (.cons q_Region_rows .nil) qa_nil)) (qa_cons (qe_lenO (.cons q_Region_len .nil) (qa_cons (qe_var (i := 7) (by decide)) qa_nil)) (qa_cons (qe_boolO q_Region_bool (qa_cons (qe_var (i := 7) (by decide)) qa_nil)) (qa_cons (qe_reprO q_Region_repr (qa_cons (qe_var (i := 7) (by decide)) qa_nil)) qa_nil)))))))
  (qs_cons (qs_if (qt_not (qt_tru (qe_call q_law_same (qa_cons (qe_var (i := 9) (by decide)) (qa_cons (qe_lst (qa_cons (qe_var (i := 3) (by decide)) (qa_cons (qe_var (i := 6) (by decide)) (qa_cons (qe_cb sn_len (qa_cons (qe_var (i := 6) (by decide)) qa_nil)) (qa_cons (qe_op so_ne (qe_var (i := 6) (by decide)) (qe_lst qa_nil)) (qa_cons (qe_op so_add (qe_op so_add qe_c (qe_cb sn_str (qa_cons (qe_cb sn_len (qa_cons (qe_var (i := 6) (by decide)) qa_nil)) qa_nil))) qe_c) qa_nil)))))) qa_nil)))))
  (qs_ret qe_c)
  qs_nil)
  (qs_dropApp (qo_meth (qe_var (i := 7) (by decide)) (.cons q_Region_rows .nil) qa_nil) (qe_op so_mul (qe_tup (qa_cons qe_c qa_nil)) (qe_var (i := 3) (by decide)))))))
  (qs_cons (qs_for (dead := [10]) (qi_seq (qe_op so_add (qe_op so_add (qe_call q_law_rows (qa_own (i := 1) (by decide) (qa_cons (qe_var (i := 3) (by decide)) (qa_cons qe_c (qa_cons qe_c qa_nil))))) (qe_var (i := 4) (by decide))) (qe_lst (qa_cons (qe_op so_mul (qe_tup (qa_cons qe_c qa_nil)) (qe_var (i := 3) (by decide))) (qa_cons (qe_op so_mul (qe_tup (qa_cons (qe_op so_pow qe_c qe_c) qa_nil)) (qe_var (i := 3) (by decide))) qa_nil))))) (qg_n (i := 10))
  (qs_if (qt_bl (qe_op so_ne (qe_inO q_Region_contains (qe_var (i := 10) (by decide)) (qe_var (i := 7) (by decide))) (qe_call q_law_holds (qa_cons (qe_var (i := 4) (by decide)) (qa_cons (qe_var (i := 10) (by decide)) qa_nil)))))
  (qs_ret qe_c)
  qs_nil))
  (qs_cons (qs_set (qe_call q_law_pick (qa_own (i := 1) (by decide) (qa_cons (qe_lst (qa_cons qe_c (qa_cons qe_c (qa_cons qe_c (qa_cons qe_c (qa_cons (qe_tup qa_nil) (qa_cons (qe_op so_mul (qe_tup (qa_cons qe_c qa_nil)) (qe_op so_add (qe_var (i := 3) (by decide)) qe_c)) (qa_cons (qe_op so_mul (qe_lst (qa_cons qe_c qa_nil)) (qe_var (i := 3) (by decide))) (qa_cons (qe_op so_mul (qe_tup (qa_cons qe_c qa_nil)) (qe_var (i := 3) (by decide))) (qa_cons (qe_op so_add (qe_op so_mul (qe_tup (qa_cons qe_c qa_nil)) (qe_op so_sub (qe_var (i := 3) (by decide)) qe_c)) (qe_tup (qa_cons (qe_op so_sub qe_c qe_c) qa_nil))) (qa_cons (qe_op so_add (qe_op so_mul (qe_tup (qa_cons (qe_op so_pow qe_c qe_c) qa_nil)) (qe_op so_sub (qe_var (i := 3) (by decide)) qe_c)) (qe_tup (qa_cons qe_c qa_nil))) qa_nil))))))))))) qa_nil))))
  (qs_cons (qs_if (qt_or (qt_bl (qe_inO q_Region_contains (qe_var (i := 11) (by decide)) (qe_var (i := 7) (by decide)))) (qt_bl (qe_inO q_Region_contains (qe_var (i := 11) (by decide)) (qe_call q_Region_full (qa_cons (qe_var (i := 3) (by decide)) qa_nil)))))
  (qs_ret qe_c)
  qs_nil)
  (qs_cons (qs_set (qe_call q_law_rows (qa_own (i := 1) (by decide) (qa_cons (qe_var (i := 3) (by decide)) (qa_cons qe_c (qa_cons qe_c qa_nil))))))
  (qs_cons (qs_set (qe_frzA (qo_callK (qf_reO (n := 2) (j := 2) (qf_mk q_Region_init) giL_Region_init_1_rows_width) qa_nil (qa_cons (qe_cb sn_tup (qa_cons (qe_frzA (qo_call q_law_mixed (qa_own (i := 1) (by decide) (qa_cons (qe_op so_add (qe_var (i := 4) (by decide)) (qe_var (i := 6) (by decide))) qa_nil)))) qa_nil)) (qa_cons (qe_var (i := 3) (by decide)) qa_nil)))))
  (qs_cons (qs_set (qe_lst (qa_cons (qe_eqO q_Region_eq (qe_var (i := 7) (by decide)) (qe_var (i := 13) (by decide))) (qa_cons (qe_eqO q_Region_eq (qe_var (i := 7) (by decide)) (qe_frzA (qo_call (qf_mk q_Region_init) (qa_cons (qe_var (i := 3) (by decide)) (qa_cons (qe_var (i := 12) (by decide)) qa_nil))))) (qa_cons (qe_eqO q_Region_eq (qe_var (i := 7) (by decide)) (qe_var (i := 6) (by decide))) (qa_cons (qe_frzA (qo_meth (qe_call q_Region_full (qa_cons (qe_var (i := 3) (by decide)) qa_nil)) (.cons q_Region_rows .nil) qa_nil)) qa_nil))))))
  (qs_if (qt_not (qt_tru (qe_call q_law_same (qa_cons (qe_var (i := 9) (by decide)) (qa_cons (qe_lst (qa_cons qe_c (qa_cons (qe_op so_eq (qe_var (i := 6) (by decide)) (qe_call q_law_smallest (qa_cons (qe_var (i := 12) (by decide)) qa_nil))) (qa_cons qe_c (qa_cons (qe_lst (qa_cons (qe_op so_mul (qe_tup (qa_cons qe_c qa_nil)) (qe_var (i := 3) (by decide))) qa_nil)) qa_nil))))) qa_nil)))))
  (qs_ret qe_c)
  qs_nil))))))))))))))
  (qs_cons (qs_set (qe_lst (qa_cons (qe_eqO q_Region_eq (qe_frzA (qo_call (qf_dflO (es := dd_Region_init_2_D) (us := dd_Region_init_2) (qf_mk q_Region_init) rfl rfl) (qa_cons qe_c qa_nil))) (qe_frzA (qo_call (qf_dflO (es := dd_Region_init_2_D) (us := dd_Region_init_2) (qf_mk q_Region_init) rfl rfl) (qa_cons qe_c qa_nil)))) (qa_cons (qe_frzA (qo_meth (qe_frzA (qo_call (qf_dflO (es := dd_Region_init_2_D) (us := dd_Region_init_2) (qf_mk q_Region_init) rfl rfl) (qa_cons qe_c qa_nil))) (.cons q_Region_rows .nil) qa_nil)) (qa_cons (qe_boolO q_Region_bool (qa_cons (qe_frzA (qo_call (qf_dflO (es := dd_Region_init_2_D) (us := dd_Region_init_2) (qf_mk q_Region_init) rfl rfl) (qa_cons qe_c qa_nil))) qa_nil)) (qa_cons (qe_lenO (.cons q_Region_len .nil) (qa_cons (qe_call q_Region_full (qa_cons qe_c qa_nil)) qa_nil)) (qa_cons (qe_boolO q_Region_bool (qa_cons (qe_callK (qf_re (n := 1) (j := 1) q_Region_full gdL_Region_full_0_width) qa_nil (qa_cons qe_c qa_nil)) qa_nil)) qa_nil)))))))
  (qs_ret (qe_call q_law_same (qa_cons (qe_var (i := 9) (by decide)) (qa_cons (qe_lst (qa_cons qe_c (qa_cons (qe_lst qa_nil) (qa_cons qe_c (qa_cons qe_c (qa_cons qe_c qa_nil)))))) qa_nil))))))
theorem law_by (q : (f_law (none :: some (.ty "bag") :: List.replicate 12 none)).wp (fun r => match r with
      | .rt d _ => d = .bl true
      | _ => False) (fun _ => False)) : ∀ p c ms z, p ≠ c → ms.length ≤ 63 → 0 ≤ z → z < 2147483629 → m_law lawC (none :: some (.ref p) :: List.replicate 12 none) (bagS p c ms z) := fun p c ms z ne hl h0 h1 => law_of q_law (by decide) ne hl h0 h1 q
end

end L03

set_option Elab.async false
set_option linter.all false
set_option maxRecDepth 100000
set_option maxHeartbeats 1000000
namespace L03
open PySem PySem.Spec PyProof.Rows L2 DX
local macro_rules | `(tactic| walk_at "f") => `(tactic| simp only [↓r_dropApp, ↓r_dropK, ↓r_mv, ↓r_mv1, ↓r_mv2, ↓r_reprO, ↓r_reprK, ↓r_boolO, ↓r_boolK, ↓r_eqO, ↓r_eqOK, ↓r_inO, ↓r_inOK, ↓r_ownK, ↓r_sortR, ↓r_sortS, ↓r_sortRK, ↓r_sortSL, ↓r_sortST, ofString_beq, o_at1, o_at2, o_at3, ↓r_enumT, ↓r_enumTK, ↓r_lenO, ↓r_fmt, ↓r_fmtS, ↓r_fmtI, ↓r_fmtR, ↓r_fmtRK, ↓r_fmtL, ↓r_fmtLK, ↓r_jnil, ↓r_jcons, ↓r_jK, ↓r_js, ↓r_join, ↓r_joinK, ↓r_join2L, ↓r_join2T, r_leafB, r_leafS, r_leafI, r_leafN, r_hide0, r_hideN, r_hideI, r_hideStr, r_hideB, r_hideNo, r_hideL, r_hideT, r_hideTy, r_hideX, ↓r_tconsG, calm_okT, strsD_map, ↓Dr.wp_bind, ↓Dr.wp_ok, ↓Dr.wp_ex, ↓Dr.wp_no, Dr.wp_ok, ↓r_pull, ↓r_c, ↓r_var, ↓r_get0, ↓r_getS, ↓r_op, ↓r_un, ↓r_chain, ↓r_kch, ↓r_tru, ↓r_bl, ↓r_blD, ↓r_and, ↓r_or, ↓r_not, ↓r_andV, ↓r_orV, ↓r_notV, ↓r_if, ↓r_nil, ↓r_cons, ↓r_starA, ↓r_tup, ↓r_lst, ↓r_pl, ↓r_cb, ↓r_pno, ↓r_pat, ↓r_into, ↓r_sl, ↓r_call, ↓r_callK, ↓r_attr, ↓r_at, ↓r_atF, ↓r_atC, ↓r_atP, ↓r_meth, ↓r_methK, ↓r_methS, ↓r_mF, ↓r_star, ↓r_mk, ↓r_mkK, ↓r_frz, ↓r_frzA, ↓r_ls, ↓r_isT, ↓r_isKo, ↓r_isK_non, ↓r_isK_bl, ↓r_isK_int, ↓r_isK_str, ↓r_isK_lst, ↓r_isK_tup, ↓r_isK_dct, ↓r_seq, ↓r_rng1, ↓r_rng1K, ↓r_rng2, ↓r_rng2K, ↓r_zip, ↓r_zipKL, ↓r_zipKT, ↓r_enum, ↓r_enumK, ↓r_str, ↓r_strK, ↓r_lc, ↓r_yes, ↓r_wipe0, ↓r_wipeS, ↓r_tn, ↓r_tt, ↓r_tnil, ↓r_tcons, ↓r_snil, ↓r_scons, ↓r_seqN, ↓r_seqR, ↓r_seqB, ↓r_seqC, ↓r_sno, ↓r_brk, ↓r_cnt, ↓r_set, ↓r_par, ↓r_asg, ↓r_drp, ↓r_ret, ↓r_retN, ↓r_retV, ↓r_retZ, ↓r_ifS, ↓r_for, ↓r_app, ↓r_appK, ↓r_setI, ↓r_setK, ↓r_setJ, ↓r_fld, ↓r_fldK, ↓r_fldO, ↓r_fldOK, ↓r_fldR, ↓r_fldRK, ↓r_mut, ↓r_mutS, ↓r_mM, ↓r_fapp, ↓r_fappK, ↓r_fappJ, ↓r_fpop, ↓r_fpopK, ↓r_fpopJ, ↓r_fld2, ↓r_fld2OT, ↓r_fld2TM, ↓r_putDs, ↓r_putDK, ↓r_retL, ↓r_retT, ↓r_rnil, ↓r_rcons, ↓r_rfrz, ↓r_body, ↓r_bodyN, ↓r_bodyR, ↓r_bodyM, ↓r_bodyMN, ↓r_bodyMR,
  ↓Dr.bind_ok, ↓Dr.bind_ex, ↓Dr.bind_no, ↓Dr.bind_dr, Dr.bind_ok, Dr.bind_ex, Dr.bind_no, ↓opt_some, opt_some, ↓must_true, must_true, ite_T, o_addI, o_addS, o_addL, o_addT, o_sub, o_mod, o_div, o_pow, o_lt, o_le, o_gt, o_ge, o_mulI, o_mulL, o_mulT, o_neg, o_eq, o_ne, o_eqI, o_eqS, o_eqB, o_eqNS, o_eqSN, o_eqIS, o_eqSI, o_eqLL, o_eqTT, o_eqLT, o_eqTL, o_eqTN, o_eqNT, o_eqLN, o_eqNL, o_eqNN, o_eqIN, o_eqNI, o_isN, o_notN, o_nn_int, o_nn_bl, o_nn_str, o_nn_lst, o_nn_tup, o_nn_ins, o_nn_dct, o_nn_cls, o_nn, o_in, o_nin, o_inSS, o_inLs, o_inTs, o_inLi, o_inTi, o_inLb, o_inTb, o_inLn, o_inTn, o_inLt, o_inTt, o_ixL, o_ixT, o_ixS, o_at0, o_atn, o_slL, o_slT, o_slS, o_inG, o_ixG, b_lenL, b_lenT, b_lenS, b_intI, b_intB, b_all, b_any, b_sum, b_max2, b_min2, b_maxL, b_minL, b_listL, b_listT, b_tupL, b_tupT, b_strI, b_strS, b_isi, t_non, t_bl, t_int, t_lst, t_tup, t_str, s_lst, s_tup, c_non, c_int, c_bl, c_str, c_tup, c_lst, c_ins, z_lst, z_ins, z_fl, il_lst, g_put0, g_putS, tg_non, tg_int, tg_bl, tg_str, tg_lst, tg_tup, tg_ins, tg_dct, ct_bool, ct_int, ct_str, ct_list, ct_tuple, ct_dict, ct_cls, ii_non_non, ii_non_bl, ii_non_int, ii_non_str, ii_non_lst, ii_non_tup, ii_non_dct, ii_non_own, ii_bl_bl, ii_bl_int, ii_bl_str, ii_bl_lst, ii_bl_tup, ii_bl_dct, ii_bl_own, ii_own_bl, ii_int_bl, ii_int_int, ii_int_str, ii_int_lst, ii_int_tup, ii_int_dct, ii_int_own, ii_own_int, ii_str_bl, ii_str_int, ii_str_str, ii_str_lst, ii_str_tup, ii_str_dct, ii_str_own, ii_own_str, ii_lst_bl, ii_lst_int, ii_lst_str, ii_lst_lst, ii_lst_tup, ii_lst_dct, ii_lst_own, ii_own_lst, ii_tup_bl, ii_tup_int, ii_tup_str, ii_tup_lst, ii_tup_tup, ii_tup_dct, ii_tup_own, ii_own_tup, ii_dct_bl, ii_dct_int, ii_dct_str, ii_dct_lst, ii_dct_tup, ii_dct_dct, ii_dct_own, ii_own_dct, ii_own_own, ia_nil, ia_cons, st_R, inL, inT, D.sc, mapSc, inV_nil, inV_str, inV_int, allBD_map, allID_map,
  List.lookup_cons, List.lookup_nil, List.all_cons, List.all_nil, List.map_cons, List.map_nil, List.cons_append, List.nil_append, List.append_nil, List.length_cons, List.length_nil, List.length_map, List.length_append, List.set_cons_zero, List.set_cons_succ, List.replicate_succ, List.replicate_zero, List.take_succ_cons, List.take_zero, List.drop_succ_cons, List.drop_zero, Option.map_some, Option.map_none, Option.isSome_some, Option.isSome_none, Option.isNone_some, Option.isNone_none, Option.bind_some, Option.bind_none, String.reduceEq, String.reduceBEq, ofString_eq, Bool.not_true, Bool.not_false, Bool.and_true, Bool.true_and, Bool.and_false, Bool.false_and, Bool.or_true, Bool.true_or, Bool.or_false, Bool.false_or, Bool.and_self, Bool.false_eq_true, reduceCtorEq, if_true, if_false, ite_true, ite_false, true_and, and_true, and_self, true_or, or_true, false_or, or_false, false_and, and_false, not_true_eq_false, not_false_eq_true, beq_self_eq_true, decide_true, decide_false, decide_eq_true_eq, Nat.reduceSub, Nat.reduceAdd, Nat.reduceLT, Nat.reduceLeDiff, Nat.zero_add, Nat.add_zero, Nat.sub_self, Nat.reduceEqDiff, Int.reduceAdd, Int.reduceSub, Int.reduceMul, Int.reduceLE, Int.reduceLT, Int.reduceEq, Int.reduceNeg, Int.reduceToNat, Int.reducePow, Nat.reducePow, Int.cast_ofNat_Int, id_eq, Function.comp_def, ne_eq, List.contains_cons, List.contains_nil, cellF, List.cons_ne_self, isi_cs, isi_sub])
local macro_rules | `(tactic| walk_at "g") => `(tactic| try walk_at "f")
local macro_rules | `(tactic| walk_at "ff") => `(tactic| simp -implicitDefEqProofs only [↓r_dropApp, ↓r_dropK, ↓r_mv, ↓r_mv1, ↓r_mv2, ↓r_reprO, ↓r_reprK, ↓r_boolO, ↓r_boolK, ↓r_eqO, ↓r_eqOK, ↓r_inO, ↓r_inOK, ↓r_ownK, ↓r_sortR, ↓r_sortS, ↓r_sortRK, ↓r_sortSL, ↓r_sortST, ofString_beq, o_at1, o_at2, o_at3, ↓r_enumT, ↓r_enumTK, ↓r_lenO, ↓r_fmt, ↓r_fmtS, ↓r_fmtI, ↓r_fmtR, ↓r_fmtRK, ↓r_fmtL, ↓r_fmtLK, ↓r_jnil, ↓r_jcons, ↓r_jK, ↓r_js, ↓r_join, ↓r_joinK, ↓r_join2L, ↓r_join2T, r_leafB, r_leafS, r_leafI, r_leafN, r_hide0, r_hideN, r_hideI, r_hideStr, r_hideB, r_hideNo, r_hideL, r_hideT, r_hideTy, r_hideX, ↓r_tconsG, calm_okT, strsD_map, ↓Dr.wp_bind, ↓Dr.wp_ok, ↓Dr.wp_ex, ↓Dr.wp_no, Dr.wp_ok, ↓r_pull, ↓r_c, ↓r_var, ↓r_get0, ↓r_getS, ↓r_op, ↓r_un, ↓r_chain, ↓r_kch, ↓r_tru, ↓r_bl, ↓r_blD, ↓r_and, ↓r_or, ↓r_not, ↓r_andV, ↓r_orV, ↓r_notV, ↓r_if, ↓r_nil, ↓r_cons, ↓r_starA, ↓r_tup, ↓r_lst, ↓r_pl, ↓r_cb, ↓r_pno, ↓r_pat, ↓r_into, ↓r_sl, ↓r_call, ↓r_callK, ↓r_attr, ↓r_at, ↓r_atF, ↓r_atC, ↓r_atP, ↓r_meth, ↓r_methK, ↓r_methS, ↓r_mF, ↓r_star, ↓r_mk, ↓r_mkK, ↓r_frz, ↓r_frzA, ↓r_ls, ↓r_isT, ↓r_isKo, ↓r_isK_non, ↓r_isK_bl, ↓r_isK_int, ↓r_isK_str, ↓r_isK_lst, ↓r_isK_tup, ↓r_isK_dct, ↓r_seq, ↓r_rng1, ↓r_rng1K, ↓r_rng2, ↓r_rng2K, ↓r_zip, ↓r_zipKL, ↓r_zipKT, ↓r_enum, ↓r_enumK, ↓r_str, ↓r_strK, ↓r_lc, ↓r_yes, ↓r_wipe0, ↓r_wipeS, ↓r_tn, ↓r_tt, ↓r_tnil, ↓r_tcons, ↓r_snil, ↓r_scons, ↓r_seqN, ↓r_seqR, ↓r_seqB, ↓r_seqC, ↓r_sno, ↓r_brk, ↓r_cnt, ↓r_set, ↓r_par, ↓r_asg, ↓r_drp, ↓r_ret, ↓r_retN, ↓r_retV, ↓r_retZ, ↓r_ifS, ↓r_for, ↓r_app, ↓r_appK, ↓r_setI, ↓r_setK, ↓r_setJ, ↓r_fld, ↓r_fldK, ↓r_fldO, ↓r_fldOK, ↓r_fldR, ↓r_fldRK, ↓r_mut, ↓r_mutS, ↓r_mM, ↓r_fapp, ↓r_fappK, ↓r_fappJ, ↓r_fpop, ↓r_fpopK, ↓r_fpopJ, ↓r_fld2, ↓r_fld2OT, ↓r_fld2TM, ↓r_putDs, ↓r_putDK, ↓r_retL, ↓r_retT, ↓r_rnil, ↓r_rcons, ↓r_rfrz, ↓r_body, ↓r_bodyN, ↓r_bodyR, ↓r_bodyM, ↓r_bodyMN, ↓r_bodyMR,
  ↓Dr.bind_ok, ↓Dr.bind_ex, ↓Dr.bind_no, ↓Dr.bind_dr, Dr.bind_ok, Dr.bind_ex, Dr.bind_no, ↓opt_some, opt_some, ↓must_true, must_true, ite_T, o_addI, o_addS, o_addL, o_addT, o_sub, o_mod, o_div, o_pow, o_lt, o_le, o_gt, o_ge, o_mulI, o_mulL, o_mulT, o_neg, o_eq, o_ne, o_eqI, o_eqS, o_eqB, o_eqNS, o_eqSN, o_eqIS, o_eqSI, o_eqLL, o_eqTT, o_eqLT, o_eqTL, o_eqTN, o_eqNT, o_eqLN, o_eqNL, o_eqNN, o_eqIN, o_eqNI, o_isN, o_notN, o_nn_int, o_nn_bl, o_nn_str, o_nn_lst, o_nn_tup, o_nn_ins, o_nn_dct, o_nn_cls, o_nn, o_in, o_nin, o_inSS, o_inLs, o_inTs, o_inLi, o_inTi, o_inLb, o_inTb, o_inLn, o_inTn, o_inLt, o_inTt, o_ixL, o_ixT, o_ixS, o_at0, o_atn, o_slL, o_slT, o_slS, o_inG, o_ixG, b_lenL, b_lenT, b_lenS, b_intI, b_intB, b_all, b_any, b_sum, b_max2, b_min2, b_maxL, b_minL, b_listL, b_listT, b_tupL, b_tupT, b_strI, b_strS, b_isi, t_non, t_bl, t_int, t_lst, t_tup, t_str, s_lst, s_tup, c_non, c_int, c_bl, c_str, c_tup, c_lst, c_ins, z_lst, z_ins, z_fl, il_lst, g_put0, g_putS, tg_non, tg_int, tg_bl, tg_str, tg_lst, tg_tup, tg_ins, tg_dct, ct_bool, ct_int, ct_str, ct_list, ct_tuple, ct_dict, ct_cls, ii_non_non, ii_non_bl, ii_non_int, ii_non_str, ii_non_lst, ii_non_tup, ii_non_dct, ii_non_own, ii_bl_bl, ii_bl_int, ii_bl_str, ii_bl_lst, ii_bl_tup, ii_bl_dct, ii_bl_own, ii_own_bl, ii_int_bl, ii_int_int, ii_int_str, ii_int_lst, ii_int_tup, ii_int_dct, ii_int_own, ii_own_int, ii_str_bl, ii_str_int, ii_str_str, ii_str_lst, ii_str_tup, ii_str_dct, ii_str_own, ii_own_str, ii_lst_bl, ii_lst_int, ii_lst_str, ii_lst_lst, ii_lst_tup, ii_lst_dct, ii_lst_own, ii_own_lst, ii_tup_bl, ii_tup_int, ii_tup_str, ii_tup_lst, ii_tup_tup, ii_tup_dct, ii_tup_own, ii_own_tup, ii_dct_bl, ii_dct_int, ii_dct_str, ii_dct_lst, ii_dct_tup, ii_dct_dct, ii_dct_own, ii_own_dct, ii_own_own, ia_nil, ia_cons, st_R, inL, inT, D.sc, mapSc, inV_nil, inV_str, inV_int, allBD_map, allID_map,
  List.lookup_cons, List.lookup_nil, List.all_cons, List.all_nil, List.map_cons, List.map_nil, List.cons_append, List.nil_append, List.append_nil, List.length_cons, List.length_nil, List.length_map, List.length_append, List.set_cons_zero, List.set_cons_succ, List.replicate_succ, List.replicate_zero, List.take_succ_cons, List.take_zero, List.drop_succ_cons, List.drop_zero, Option.map_some, Option.map_none, Option.isSome_some, Option.isSome_none, Option.isNone_some, Option.isNone_none, Option.bind_some, Option.bind_none, String.reduceEq, String.reduceBEq, ofString_eq, Bool.not_true, Bool.not_false, Bool.and_true, Bool.true_and, Bool.and_false, Bool.false_and, Bool.or_true, Bool.true_or, Bool.or_false, Bool.false_or, Bool.and_self, Bool.false_eq_true, reduceCtorEq, if_true, if_false, ite_true, ite_false, true_and, and_true, and_self, true_or, or_true, false_or, or_false, false_and, and_false, not_true_eq_false, not_false_eq_true, beq_self_eq_true, decide_true, decide_false, decide_eq_true_eq, Nat.reduceSub, Nat.reduceAdd, Nat.reduceLT, Nat.reduceLeDiff, Nat.zero_add, Nat.add_zero, Nat.sub_self, Nat.reduceEqDiff, Int.reduceAdd, Int.reduceSub, Int.reduceMul, Int.reduceLE, Int.reduceLT, Int.reduceEq, Int.reduceNeg, Int.reduceToNat, Int.reducePow, Nat.reducePow, Int.cast_ofNat_Int, id_eq, Function.comp_def, ne_eq, List.contains_cons, List.contains_nil, cellF, List.cons_ne_self, isi_cs, isi_sub])
local macro_rules | `(tactic| walk_at "gg") => `(tactic| try walk_at "ff")

local macro_rules | `(tactic| walk_at "m") => `(tactic| repeat (first | walk_at "f" | simp only [atM_w, atM_n, atM_s, meM_leaks, meM_edge, meM_cedge, meM_cnode]))
local macro_rules | `(tactic| walk_at "b") => `(tactic| try simp only [Dr.bind_ok, t_bl, opt_some, Bool.not_true, Bool.not_false, if_false, if_true, Bool.false_eq_true, ite_true, ite_false])
local macro_rules | `(tactic| walk_at "bb") => `(tactic| try simp -implicitDefEqProofs only [Dr.bind_ok, t_bl, opt_some, Bool.not_true, Bool.not_false, if_false, if_true, Bool.false_eq_true, ite_true, ite_false])

theorem F_is_number3 (i lo : Int) : F_is_number [.int i, .int lo, .non] = .ok (.bl (decide (lo ≤ i))) := by
  unfold F_is_number f_is_number
  walk_at "ff"
  by_cases h : lo ≤ i
  · rw [if_pos h, decide_eq_true h]; walk_at "ff"
  · rw [if_neg h, decide_eq_false h]; walk_at "ff"
theorem F_is_numberI (i lo hi : Int) : F_is_number [.int i, .int lo, .int hi] = .ok (.bl (decide (lo ≤ i) && decide (i ≤ hi))) := by
  unfold F_is_number f_is_number
  walk_at "ff"
  by_cases h : lo ≤ i
  · rw [if_pos h, decide_eq_true h]; walk_at "ff"
  · rw [if_neg h, decide_eq_false h]; walk_at "ff"
theorem F_is_numberT {i lo hi : Int} (h1 : lo ≤ i) (h2 : i ≤ hi) : F_is_number [.int i, .int lo, .int hi] = .ok (.bl true) := by
  rw [F_is_numberI, decide_eq_true h1, decide_eq_true h2]; rfl
theorem F_is_rowN (w : Nat) (as : List Nat) (h : as.length < 1000) : F_is_row [nD w, tupN as] = .ok (.bl (decide (as.length = w))) := by
  unfold F_is_row f_is_row
  walk_at "ff"
  by_cases e : (as.length : Int) = (w : Int)
  · rw [if_pos e]
    have e2 : as.length = w := by omega
    rw [must_ok]; rotate_left
    · omega
    rw [lcF_all nD (fun _ => .bl true) as fun x hx => by unfold lcOne dd_is_number_2_D; walk_at "ff"; rw [F_is_number3]; walk_at "ff"; simp]
    walk_at "ff"
    have : as.map (fun _ => D.bl true) = (as.map fun _ => true).map D.bl := by simp
    rw [this, allBD_map]
    walk_at "ff"
    simp [e2]
  · rw [if_neg e]
    have e2 : ¬ as.length = w := by omega
    walk_at "ff"
    simp [e2, e]
theorem dr_nat {n : Int} {k : Int → Dr α} {P : α → Prop} {X : ExD → Prop} (h1 : 1 ≤ n) (h2 : n < 1000000) (q : ∀ d : Nat, (d : Int) < n → (k d).wp P X) : (Dr.dr n k).wp P X := by
  refine ⟨⟨h1, by omega⟩, fun d d0 d1 => ?_⟩
  obtain ⟨e, rfl⟩ := Int.eq_ofNat_of_zero_le d0
  exact q e d1
theorem F_law_pick_wp {t : String} {l : List D} {P : D → Prop} {X : ExD → Prop} (h : l ≠ []) (h2 : l.length < 1000) (q : ∀ x ∈ l, P x) : (F_law_pick [.ty t, .lst l]).wp P X := by
  unfold F_law_pick f_law_pick
  walk_at "gg"
  have hl : 0 < l.length := List.length_pos_iff.mpr h
  refine dr_nat (by omega) (by omega) fun d hd => ?_
  have hd : d < l.length := by omega
  walk_at "gg"
  rw [List.getElem?_eq_getElem hd]
  walk_at "gg"
  exact q _ (List.getElem_mem hd)
theorem F_law_few_wp {t : String} {w m : Nat} {P : D → Prop} {X : ExD → Prop} (hw : w < 1000) (hm : m < 1000) (q : ∀ as : List Nat, as.length = w → (∀ x ∈ as, x ≤ m) → P (tupN as)) : (F_law_few [.ty t, nD w, nD m]).wp P X := by
  unfold F_law_few f_law_few
  walk_at "gg"
  rw [must_ok (rngOk_nat (by omega)), Int.toNat_natCast, rngD_nat]
  walk_at "gg"
  rw [must_ok]; rotate_left
  · simp; omega
  walk_at "gg"
  refine lcF_dec (fun (i : Nat) => D.int (i : Int)) nD (fun n => n ≤ m) _ _ (fun x _ => ?_) fun as hl ha => ?_
  · unfold lcOne
    walk_at "gg"
    refine dr_nat (by omega) (by omega) fun d hd => ?_
    exact ⟨d, rfl, by omega⟩
  · exact q as (by simpa using hl) ha
def smN : Nat → D → Bool
  | 0, _ => false
  | _ + 1, .non => true
  | _ + 1, .int _ => true
  | _ + 1, .bl _ => true
  | _ + 1, .str _ => true
  | n + 1, .lst l => l.all (smN n) && decide (l.length < 1000)
  | n + 1, .tup l => l.all (smN n) && decide (l.length < 1000)
  | _ + 1, _ => false
theorem zipD_self (l : List D) : zipD l l = l.map fun x => D.tup [x, x] := by
  unfold zipD
  induction l with
  | nil => rfl
  | cons x l ih => simpa using ih
theorem F_law_same_refl : ∀ (n : Nat) (x : D), smN n x = true → Fn_law_same n [x, x] = .ok (.bl true)
  | 0, x, h => by simp [smN] at h
  | n + 1, x, h => by
    unfold Fn_law_same f_law_same
    cases x with
    | non => walk_at "gg"
    | int i => walk_at "gg"
    | bl b => walk_at "gg"
    | str s => walk_at "gg"
    | lst l =>
      simp only [smN, Bool.and_eq_true, decide_eq_true_eq, List.all_eq_true] at h
      obtain ⟨h, hl⟩ := h
      walk_at "gg"
      rw [zipD_self, must_ok (by simp; omega)]
      rw [lcF_all (fun x => D.tup [x, x]) (fun _ => D.bl true) l fun x hx => by
        unfold lcOne
        walk_at "gg"
        rw [F_law_same_refl n x (h x hx)]
        walk_at "gg"]
      walk_at "gg"
      have : l.map (fun _ => D.bl true) = (l.map fun _ => true).map D.bl := by simp
      rw [this, allBD_map]
      walk_at "gg"
      simp [bodyK, seqK]
    | tup l =>
      simp only [smN, Bool.and_eq_true, decide_eq_true_eq, List.all_eq_true] at h
      obtain ⟨h, hl⟩ := h
      walk_at "gg"
      rw [zipD_self, must_ok (by simp; omega)]
      rw [lcF_all (fun x => D.tup [x, x]) (fun _ => D.bl true) l fun x hx => by
        unfold lcOne
        walk_at "gg"
        rw [F_law_same_refl n x (h x hx)]
        walk_at "gg"]
      walk_at "gg"
      have : l.map (fun _ => D.bl true) = (l.map fun _ => true).map D.bl := by simp
      rw [this, allBD_map]
      walk_at "gg"
      simp [bodyK, seqK]
    | ins _ _ => simp [smN] at h
    | dct _ => simp [smN] at h
    | cls _ => simp [smN] at h
    | ty _ => simp [smN] at h

theorem tupN_I (as : List Nat) : tupN as = tupI (as.map fun (x : Nat) => (x : Int)) := by
  show D.tup (as.map nD) = D.tup ((as.map fun (x : Nat) => (x : Int)).map D.int)
  rw [List.map_map]
  rfl
theorem toNat_map {r : List Int} (h : ∀ x ∈ r, 0 ≤ x) : (r.map Int.toNat).map (fun (x : Nat) => (x : Int)) = r := by
  rw [List.map_map]
  exact (List.map_congr_left fun x hx => (Int.toNat_of_nonneg (h x hx) : ((x.toNat : Nat) : Int) = x)).trans (List.map_id _)
theorem tupI_N {r : List Int} (h : ∀ x ∈ r, 0 ≤ x) : tupI r = tupN (r.map Int.toNat) := by
  rw [tupN_I, toNat_map h]
theorem F_law_few_I {t : String} {w m : Nat} {P : D → Prop} {X : ExD → Prop} (hw : w < 1000) (hm : m < 1000) (q : ∀ r : List Int, r.length = w → (∀ x ∈ r, 0 ≤ x ∧ x ≤ m) → P (tupI r)) : (F_law_few [.ty t, nD w, nD m]).wp P X :=
  F_law_few_wp hw hm fun as h1 h2 => by
    rw [tupN_I]
    exact q _ (by simpa using h1) fun x hx => by
      obtain ⟨y, hy, rfl⟩ := List.mem_map.mp hx
      have := h2 y hy
      omega
/-- rows as they are drawn -/
def RowsB (w : Nat) (m : Int) (rows : List (List Int)) : Prop := ∀ r ∈ rows, r.length = w ∧ ∀ x ∈ r, 0 ≤ x ∧ x ≤ m
theorem F_law_rows_wp {t : String} {w k m : Nat} {P : D → Prop} {X : ExD → Prop} (hw : w < 1000) (hk : k < 100) (hm : m < 1000) (q : ∀ rows : List (List Int), rows.length ≤ k → RowsB w m rows → P (.lst (rows.map tupI))) : (F_law_rows [.ty t, nD w, nD k, nD m]).wp P X := by
  unfold F_law_rows f_law_rows
  walk_at "gg"
  refine dr_nat (by omega) (by omega) fun d hd => ?_
  walk_at "gg"
  rw [must_ok (rngOk_nat (by omega)), Int.toNat_natCast, rngD_nat]
  walk_at "gg"
  rw [must_ok]; rotate_left
  · simp; omega
  walk_at "gg"
  refine lcF_dec (fun (i : Nat) => D.int (i : Int)) tupI (fun r => r.length = w ∧ ∀ x ∈ r, 0 ≤ x ∧ x ≤ (m : Int)) _ _ (fun x _ => ?_) fun rows hl hr => ?_
  · unfold lcOne
    walk_at "gg"
    refine F_law_few_I hw hm fun r h1 h2 => ?_
    walk_at "gg"
    exact ⟨r, rfl, h1, h2⟩
  · refine q rows ?_ hr
    have : rows.length = d := by simpa using hl
    omega
theorem F_is_rowT {w : Nat} {r : List Int} (h : ∀ x ∈ r, 0 ≤ x) (hl : r.length < 1000) : F_is_row [nD w, tupI r] = .ok (.bl (decide (r.length = w))) := by
  rw [tupI_N h, F_is_rowN w _ (by simpa using hl)]
  simp
theorem zipI : ∀ a b : List Int, zipD (a.map D.int) (b.map D.int) = (a.zip b).map fun p => D.tup [.int p.1, .int p.2]
  | [], _ => by simp [zipD]
  | _ :: _, [] => by simp [zipD]
  | x :: a, y :: b => by
    have ih := zipI a b
    unfold zipD at ih ⊢
    rw [List.map_cons, List.map_cons, List.zipWith_cons_cons, ih, List.zip_cons_cons, List.map_cons]
theorem F_is_belowI {a b : List Int} (ha : a.length < 1000) (hb : b.length < 1000) : F_is_below [tupI a, tupI b] = .ok (.bl (below a b)) := by
  unfold F_is_below f_is_below
  walk_at "gg"
  rw [zipI, must_ok (by rw [List.length_map, List.length_zip]; omega)]
  rw [lcF_all (fun p : Int × Int => D.tup [.int p.1, .int p.2]) (fun p => D.bl (decide (p.1 ≤ p.2))) _ fun p hp => by
    unfold lcOne
    walk_at "gg"]
  walk_at "gg"
  have : ((a.zip b).map fun p => D.bl (decide (p.1 ≤ p.2))) = ((a.zip b).map fun p => decide (p.1 ≤ p.2)).map D.bl := by
    rw [List.map_map]; rfl
  rw [this, allBD_map]
  walk_at "gg"
  unfold below
  rw [List.all_map]
  rfl
theorem below_range : ∀ a b : List Int, a.length = b.length → ((List.range b.length).all fun i => decide (a.getD i 0 ≤ b.getD i 0)) = below a b
  | [], [], _ => rfl
  | [], _ :: _, h => by simp at h
  | _ :: _, [], h => by simp at h
  | x :: a, y :: b, h => by
    have ih := below_range a b (by simpa using h)
    rw [List.length_cons, List.range_succ_eq_map, List.all_cons, List.all_map]
    unfold below at ih ⊢
    rw [List.zip_cons_cons, List.all_cons, ← ih]
    rfl
theorem getI {r : List Int} {c : Nat} (h : c < r.length) : (r.map D.int)[c]? = some (D.int (r.getD c 0)) := by
  simp [List.getD, h]
theorem F_law_underI {a b : List Int} (h : a.length = b.length) (hb : b.length < 1000) : F_law_under [tupI a, tupI b] = .ok (.bl (below a b)) := by
  unfold F_law_under f_law_under
  walk_at "gg"
  rw [must_ok (rngOk_nat (by omega)), Int.toNat_natCast, rngD_nat]
  walk_at "gg"
  rw [must_ok]; rotate_left
  · simp; omega
  rw [lcF_all (fun (i : Nat) => D.int (i : Int)) (fun k => .bl (decide (a.getD k 0 ≤ b.getD k 0))) _ fun k hk => by
    have hk := List.mem_range.mp hk
    unfold lcOne
    walk_at "gg"
    rw [getI (by omega)]
    walk_at "gg"
    rw [getI (by omega)]
    walk_at "gg"]
  walk_at "gg"
  have : ((List.range b.length).map fun k => D.bl (decide (a.getD k 0 ≤ b.getD k 0))) = ((List.range b.length).map fun k => decide (a.getD k 0 ≤ b.getD k 0)).map D.bl := by
    rw [List.map_map]; rfl
  rw [this, allBD_map]
  walk_at "gg"
  rw [← below_range a b h, List.all_map]
  rfl

theorem tupI_inj {a b : List Int} (h : tupI a = tupI b) : a = b := by
  have h : D.tup (a.map D.int) = D.tup (b.map D.int) := h
  have e := D.tup.inj h
  have := congrArg allID e
  rw [allID_map, allID_map] at this
  exact Option.some.inj this
theorem nb_tupI {n : Nat} (r : List Int) : nbN (n + 1) (tupI r) = true := nb_tup (nb_map fun x _ => nb_int x)
theorem nb_rows {n : Nat} (rows : List (List Int)) : nbN (n + 2) (.lst (rows.map tupI)) = true := nb_lst (nb_map fun x _ => nb_tupI x)
theorem rows_inj {a b : List (List Int)} (h : a.map tupI = b.map tupI) : a = b := by
  have := congrArg rowsDD h
  rw [rowsDD_map, rowsDD_map] at this
  exact Option.some.inj this
theorem eqV_rowI (a b : List Int) : DX.eqV (tupI a) (tupI b) = some (decide (a = b)) := eqV_b (nb_tupI a) (nb_tupI b) ⟨fun h => decide_eq_true (tupI_inj h), fun h => by rw [of_decide_eq_true h]⟩
theorem eqV_rows (a b : List (List Int)) : DX.eqV (.lst (a.map tupI)) (.lst (b.map tupI)) = some (decide (a = b)) := eqV_b (nb_rows a) (nb_rows b) ⟨fun h => decide_eq_true (rows_inj (D.lst.inj h)), fun h => by rw [of_decide_eq_true h]⟩
theorem inL_rows (r : List Int) (acc : List (List Int)) : inL (tupI r) (acc.map tupI) = some (decide (r ∈ acc)) := by
  have e : inL (tupI r) (acc.map tupI) = ite_ (okD (tupI r) = true ∧ okD (.lst (acc.map tupI)) = true) (some ((acc.map tupI).any fun z => eqD z (tupI r))) := rfl
  rw [e, ite_t ⟨nb_ok 60 _ (nb_tupI r), nb_ok 60 _ (nb_rows acc)⟩]
  congr 1
  rw [Bool.eq_iff_iff, List.any_eq_true, decide_eq_true_eq]
  constructor
  · rintro ⟨z, hz, h⟩
    obtain ⟨o, ho, rfl⟩ := List.mem_map.mp hz
    rw [tupI_inj ((eqD_nb (nb_tupI o) (nb_tupI r)).mp h)] at ho
    exact ho
  · intro h
    exact ⟨tupI r, List.mem_map.mpr ⟨r, h, rfl⟩, (eqD_nb (nb_tupI r) (nb_tupI r)).mpr rfl⟩
theorem bls_map {α : Type} (l : List α) (f : α → Bool) : (l.map fun o => D.bl (f o)) = (l.map f).map D.bl := by
  rw [List.map_map]
  rfl
theorem any_map {α : Type} (l : List α) (f : α → Bool) : (l.map f).any id = l.any f := by
  rw [List.any_map]
  rfl
theorem F_least_rowsI {x : D} {w : Nat} {B : Int} {rows : List (List Int)} (hx : x = .lst (rows.map tupI) ∨ x = .tup (rows.map tupI)) (ok : rowsOk w B rows) (hw : w < 1000) : F_least_rows [x] = .ok (.lst ((mins (sset rows)).map tupI)) := by
  have key : ∀ ds, seqD (D.lst ds) = some ds := fun ds => rfl
  have hz := sset_len rows
  have h64 := ok.2.1
  unfold F_least_rows f_least_rows
  have go : (fForL (ftN 2) (fIfS (fNot (fTru (fCB fbAny (fCons (fLc [3] (fiSeq (fVar 1)) (ftN 3) ftYes (fCall F_is_below (fCons (fVar 3) (fCons (fVar 2) fNil)))) fNil)))) (fAppend 1 (fVar 2)) fSNil) [2] ((sset rows).map tupI) [some x, some (.lst []), none, none]) = .ok (.nx [some x, some (.lst ((mins (sset rows)).map tupI)), none, none]) := by
    refine (Dr.bind_pure _).symm.trans ?_
    refine for_seqK tupI (fun acc : List (List Int) => [some x, some (.lst (acc.map tupI)), none, none]) (fun acc l => l.foldl minsF acc = mins (sset rows) ∧ (∀ r ∈ l, r.length < 1000) ∧ (∀ r ∈ acc, r.length < 1000) ∧ acc.length + l.length < 64) (s := []) ⟨rfl, fun r hr => ?_, fun r hr => (by cases hr), by simp; omega⟩ (fun acc r l hl => ?_) fun acc h => ?_
    · have := (ok.2.2 r (mem_sset.mp hr)).1
      omega
    · obtain ⟨h1, h2, h3, h4⟩ := hl
      have hr := h2 r (by simp)
      rw [List.length_cons] at h4
      refine ⟨minsF acc r, ⟨h1, fun o ho => h2 o (List.mem_cons_of_mem _ ho), fun o ho => ?_, ?_⟩, ?_⟩
      · unfold minsF at ho
        split at ho
        · exact h3 o ho
        · rcases List.mem_append.mp ho with ho | ho
          · exact h3 o ho
          · rw [List.mem_singleton.mp ho]
            exact hr
      · unfold minsF
        split
        · omega
        · simp
          omega
      · rw [r_turn]
        walk_at "gg"
        rw [must_ok (by omega), lcF_all tupI (fun o => D.bl (below o r)) acc fun o ho => by
          unfold lcOne
          walk_at "gg"
          rw [F_is_belowI (h3 o ho) hr]
          walk_at "bb"]
        walk_at "bb"
        rw [b_any, bls_map, allBD_map, Option.map_some, any_map]
        walk_at "gg"
        unfold minsF
        cases e : acc.any (fun o => below o r) with
        | true =>
          walk_at "gg"
        | false =>
          walk_at "gg"
          rw [must_ok (by omega)]
          walk_at "gg"
          rw [List.map_append]
          rfl
    · obtain ⟨h1, _⟩ := h
      simp only [List.foldl_nil] at h1
      rw [h1]
  rcases hx with rfl | rfl
  · walk_at "gg"
    rw [r_sortK ⟨_, _, ok⟩]
    walk_at "bb"
    rw [key]
    walk_at "bb"
    rw [go]
    walk_at "gg"
  · walk_at "gg"
    rw [r_sortK ⟨_, _, ok⟩]
    walk_at "bb"
    rw [key]
    walk_at "bb"
    rw [go]
    walk_at "gg"
theorem F_law_smallestI {w : Nat} {B : Int} {rows : List (List Int)} (ok : rowsOk w B rows) (hw : w < 1000) : F_law_smallest [.lst (rows.map tupI)] = .ok (.lst ((mins (sset rows)).map tupI)) := by
  have key : ∀ ds, seqD (D.lst ds) = some ds := fun ds => rfl
  have hz := srt_len rows
  have h64 := ok.2.1
  have hw2 : ∀ r ∈ rows, r.length = w := fun r hr => (ok.2.2 r hr).1
  unfold F_law_smallest f_law_smallest
  walk_at "gg"
  rw [r_sortK ⟨_, _, ok⟩]
  walk_at "bb"
  rw [key]
  walk_at "bb"
  rw [Dr.bind_assoc]
  refine for_seqK tupI (fun acc : List (List Int) => [some (.lst (rows.map tupI)), some (.lst (acc.map tupI)), none, none]) (fun acc l => l.foldl (smaF rows) acc = mins (sset rows) ∧ (∀ r ∈ l, r.length = w) ∧ acc.length + l.length < 64) (s := []) ⟨smallest_eq rows w B ok, fun r hr => hw2 r (mem_srt.mp hr), by simp; omega⟩ (fun acc r l hl => ?_) fun acc h => ?_
  · obtain ⟨h1, h2, h4⟩ := hl
    have hr := h2 r (by simp)
    rw [List.length_cons] at h4
    refine ⟨smaF rows acc r, ⟨h1, fun o ho => h2 o (List.mem_cons_of_mem _ ho), ?_⟩, ?_⟩
    · unfold smaF
      split
      · simp
        omega
      · omega
    · rw [r_turn]
      have hin : ite_ (okD (D.tup (r.map D.int)) = true ∧ okD (.lst (acc.map tupI)) = true) (some ((acc.map tupI).any fun z => eqD z (D.tup (r.map D.int)))) = some (decide (r ∈ acc)) := inL_rows r acc
      walk_at "gg"
      rw [hin, Option.map_some]
      walk_at "bb"
      unfold smaF
      cases e : decide (r ∈ acc) with
      | true =>
        walk_at "gg"
      | false =>
        walk_at "gg"
        rw [must_ok (by omega), lcF_all tupI (fun o => D.bl (!decide (o = r) && below o r)) rows fun o ho => by
          have hq : ite_ (okD (D.tup (o.map D.int)) = true ∧ okD (D.tup (r.map D.int)) = true) (some (eqD (D.tup (o.map D.int)) (D.tup (r.map D.int)))) = some (decide (o = r)) := eqV_rowI o r
          unfold lcOne
          walk_at "gg"
          rw [hq, Option.map_some]
          walk_at "bb"
          cases e2 : decide (o = r) with
          | true => walk_at "gg"
          | false =>
            walk_at "gg"
            rw [F_law_underI ((hw2 o ho).trans hr.symm) (by omega)]
            walk_at "gg"]
        walk_at "bb"
        rw [b_any, bls_map, allBD_map, Option.map_some, any_map]
        walk_at "gg"
        cases e2 : rows.any (fun o => !decide (o = r) && below o r) with
        | true =>
          walk_at "gg"
        | false =>
          walk_at "gg"
          rw [must_ok (by omega)]
          walk_at "gg"
          rw [List.map_append]
          rfl
  · obtain ⟨h1, _⟩ := h
    simp only [List.foldl_nil] at h1
    rw [h1]
    walk_at "gg"
/-- a region as a tree -/
def regD (w : Nat) (least : List (List Int)) : D := .ins "Region" [("own_width", nD w), ("own_least", .lst (least.map tupI))]
theorem M_Region_initI {x : D} {w : Nat} {B : Int} {rows : List (List Int)} (h1 : 1 ≤ w) (h4 : w ≤ 4) (hx : x = .lst (rows.map tupI) ∨ x = .tup (rows.map tupI)) (ok : rowsOk w B rows) : M_Region_init [.ins "Region" [], nD w, x] = .ok (.non, regD w (mins (sset rows))) := by
  have hl := F_least_rowsI hx ok (by omega)
  have hs : seqD x = some (rows.map tupI) := by rcases hx with rfl | rfl <;> rfl
  unfold M_Region_init f_Region_init
  walk_at "gg"
  rw [F_is_numberT (by omega) (by omega)]
  walk_at "bb"
  walk_at "gg"
  rw [hs]
  walk_at "bb"
  rw [Dr.bind_assoc]
  refine for_seqK tupI (fun _ : Unit => [some (.ins "Region" []), some (nD w), some x, none]) (fun _ l => ∀ r ∈ l, r ∈ rows) (s := ()) (fun r hr => hr) (fun _ r l hl => ⟨(), fun o ho => hl o (List.mem_cons_of_mem _ ho), ?_⟩) fun _ _ => ?_
  · have hr := ok.2.2 r (hl r (by simp))
    rw [r_turn]
    walk_at "gg"
    rw [F_is_rowT (fun x hx => (hr.2 x hx).1) (by omega), decide_eq_true hr.1]
    walk_at "bb"
    walk_at "gg"
  · walk_at "gg"
    rw [hl]
    walk_at "bb"
    walk_at "gg"
    rfl

def tS (k : Nat) : Str := Str.ofString (toString (k : Int))
theorem tS_len : ∀ k < 200, (tS k).length ≤ 3 := by decide +kernel
theorem rep_flat (w : Nat) (x : Int) : (List.replicate w [D.int x]).flatten = (List.replicate w x).map D.int := by
  induction w with
  | zero => rfl
  | succ n ih => rw [List.replicate_succ, List.replicate_succ, List.flatten_cons, ih, List.map_cons]; rfl
theorem mk_of {d d2 : D} {C : String} {M : MF} {ds : List D} (h : M (.ins C [] :: ds) = .ok (.non, d)) : fMk C M ds = .ok d := by
  rw [r_mk, h]
  rfl
theorem full_ok {w : Nat} (h1 : 1 ≤ w) (h4 : w ≤ 4) : rowsOk w 1 [List.replicate w 0] := by
  refine ⟨?_, by simp, fun r hr => ?_⟩
  · exact h1
  · rw [List.mem_singleton.mp hr]
    refine ⟨by simp, fun m hm => ?_⟩
    rw [List.eq_of_mem_replicate hm]
    omega
theorem full_min {w : Nat} (h1 : 1 ≤ w) (h4 : w ≤ 4) : mins (sset [List.replicate w 0]) = [List.replicate w 0] := by
  have : sset [List.replicate w 0] = [List.replicate w 0] := by
    refine (sset_eq (List.nodup_cons.mpr ⟨by simp, List.nodup_nil⟩) (fun a => ?_) (List.pairwise_singleton _ _)).symm
    exact Iff.rfl
  rw [this]
  rfl
theorem eq_two {w w' : Nat} {L L' : List (List Int)} : ite_ (okD (D.tup [nD w, D.lst (L.map tupI)]) = true ∧ okD (D.tup [nD w', D.lst (L'.map tupI)]) = true) (some (eqD (D.tup [nD w, D.lst (L.map tupI)]) (D.tup [nD w', D.lst (L'.map tupI)]))) = some (decide (w = w') && decide (L = L')) := by
  have nb : ∀ (w : Nat) (L : List (List Int)), nbN 60 (D.tup [nD w, D.lst (L.map tupI)]) = true := fun w L => nb_tup (fun x hx => by
    simp only [List.mem_cons, List.not_mem_nil, or_false] at hx
    rcases hx with rfl | rfl
    · rfl
    · exact nb_rows L)
  show DX.eqV (D.tup [nD w, D.lst (L.map tupI)]) (D.tup [nD w', D.lst (L'.map tupI)]) = _
  refine eqV_b (nb w L) (nb w' L') ⟨fun h => ?_, fun h => ?_⟩
  · have h := D.tup.inj h
    have h1 := D.int.inj (List.cons.inj h).1
    have h2 := rows_inj (D.lst.inj (List.cons.inj (List.cons.inj h).2).1)
    simp [h2, show w = w' by omega]
  · simp only [Bool.and_eq_true, decide_eq_true_eq] at h
    rw [h.1, h.2]
theorem F_Region_widthI {w : Nat} {L : List (List Int)} : F_Region_width [regD w L] = .ok (nD w) := by
  unfold F_Region_width f_Region_width regD
  walk_at "gg"
theorem F_Region_rowsI {w : Nat} {L : List (List Int)} (h : L.length < 64) : F_Region_rows [regD w L] = .ok (.lst (L.map tupI)) := by
  unfold F_Region_rows f_Region_rows regD
  walk_at "gg"
theorem F_Region_lenI {w : Nat} {L : List (List Int)} : F_Region_len [regD w L] = .ok (nD L.length) := by
  unfold F_Region_len f_Region_len regD
  walk_at "gg"
theorem F_Region_boolI {w : Nat} {L : List (List Int)} : F_Region_bool [regD w L] = .ok (.bl (decide (0 < L.length))) := by
  unfold F_Region_bool f_Region_bool regD
  walk_at "gg"
  simp
theorem F_Region_reprI {w : Nat} {L : List (List Int)} (h : L.length < 64) : F_Region_repr [regD w L] = .ok (.str (Str.ofString "Region(" ++ Str.ofString (toString (L.length : Int)) ++ Str.ofString " rows)")) := by
  have k1 : (L.length : Int).natAbs < 1152921504606846976 := by omega
  have e1 := tS_len L.length (by omega)
  unfold tS at e1
  have f1 : Str.empty.length = 0 := rfl
  have f2 : (Str.ofString "Region(").length = 7 := by decide
  have f3 : (Str.ofString " rows)").length = 6 := by decide
  have f4 : Str.empty ++ Str.ofString "Region(" = Str.ofString "Region(" := by decide
  have a1 : 7 + (Str.ofString (toString (L.length : Int))).length ≤ 10000000 := by omega
  have a2 : 7 + (Str.ofString (toString (L.length : Int))).length + 6 ≤ 10000000 := by omega
  have a3 : 7 + (Str.ofString (toString (L.length : Int))).length ≤ 9999994 := by omega
  unfold F_Region_repr f_Region_repr regD
  walk_at "gg"
  simp only [strLen_append, f1, f2, f3, f4, k1, must_true]
  repeat (first | walk_at "ff" | simp only [strLen_append, f2, f3, a1, a2, a3])
theorem F_Region_containsI {w : Nat} {L : List (List Int)} {x : List Int} (hx : ∀ i ∈ x, 0 ≤ i) (hl : x.length < 1000) (hL : ∀ m ∈ L, m.length < 1000) (hn : L.length < 64) : F_Region_contains [regD w L, tupI x] = .ok (.bl (decide (x.length = w) && L.any (fun m => below m x))) := by
  unfold F_Region_contains f_Region_contains regD
  walk_at "gg"
  rw [F_is_rowT hx hl]
  walk_at "bb"
  cases e : decide (x.length = w) with
  | false => walk_at "gg"
  | true =>
    walk_at "gg"
    rw [must_ok (by omega), lcF_all tupI (fun o => D.bl (below o x)) L fun o ho => by
      unfold lcOne
      walk_at "gg"
      rw [F_is_belowI (hL o ho) hl]
      walk_at "bb"]
    walk_at "bb"
    rw [b_any, bls_map, allBD_map, Option.map_some, any_map]
    walk_at "gg"
theorem F_law_holdsI {rows : List (List Int)} {x : List Int} (h : ∀ r ∈ rows, r.length = x.length) (hl : x.length < 1000) (hn : rows.length < 64) : F_law_holds [.lst (rows.map tupI), tupI x] = .ok (.bl (rows.any fun r => below r x)) := by
  unfold F_law_holds f_law_holds
  walk_at "gg"
  rw [must_ok (by omega), lcF_all tupI (fun o => D.bl (below o x)) rows fun o ho => by
    unfold lcOne
    walk_at "gg"
    rw [F_law_underI (h o ho) hl]
    walk_at "bb"]
  walk_at "bb"
  rw [b_any, bls_map, allBD_map, Option.map_some, any_map]
  walk_at "gg"
theorem F_Region_fullI {w : Nat} (h1 : 1 ≤ w) (h4 : w ≤ 4) : F_Region_full [nD w] = .ok (regD w [List.replicate w 0]) := by
  have ok : rowsOk w 1 [List.replicate w 0] := full_ok h1 h4
  have hI := M_Region_initI h1 h4 (.inl rfl) ok
  rw [full_min h1 h4] at hI
  have e : (List.replicate (w : Int).toNat [D.int 0]).flatten = (List.replicate w (0 : Int)).map D.int := by rw [Int.toNat_natCast]; exact rep_flat w _
  unfold F_Region_full f_Region_full
  walk_at "gg"
  rw [F_is_numberT (by omega) (by omega)]
  walk_at "bb"
  walk_at "gg"
  rw [show ite_ (0 ≤ (w : Int) ∧ (w : Int) ≤ 1000) (some (D.tup (List.replicate (w : Int).toNat [D.int 0]).flatten)) = some (tupI (List.replicate w 0)) from by rw [ite_t ⟨by omega, by omega⟩, e]]
  walk_at "gg"
  rw [List.map_cons, List.map_nil] at hI
  rw [hI]
  walk_at "bb"
  rw [r_mkK]
  walk_at "bb"
  rw [must_ok (show frzOk (regD w [List.replicate w 0]) = true from rfl)]
  walk_at "gg"
theorem F_Region_eqI {w w' : Nat} {L L' : List (List Int)} : F_Region_eq [regD w L, regD w' L'] = .ok (.bl (decide (w = w') && decide (L = L'))) := by
  unfold F_Region_eq f_Region_eq regD
  walk_at "gg"
  rw [if_pos (by simp)]
  walk_at "gg"
  rw [eq_two]
  walk_at "gg"
theorem F_Region_eqL {w : Nat} {L : List (List Int)} {ds : List D} : F_Region_eq [regD w L, .lst ds] = .ok (.bl false) := by
  unfold F_Region_eq f_Region_eq regD
  walk_at "gg"
  rw [if_pos (by simp)]
  walk_at "gg"

theorem erase_map {α β : Type} (f : α → β) : ∀ (l : List α) (n : Nat), (l.map f).eraseIdx n = (l.eraseIdx n).map f
  | [], _ => rfl
  | _ :: _, 0 => rfl
  | x :: l, n + 1 => congrArg (f x :: ·) (erase_map f l n)
theorem erase_perm {α : Type} : ∀ (l : List α) (n : Nat) (h : n < l.length), (l[n] :: l.eraseIdx n).Perm l
  | x :: l, 0, _ => .refl _
  | x :: l, n + 1, h => (List.Perm.swap x (l[n]'(by simpa using h)) _).trans (.cons x (erase_perm l n (by simpa using h)))
theorem mvK_ok {i j : Nat} {ρ : Rho} {ds es : List D} {n : Nat} {d : D} (h : es[n]? = some d) (h1 : ds.length < 10000000) (h2 : es.length < 1000) : mvK i j ρ ds es (.int (n : Int)) = .ok (.nx ((ρ.set j (some (.lst (es.eraseIdx n)))).set i (some (.lst (ds ++ [d]))))) := by
  have hn : n < es.length := by
    rcases Nat.lt_or_ge n es.length with z | z
    · exact z
    · rw [List.getElem?_eq_none z] at h
      cases h
  have e : seqIndex? (n : Int) es.length = some n := by
    unfold seqIndex?
    simp
    omega
  show opt (seqIndex? (n : Int) es.length) _ = _
  rw [e, opt_some, h, opt_some, must_ok ⟨h1, by omega, by omega⟩]
theorem F_law_mixed_wp {t : String} {rows : List (List Int)} {P : D → Prop} {X : ExD → Prop} (h : rows.length < 100) (q : ∀ es : List (List Int), es.Perm rows → P (.lst (es.map tupI))) : (F_law_mixed [.ty t, .lst (rows.map tupI)]).wp P X := by
  unfold F_law_mixed f_law_mixed
  walk_at "gg"
  rw [must_ok (rngOk_nat (by omega)), Int.toNat_natCast, rngD_nat]
  walk_at "gg"
  refine for_wpK (fun (i : Nat) => D.int (i : Int)) (fun s : List (List Int) × List (List Int) => [some (.ty t), some (.lst (rows.map tupI)), some (.lst (s.2.map tupI)), some (.lst (s.1.map tupI)), none]) (fun s l => (s.1 ++ s.2).Perm rows ∧ s.2.length = l.length) (s := ([], rows)) ⟨List.Perm.refl _, by simp⟩ (fun s i l hl => ?_) fun s hs => ?_
  · obtain ⟨h1, h2⟩ := hl
    obtain ⟨found, left⟩ := s
    have h3 := h1.length_eq
    rw [List.length_append] at h3
    rw [List.length_cons] at h2
    dsimp only at h1 h2 h3
    rw [r_turn]
    walk_at "gg"
    refine dr_nat (by omega) (by omega) fun d hd => ?_
    have hd : d < left.length := by omega
    rw [mvK_ok (d := tupI left[d]) (by rw [List.getElem?_map, List.getElem?_eq_getElem hd]; rfl) (by rw [List.length_map]; omega) (by rw [List.length_map]; omega)]
    walk_at "gg"
    refine ⟨(found ++ [left[d]], left.eraseIdx d), ?_, ?_, ?_⟩
    · rw [List.map_append, erase_map]
      rfl
    · rw [List.append_assoc]
      exact (List.Perm.append_left found (erase_perm left d hd)).trans h1
    · dsimp only
      rw [List.length_eraseIdx_of_lt hd]
      omega
  · obtain ⟨h1, h2⟩ := hs
    obtain ⟨found, left⟩ := s
    have : left = [] := List.eq_nil_of_length_eq_zero h2
    subst this
    walk_at "gg"
    rw [List.append_nil] at h1
    exact q found h1
def numB : D → Bool
  | .int i => decide (0 ≤ i)
  | _ => false
def scB : D → Bool
  | .int _ => true
  | .bl _ => true
  | .str _ => true
  | _ => false
theorem F_is_numberB {x : D} (h : scB x = true) : F_is_number [x, .int 0, .non] = .ok (.bl (numB x)) := by
  unfold F_is_number f_is_number
  cases x with
  | int i => 
    walk_at "gg"
    by_cases h : 0 ≤ i
    · rw [if_pos h]; walk_at "gg"; simp [numB, h]
    · rw [if_neg h]; walk_at "gg"; simp [numB, h]
  | bl b => walk_at "gg"; rfl
  | str s => walk_at "gg"; rfl
  | _ => cases h
theorem F_is_rowG {w : Nat} {ds : List D} (h : ∀ x ∈ ds, scB x = true) (hl : ds.length < 1000) : F_is_row [nD w, .tup ds] = .ok (.bl (decide (ds.length = w) && ds.all numB)) := by
  unfold F_is_row f_is_row
  walk_at "gg"
  by_cases e : (ds.length : Int) = (w : Int)
  · rw [if_pos e]
    have e2 : ds.length = w := by omega
    rw [must_ok (by omega)]
    have := lcF_all (fun x : D => x) (fun x => D.bl (numB x)) ds (ρ := [some (nD w), some (D.tup ds), none]) (g := ftN 2) (t := ftYes) (m := fCall (fun ds => F_is_number (ds ++ dd_is_number_2_D)) (fCons (fVar 2) (fCons (fC (.int 0)) fNil))) fun x hx => by
      unfold lcOne dd_is_number_2_D
      walk_at "gg"
      rw [F_is_numberB (h x hx)]
      walk_at "gg"
    rw [List.map_id'] at this
    rw [this]
    walk_at "gg"
    rw [bls_map, allBD_map]
    walk_at "gg"
    rw [decide_eq_true e2, Bool.true_and, List.all_map]
    rfl
  · rw [if_neg e]
    have e2 : ¬ ds.length = w := by omega
    walk_at "gg"
    simp [e2, e]
theorem F_is_rowN0 {w : Nat} {x : D} (h : match x with | .non => True | .int _ => True | .bl _ => True | .str _ => True | .lst _ => True | _ => False) : F_is_row [nD w, x] = .ok (.bl false) := by
  unfold F_is_row f_is_row
  cases x with
  | non => walk_at "gg"
  | int i => walk_at "gg"
  | bl i => walk_at "gg"
  | str i => walk_at "gg"
  | lst i => walk_at "gg"
  | _ => exact h.elim
theorem F_containsNo {w : Nat} {L : List (List Int)} {x : D} (h : F_is_row [nD w, x] = .ok (.bl false)) : F_Region_contains [regD w L, x] = .ok (.bl false) := by
  unfold F_Region_contains f_Region_contains regD
  walk_at "gg"
  rw [h]
  walk_at "gg"
/-- values that are no row of a width -/
def Odd (w : Nat) (x : D) : Prop := F_is_row [nD w, x] = .ok (.bl false)
theorem odd_tup {w : Nat} {ds : List D} (h : ∀ x ∈ ds, scB x = true) (hl : ds.length < 1000) (hn : ds.length ≠ w ∨ ∃ x ∈ ds, numB x = false) : Odd w (.tup ds) := by
  unfold Odd
  rw [F_is_rowG h hl]
  rcases hn with z | ⟨x, hx, z⟩
  · rw [decide_eq_false z, Bool.false_and]
  · have : ds.all numB = false := by
      rw [List.all_eq_false]
      exact ⟨x, hx, by rw [z]; decide⟩
    rw [this, Bool.and_false]
theorem rowsB_ok {w : Nat} {m : Int} {rows : List (List Int)} (h1 : 1 ≤ w) (hl : rows.length < 64) (h : RowsB w m rows) (hm : m < 100) : rowsOk w 100 rows := ⟨h1, hl, fun r hr => ⟨(h r hr).1, fun x hx => by have := (h r hr).2 x hx; omega⟩⟩
theorem tup_mul {w : Nat} {x : Int} (h1 : 1 ≤ w) (h4 : w ≤ 4) : ite_ (0 ≤ (w : Int) ∧ (w : Int) ≤ 1000) (some (D.tup (List.replicate (w : Int).toNat [D.int x]).flatten)) = some (tupI (List.replicate w x)) := by
  rw [ite_t ⟨by omega, by omega⟩, Int.toNat_natCast, rep_flat]

theorem mk_wp {d : D} {Q : D → Prop} {X : ExD → Prop} (hf : frzOk d = true) (h : Q d) : (Dr.ok (D.non, d)).wp (fun a => (mkK a.1 a.2).wp (fun a => (must (frzOk a = true) (Dr.ok a)).wp Q X) X) X := by
  rw [Dr.wp_ok]
  show (Dr.ok d).wp _ _
  rw [Dr.wp_ok, must_ok hf, Dr.wp_ok]
  exact h
variable {w : Nat} {L : List (List Int)}
theorem at_w : atF "width" (("Region", .prp F_Region_width) :: []) (regD w L) = .ok (nD w) := by
  have := F_Region_widthI (w := w) (L := L)
  unfold regD at this ⊢
  walk_at "gg"
  rw [this]
  walk_at "gg"
theorem me_rows (h : L.length < 64) : methF "rows" (("Region", F_Region_rows) :: []) (regD w L) (fun F => F [regD w L]) = .ok (.lst (L.map tupI)) := by
  refine Eq.trans ?_ (F_Region_rowsI (w := w) h)
  unfold regD
  walk_at "gg"
theorem len_reg (h : L.length < 64) : lenF (("Region", F_Region_len) :: []) [regD w L] = .ok (nD L.length) := by
  have := F_Region_lenI (w := w) (L := L)
  have e : ∀ d, lenF (("Region", F_Region_len) :: []) [.ins "Region" d] = (F_Region_len [.ins "Region" d]).bind fun r => match r with
    | .int i => must (0 ≤ i ∧ i < 2 ^ 62) (.ok (.int i))
    | _ => .no := fun d => rfl
  unfold regD at this ⊢
  rw [e, this, Dr.bind_ok]
  exact must_ok ⟨by omega, by omega⟩
theorem bool_reg : boolK "Region" F_Region_bool [regD w L] = .ok (.bl (decide (0 < L.length))) := by
  have := F_Region_boolI (w := w) (L := L)
  unfold regD at this ⊢
  walk_at "gg"
  rw [this]
  walk_at "gg"
def dueS (L : List (List Int)) : Str := Str.ofString "Region(" ++ Str.ofString (toString (L.length : Int)) ++ Str.ofString " rows)"
theorem repr_reg (h : L.length < 64) : reprK "Region" F_Region_repr [regD w L] = .ok (.str (dueS L)) := by
  have := F_Region_reprI (w := w) h
  unfold dueS
  unfold regD at this ⊢
  walk_at "gg"
  rw [this]
  walk_at "gg"
theorem in_reg {v : D} {b : Bool} (h : F_Region_contains [regD w L, v] = .ok (.bl b)) : inOK "Region" id F_Region_contains v (regD w L) = .ok (.bl b) := by
  unfold regD at h ⊢
  walk_at "gg"
  rw [h]
  walk_at "gg"
theorem eq_reg {w' : Nat} {L' : List (List Int)} : eqOK ["Region"] "Region" id F_Region_eq (regD w L) (regD w' L') = .ok (.bl (decide (w = w') && decide (L = L'))) := by
  have := F_Region_eqI (w := w) (L := L) (w' := w') (L' := L')
  unfold regD at this ⊢
  walk_at "gg"
  rw [this]
  walk_at "gg"
  exact must_ok ⟨List.mem_singleton.mpr rfl, fun e h => (Tg.own.inj h).symm⟩
theorem eq_regL {ds : List D} : eqOK ["Region"] "Region" id F_Region_eq (regD w L) (.lst ds) = .ok (.bl false) := by
  have := F_Region_eqL (w := w) (L := L) (ds := ds)
  unfold regD at this ⊢
  walk_at "gg"
  rw [this]
  walk_at "gg"
  exact must_ok ⟨trivial, fun e h => h.elim⟩
theorem ne_nil : ite_ (okD (D.lst (L.map tupI)) = true ∧ okD (D.lst []) = true) (some (eqD (D.lst (L.map tupI)) (D.lst []))) = some (!decide (0 < L.length)) := by
  have e : DX.eqV (D.lst (L.map tupI)) (D.lst ([].map tupI)) = some (decide (L = [])) := eqV_rows L []
  have e2 : (decide (L = [])) = (!decide (0 < L.length)) := by cases L <;> simp
  rw [e2] at e
  exact e
theorem due_add1 (h : L.length < 64) : foAdd (.str (Str.ofString "Region(")) (.str (Str.ofString (toString (L.length : Int)))) = some (.str (Str.ofString "Region(" ++ Str.ofString (toString (L.length : Int)))) := by
  have e1 := tS_len L.length (by omega)
  unfold tS at e1
  have f2 : (Str.ofString "Region(").length = 7 := by decide
  rw [o_addS, ite_t (by omega)]
theorem due_add2 (h : L.length < 64) : foAdd (.str (Str.ofString "Region(" ++ Str.ofString (toString (L.length : Int)))) (.str (Str.ofString " rows)")) = some (.str (dueS L)) := by
  have e1 := tS_len L.length (by omega)
  unfold tS at e1
  have f2 : (Str.ofString "Region(").length = 7 := by decide
  have f3 : (Str.ofString " rows)").length = 6 := by decide
  rw [o_addS, ite_t (by rw [strLen_append]; omega)]
  rfl
theorem smN_rows {n : Nat} (h : L.length < 1000) (hw : ∀ r ∈ L, r.length < 1000) : smN (n + 3) (.lst (L.map tupI)) = true := by
  simp only [smN, Bool.and_eq_true, decide_eq_true_eq, List.all_eq_true, List.length_map]
  refine ⟨fun x hx => ?_, h⟩
  obtain ⟨r, hr, rfl⟩ := List.mem_map.mp hx
  simp only [tupI, smN, Bool.and_eq_true, decide_eq_true_eq, List.all_eq_true, List.length_map]
  refine ⟨fun x hx => ?_, hw r hr⟩
  obtain ⟨i, _, rfl⟩ := List.mem_map.mp hx
  rfl
theorem same_one {b : Bool} {s : Str} (h : L.length < 1000) (hw : ∀ r ∈ L, r.length < 1000) : F_law_same [.lst [nD w, .lst (L.map tupI), nD L.length, .bl b, .str s], .lst [nD w, .lst (L.map tupI), nD L.length, .bl b, .str s]] = .ok (.bl true) := by
  refine F_law_same_refl 4 _ ?_
  have := smN_rows (n := 0) h hw
  simp only [smN, Bool.and_eq_true, decide_eq_true_eq, List.all_cons, List.all_nil, Bool.and_true, nD] at this ⊢
  simp [this, h]
theorem tup_mulD {n : Int} {k : Nat} {x : D} (h : n = (k : Int)) (hk : k ≤ 1000) : ite_ (0 ≤ n ∧ n ≤ 1000) (some (D.tup (List.replicate n.toNat [x]).flatten)) = some (D.tup (List.replicate k x)) := by
  subst h
  rw [ite_t ⟨by omega, by omega⟩, Int.toNat_natCast]
  congr 2
  induction k with
  | zero => rfl
  | succ n ih => rw [List.replicate_succ, List.replicate_succ, List.flatten_cons, ih (by omega)]; rfl
theorem mem_rep {x y : D} {k : Nat} (h : y ∈ List.replicate k x) : y = x := List.eq_of_mem_replicate h
theorem odd_end {k : Nat} {x y : D} {w : Nat} (hx : scB x = true) (hy : scB y = true) (n : numB y = false) (hk : k < 100) : Odd w (.tup (List.replicate k x ++ [y])) := by
  refine odd_tup (fun z hz => ?_) (by simp; omega) (.inr ⟨y, by simp, n⟩)
  rcases List.mem_append.mp hz with hz | hz
  · rw [mem_rep hz]; exact hx
  · rw [List.mem_singleton.mp hz]; exact hy
theorem odd_rep {k : Nat} {x : D} {w : Nat} (hx : scB x = true) (hk : k < 100) (n : k ≠ w ∨ (k ≠ 0 ∧ numB x = false)) : Odd w (.tup (List.replicate k x)) := by
  refine odd_tup (fun z hz => by rw [mem_rep hz]; exact hx) (by simp; omega) ?_
  rcases n with n | ⟨n, n2⟩
  · exact .inl (by simpa using n)
  · exact .inr ⟨x, by simp [n], n2⟩
theorem list_mul {w : Nat} (h : w ≤ 4) : ite_ (-10000 ≤ (w : Int) ∧ (w : Int) ≤ 10000) (some (D.lst (List.replicate (w : Int).toNat [D.int 0]).flatten)) = some (D.lst (List.replicate w (D.int 0))) := by
  rw [ite_t ⟨by omega, by omega⟩, Int.toNat_natCast, rep_flat, List.map_replicate]
theorem same_two {b : Bool} {r : List Int} (h : r.length < 1000) : F_law_same [.lst [.bl true, .bl b, .bl false, .lst [tupI r]], .lst [.bl true, .bl b, .bl false, .lst [tupI r]]] = .ok (.bl true) := by
  refine F_law_same_refl 4 _ ?_
  have := smN_rows (L := [r]) (n := 0) (by simp) (by simp [h])
  simp only [smN, Bool.and_eq_true, decide_eq_true_eq, List.all_cons, List.all_nil, Bool.and_true, List.map_cons, List.map_nil] at this ⊢
  simp [this, h]
theorem init_nil (h1 : 1 ≤ w) (h4 : w ≤ 4) : M_Region_init (D.ins "Region" [] :: nD w :: dd_Region_init_2_D) = .ok (.non, regD w []) := by
  have := M_Region_initI (w := w) (B := 1) (rows := []) h1 h4 (.inr rfl) ⟨h1, by simp, fun r hr => by cases hr⟩
  rw [mins_nil] at this
  exact this
theorem init_1 : M_Region_init (D.ins "Region" [] :: D.int 1 :: dd_Region_init_2_D) = .ok (.non, regD 1 []) := init_nil (w := 1) (by omega) (by omega)
theorem init_2 : M_Region_init (D.ins "Region" [] :: D.int 2 :: dd_Region_init_2_D) = .ok (.non, regD 2 []) := init_nil (w := 2) (by omega) (by omega)
theorem init_3 : M_Region_init (D.ins "Region" [] :: D.int 3 :: dd_Region_init_2_D) = .ok (.non, regD 3 []) := init_nil (w := 3) (by omega) (by omega)
theorem full_1 : F_Region_full [D.int 1] = .ok (regD 1 [[0]]) := F_Region_fullI (w := 1) (by omega) (by omega)
theorem full_4 : F_Region_full [D.int 4] = .ok (regD 4 [[0, 0, 0, 0]]) := F_Region_fullI (w := 4) (by omega) (by omega)

theorem law_wp : (f_law (none :: some (.ty "bag") :: List.replicate 12 none)).wp (fun r => match r with
      | .rt d _ => d = .bl true
      | _ => False) (fun _ => False) := by
  unfold f_law
  walk_at "gg"
  rw [must_ok (by decide), show rngD 0 4 = (List.range 4).map fun (i : Nat) => D.int (i : Int) from rngD_nat 4]
  walk_at "gg"
  refine for_wpK (fun (i : Nat) => D.int (i : Int)) (fun _ : Unit => [none, some (.ty "bag"), none, none, none, none, none, none, none, none, none, none, none, none]) (fun _ _ => True) (s := ()) trivial (fun s x l _ => ?_) fun s _ => ?_
  · rw [r_turn]
    walk_at "gg"
    refine dr_nat (by omega) (by omega) fun d hd => ?_
    walk_at "gg"
    obtain ⟨w, hw⟩ : ∃ w : Nat, (1 : Int) + (d : Int) = (w : Int) := ⟨1 + d, by omega⟩
    rw [hw]
    have h1 : 1 ≤ w := by omega
    have h4 : w ≤ 4 := by omega
    refine F_law_rows_wp (w := w) (k := 6) (m := 4) (by omega) (by decide) (by decide) fun rows hl hr => ?_
    have ok : rowsOk w 100 rows := rowsB_ok h1 (by omega) hr (by omega)
    have hml := mins_len rows
    have hm64 : (mins (sset rows)).length < 64 := by omega
    have hmw : ∀ m ∈ mins (sset rows), m.length = w ∧ ∀ i ∈ m, 0 ≤ i := fun m hm => by
      have := ((mins_mem ok).mp hm).1
      exact ⟨(hr m this).1, fun i hi => ((hr m this).2 i hi).1⟩
    walk_at "gg"
    rw [F_law_smallestI ok (by omega)]
    walk_at "bb"
    walk_at "gg"
    rw [M_Region_initI h1 h4 (.inl rfl) ok]
    refine mk_wp rfl ?_
    walk_at "gg"
    rw [tup_mul h1 h4]
    walk_at "gg"
    rw [must_ok (by omega)]
    walk_at "gg"
    rw [must_ok (by decide), show rngD 0 2 = (List.range 2).map fun (i : Nat) => D.int (i : Int) from rngD_nat 2]
    walk_at "gg"
    refine for_wpK (fun (i : Nat) => D.int (i : Int)) (fun _ : Unit => [none, some (.ty "bag"), some (.int (x : Int)), some (.int (w : Int)), some (.lst (rows.map tupI)), some (.lst (rows.map tupI ++ [tupI (List.replicate w 9)])), some (.lst ((mins (sset rows)).map tupI)), some (regD w (mins (sset rows))), none, none, none, none, none, none]) (fun _ _ => True) (s := ()) trivial (fun s2 y l2 _ => ?_) fun s2 _ => ?_
    · rw [r_turn]
      walk_at "gg"
      rw [at_w, Dr.wp_ok, me_rows hm64, Dr.wp_ok, must_ok (show frzOk (.lst ((mins (sset rows)).map tupI)) = true from rfl), Dr.wp_ok, len_reg hm64, Dr.wp_ok, bool_reg, Dr.wp_ok, repr_reg hm64, Dr.wp_ok, ne_nil, Option.map_some, Bool.not_not, opt_some, Dr.wp_ok]
      rw [show ite_ (((mins (sset rows)).length : Int).natAbs < 1152921504606846976) (some (D.str (Str.ofString (toString ((mins (sset rows)).length : Int))))) = some (D.str (Str.ofString (toString ((mins (sset rows)).length : Int)))) from ite_t (by omega), opt_some, Dr.wp_ok, due_add1 hm64, opt_some, Dr.wp_ok, due_add2 hm64, opt_some, Dr.wp_ok, same_one (by omega) (fun r hr => by have := (hmw r hr).1; omega), Dr.wp_ok]
      walk_at "gg"
      rw [me_rows hm64]
      walk_at "gg"
      rw [tup_mul h1 h4]
      walk_at "gg"
      rw [must_ok (by omega)]
      walk_at "gg"
      exact ⟨(), trivial⟩
    · walk_at "gg"
      refine F_law_rows_wp (w := w) (k := 6) (m := 5) (by omega) (by decide) (by decide) fun rows2 hl2 hr2 => ?_
      walk_at "gg"
      rw [ite_t (by omega), opt_some, Dr.wp_ok, tup_mul h1 h4, opt_some, Dr.wp_ok, ite_t (by decide), opt_some, Dr.wp_ok, tup_mul h1 h4, opt_some, Dr.wp_ok]
      walk_at "gg"
      rw [ite_t (by omega)]
      walk_at "gg"
      rw [show rows2.map tupI ++ rows.map tupI ++ [tupI (List.replicate w 0), tupI (List.replicate w 1000000000)] = (rows2 ++ rows ++ [List.replicate w 0, List.replicate w 1000000000]).map tupI from by simp]
      refine for_wpK tupI (fun _ : Unit => [none, some (.ty "bag"), some (.int (x : Int)), some (.int (w : Int)), some (.lst (rows.map tupI)), some (.lst (rows.map tupI ++ [tupI (List.replicate w 9)])), some (.lst ((mins (sset rows)).map tupI)), some (regD w (mins (sset rows))), none, none, none, none, none, none]) (fun _ l => ∀ r ∈ l, r.length = w ∧ ∀ i ∈ r, 0 ≤ i) (s := ()) (fun r hz => ?_) (fun s3 y l3 h3 => ?_) fun s3 _ => ?_
      · simp only [List.mem_append, List.mem_cons, List.not_mem_nil, or_false] at hz
        rcases hz with (hz | hz) | rfl | rfl
        · exact ⟨(hr2 r hz).1, fun i hi => ((hr2 r hz).2 i hi).1⟩
        · exact ⟨(hr r hz).1, fun i hi => ((hr r hz).2 i hi).1⟩
        · exact ⟨by simp, fun i hi => by rw [List.eq_of_mem_replicate hi]; omega⟩
        · exact ⟨by simp, fun i hi => by rw [List.eq_of_mem_replicate hi]; omega⟩
      · obtain ⟨g1, g2⟩ := h3 y (by simp)
        rw [r_turn]
        walk_at "gg"
        rw [in_reg (F_Region_containsI g2 (by omega) (fun m hm => by have := (hmw m hm).1; omega) hm64), Dr.wp_ok, F_law_holdsI (fun r hz => ((hr r hz).1).trans g1.symm) (by omega) (by omega), Dr.wp_ok, decide_eq_true g1, Bool.true_and, mins_holds ok g1]
        walk_at "gg"
        exact ⟨(), fun r hz => h3 r (List.mem_cons_of_mem _ hz)⟩
      · walk_at "gg"
        rw [tup_mulD (k := w + 1) (by omega) (by omega), opt_some, Dr.wp_ok, list_mul h4, opt_some, Dr.wp_ok, tup_mulD (k := w) rfl (by omega), opt_some, Dr.wp_ok, tup_mulD (k := w - 1) (by omega) (by omega), opt_some, Dr.wp_ok, o_addT, ite_t (by simp; omega), opt_some, Dr.wp_ok, ite_t (by decide), opt_some, Dr.wp_ok, tup_mulD (k := w - 1) (by omega) (by omega), opt_some, Dr.wp_ok, o_addT, ite_t (by simp; omega), opt_some, Dr.wp_ok]
        refine F_law_pick_wp (by simp) (by simp) fun v hv => ?_
        have odd : Odd w v := by
          simp only [List.mem_cons, List.not_mem_nil, or_false] at hv
          rcases hv with rfl | rfl | rfl | rfl | rfl | rfl | rfl | rfl | rfl | rfl
          · exact F_is_rowN0 trivial
          · exact F_is_rowN0 trivial
          · exact F_is_rowN0 trivial
          · exact F_is_rowN0 trivial
          · exact odd_rep (k := 0) (x := .int 0) rfl (by omega) (.inl (by omega))
          · exact odd_rep rfl (by omega) (.inl (by omega))
          · exact F_is_rowN0 trivial
          · exact odd_rep rfl (by omega) (.inr ⟨by omega, rfl⟩)
          · exact odd_end rfl rfl rfl (by omega)
          · exact odd_end rfl rfl rfl (by omega)
        rw [in_reg (F_containsNo odd), Dr.wp_ok]
        walk_at "gg"
        rw [F_Region_fullI h1 h4, Dr.wp_ok, in_reg (F_containsNo odd), Dr.wp_ok]
        walk_at "gg"
        refine F_law_rows_wp (w := w) (k := 4) (m := 2) (by omega) (by decide) (by decide) fun rows3 hl3 hr3 => ?_
        have ok3 : rowsOk w 100 rows3 := rowsB_ok h1 (by omega) hr3 (by omega)
        walk_at "gg"
        rw [ite_t (by omega), opt_some, Dr.wp_ok, ← List.map_append]
        refine F_law_mixed_wp (by rw [List.length_append]; omega) fun es pe => ?_
        have pel := pe.length_eq
        rw [List.length_append] at pel
        have mem : ∀ a, a ∈ es ↔ a ∈ rows := fun a => by
          rw [pe.mem_iff, List.mem_append]
          exact ⟨fun z => z.elim id fun z => ((mins_mem ok).mp z).1, .inl⟩
        have oke : rowsOk w 100 es := ⟨h1, by omega, fun r hz => ok.2.2 r ((mem r).mp hz)⟩
        rw [must_ok (show frzOk (.lst (es.map tupI)) = true from rfl), Dr.wp_ok]
        walk_at "gg"
        rw [show giD_Region_init_1_rows_width [D.tup (es.map tupI), D.int (w : Int)] = [nD w, D.tup (es.map tupI)] from rfl, M_Region_initI h1 h4 (.inr rfl) oke, sset_same mem]
        refine mk_wp rfl ?_
        rw [eq_reg, Dr.wp_ok, M_Region_initI h1 h4 (.inl rfl) ok3]
        refine mk_wp rfl ?_
        rw [eq_reg, Dr.wp_ok, eq_regL, Dr.wp_ok, F_Region_fullI h1 h4, Dr.wp_ok, me_rows (by simp), Dr.wp_ok, must_ok (show frzOk (.lst ([List.replicate w 0].map tupI)) = true from rfl), Dr.wp_ok, F_law_smallestI ok3 (by omega), Dr.wp_ok, eqV_rows, Option.map_some, opt_some, Dr.wp_ok, tup_mul h1 h4, opt_some, Dr.wp_ok, decide_eq_true (rfl : w = w), decide_eq_true (rfl : mins (sset rows) = mins (sset rows)), Bool.true_and, Bool.true_and, List.map_cons, List.map_nil, same_two (by simp; omega), Dr.wp_ok]
        walk_at "gg"
        exact ⟨(), trivial⟩
  · walk_at "gg"
    rw [init_2]
    refine mk_wp rfl ?_
    rw [init_3]
    refine mk_wp rfl ?_
    rw [eq_reg, Dr.wp_ok]
    refine mk_wp rfl ?_
    rw [me_rows (by decide), Dr.wp_ok, must_ok (show frzOk (.lst (([] : List (List Int)).map tupI)) = true from rfl), Dr.wp_ok, init_1]
    refine mk_wp rfl ?_
    rw [bool_reg, Dr.wp_ok, full_4, Dr.wp_ok, len_reg (by decide), Dr.wp_ok, show gdD_Region_full_0_width [D.int 1] = [D.int 1] from rfl, full_1, Dr.wp_ok, bool_reg, Dr.wp_ok]
    have e : F_law_same [D.lst [.bl false, .lst [], .bl false, .int 1, .bl true], D.lst [.bl false, .lst [], .bl false, .int 1, .bl true]] = .ok (.bl true) := F_law_same_refl 4 _ rfl
    change (F_law_same [D.lst [.bl false, .lst [], .bl false, .int 1, .bl true], D.lst [.bl false, .lst [], .bl false, .int 1, .bl true]]).wp _ _
    rw [e, Dr.wp_ok]

end L03

set_option Elab.async false
set_option linter.all false
set_option maxRecDepth 100000
set_option maxHeartbeats 4000000
namespace L03
open PySem PySem.Spec PyProof.Rows L2 DX
theorem law_true : ∀ p c ms z, p ≠ c → ms.length ≤ 63 → 0 ≤ z → z < 2147483629 → m_law lawC (none :: some (.ref p) :: List.replicate 12 none) (bagS p c ms z) := law_by law_wp
theorem all_mk {l : PySem.W.OpenLaw} {w : World} {K : PySem.W.Frag} {h : Heap} {mg : Str → Option Value} {fa : Addr} (X : K.In h) (G : h.Ns mainGlobals mg) (hfa : mg "law" = some (.ref fa))
    {f_Region : Addr}
    {f_law_bag : Addr} {oc_law_bag kV_law_bag dc_law_bag pm_law_bag cd_law_bag ct_law_bag : Value} {od_law_bag an_law_bag : Option Addr} {sl_law_bag : Array (Option Value)}
    {f_law_pull : Addr} {oc_law_pull kV_law_pull dc_law_pull pm_law_pull cd_law_pull ct_law_pull : Value} {od_law_pull an_law_pull : Option Addr} {sl_law_pull : Array (Option Value)}
    {f_law_few : Addr} {oc_law_few kV_law_few dc_law_few pm_law_few cd_law_few ct_law_few : Value} {od_law_few an_law_few : Option Addr} {sl_law_few : Array (Option Value)}
    {f_law_rows : Addr} {oc_law_rows kV_law_rows dc_law_rows pm_law_rows cd_law_rows ct_law_rows : Value} {od_law_rows an_law_rows : Option Addr} {sl_law_rows : Array (Option Value)}
    {f_law_under : Addr} {oc_law_under kV_law_under dc_law_under pm_law_under cd_law_under ct_law_under : Value} {od_law_under an_law_under : Option Addr} {sl_law_under : Array (Option Value)}
    {f_law_smallest : Addr} {oc_law_smallest kV_law_smallest dc_law_smallest pm_law_smallest cd_law_smallest ct_law_smallest : Value} {od_law_smallest an_law_smallest : Option Addr} {sl_law_smallest : Array (Option Value)}
    {f_is_number : Addr} {oc_is_number kV_is_number dc_is_number pm_is_number cd_is_number ct_is_number : Value} {od_is_number an_is_number : Option Addr} {sl_is_number : Array (Option Value)}
    {dT_is_number : Addr} {dc2_is_number : Value} {dd_is_number : Option Addr} {di_is_number : Array Value} {dn_is_number : Nat} {ds_is_number : Array (Option Value)}
    {f_is_row : Addr} {oc_is_row kV_is_row dc_is_row pm_is_row cd_is_row ct_is_row : Value} {od_is_row an_is_row : Option Addr} {sl_is_row : Array (Option Value)}
    {f_is_below : Addr} {oc_is_below kV_is_below dc_is_below pm_is_below cd_is_below ct_is_below : Value} {od_is_below an_is_below : Option Addr} {sl_is_below : Array (Option Value)}
    {f_least_rows : Addr} {oc_least_rows kV_least_rows dc_least_rows pm_least_rows cd_least_rows ct_least_rows : Value} {od_least_rows an_least_rows : Option Addr} {sl_least_rows : Array (Option Value)}
    {f_Region_init : Addr} {oc_Region_init kV_Region_init dc_Region_init pm_Region_init cd_Region_init ct_Region_init : Value} {od_Region_init an_Region_init : Option Addr} {sl_Region_init : Array (Option Value)}
    {dT_Region_init : Addr} {dc2_Region_init : Value} {dd_Region_init : Option Addr} {di_Region_init : Array Value} {dn_Region_init : Nat} {ds_Region_init : Array (Option Value)}
    {dz_Region_init : Addr} {zc_Region_init : Value} {zd_Region_init : Option Addr} {zi_Region_init : Array Value} {zn_Region_init : Nat} {zs_Region_init : Array (Option Value)}
    {f_Region_repr : Addr} {oc_Region_repr kV_Region_repr dc_Region_repr pm_Region_repr cd_Region_repr ct_Region_repr : Value} {od_Region_repr an_Region_repr : Option Addr} {sl_Region_repr : Array (Option Value)}
    {f_Region_bool : Addr} {oc_Region_bool kV_Region_bool dc_Region_bool pm_Region_bool cd_Region_bool ct_Region_bool : Value} {od_Region_bool an_Region_bool : Option Addr} {sl_Region_bool : Array (Option Value)}
    {f_Region_len : Addr} {oc_Region_len kV_Region_len dc_Region_len pm_Region_len cd_Region_len ct_Region_len : Value} {od_Region_len an_Region_len : Option Addr} {sl_Region_len : Array (Option Value)}
    {f_Region_rows : Addr} {oc_Region_rows kV_Region_rows dc_Region_rows pm_Region_rows cd_Region_rows ct_Region_rows : Value} {od_Region_rows an_Region_rows : Option Addr} {sl_Region_rows : Array (Option Value)}
    {f_Region_width : Addr} {oc_Region_width kV_Region_width dc_Region_width pm_Region_width cd_Region_width ct_Region_width : Value} {od_Region_width an_Region_width : Option Addr} {sl_Region_width : Array (Option Value)}
    {pr_Region_width : Addr} {pe_Region_width : List Value}
    {f_law_same : Addr} {oc_law_same kV_law_same dc_law_same pm_law_same cd_law_same ct_law_same : Value} {od_law_same an_law_same : Option Addr} {sl_law_same : Array (Option Value)}
    {f_Region_contains : Addr} {oc_Region_contains kV_Region_contains dc_Region_contains pm_Region_contains cd_Region_contains ct_Region_contains : Value} {od_Region_contains an_Region_contains : Option Addr} {sl_Region_contains : Array (Option Value)}
    {f_law_holds : Addr} {oc_law_holds kV_law_holds dc_law_holds pm_law_holds cd_law_holds ct_law_holds : Value} {od_law_holds an_law_holds : Option Addr} {sl_law_holds : Array (Option Value)}
    {f_law_pick : Addr} {oc_law_pick kV_law_pick dc_law_pick pm_law_pick cd_law_pick ct_law_pick : Value} {od_law_pick an_law_pick : Option Addr} {sl_law_pick : Array (Option Value)}
    {f_Region_full : Addr} {oc_Region_full kV_Region_full dc_Region_full pm_Region_full cd_Region_full ct_Region_full : Value} {od_Region_full an_Region_full : Option Addr} {sl_Region_full : Array (Option Value)}
    {f_law_mixed : Addr} {oc_law_mixed kV_law_mixed dc_law_mixed pm_law_mixed cd_law_mixed ct_law_mixed : Value} {od_law_mixed an_law_mixed : Option Addr} {sl_law_mixed : Array (Option Value)}
    {f_Region_eq : Addr} {oc_Region_eq kV_Region_eq dc_Region_eq pm_Region_eq cd_Region_eq ct_Region_eq : Value} {od_Region_eq an_Region_eq : Option Addr} {sl_Region_eq : Array (Option Value)}
    {f_law : Addr} {oc_law kV_law dc_law pm_law cd_law ct_law : Value} {od_law an_law : Option Addr} {sl_law : Array (Option Value)}
    {pr_Region_full : Addr}
    {tk_MOST_WIDTH : Tok}
    (h1 : PySem.W.nsIn K mainGlobals "Region" = some (some (.ref f_Region)))
    (h2 : PySem.W.plainGet K f_Region Str.empty = true)
    (h3 : PySem.W.hasDictIn K f_Region = true)
    (h4 : PySem.W.plainOver K f_Region = true)
    (h5 : PySem.W.findIn K (.ref f_Region) "__setattr__" = some (some (.builtin "object.__setattr__")))
    (h6 : PySem.W.findIn K (.ref f_Region) "own_least" = some none)
    (h7 : PySem.W.findIn K (.ref f_Region) "own_width" = some none)
    (h8 : PySem.W.nsIn K mainGlobals "_law_bag" = some (some (.ref f_law_bag)))
    (h9 : K.lookup f_law_bag = some ⟨oc_law_bag, od_law_bag, .func (PySem.W.fnOf "_law_bag" "_law_bag" (defArgs st_law_bag) (defBody st_law_bag) (defScope st_law_bag) .none kV_law_bag dc_law_bag pm_law_bag an_law_bag cd_law_bag ct_law_bag), sl_law_bag⟩)
    (h10 : PySem.W.codeIn K cd_law_bag "_law_bag" = true)
    (h11 : PySem.W.keepIn K (.ref f_law_bag) = true)
    (h12 : PySem.W.nsIn K mainGlobals "_law_pull" = some (some (.ref f_law_pull)))
    (h13 : K.lookup f_law_pull = some ⟨oc_law_pull, od_law_pull, .func (PySem.W.fnOf "_law_pull" "_law_pull" (defArgs st_law_pull) (defBody st_law_pull) (defScope st_law_pull) .none kV_law_pull dc_law_pull pm_law_pull an_law_pull cd_law_pull ct_law_pull), sl_law_pull⟩)
    (h14 : PySem.W.codeIn K cd_law_pull "_law_pull" = true)
    (h15 : PySem.W.keepIn K (.ref f_law_pull) = true)
    (h16 : PySem.W.nsIn K mainGlobals "_law_few" = some (some (.ref f_law_few)))
    (h17 : K.lookup f_law_few = some ⟨oc_law_few, od_law_few, .func (PySem.W.fnOf "_law_few" "_law_few" (defArgs st_law_few) (defBody st_law_few) (defScope st_law_few) .none kV_law_few dc_law_few pm_law_few an_law_few cd_law_few ct_law_few), sl_law_few⟩)
    (h18 : PySem.W.codeIn K cd_law_few "_law_few" = true)
    (h19 : PySem.W.keepIn K (.ref f_law_few) = true)
    (h20 : PySem.W.nsIn K mainGlobals "_law_rows" = some (some (.ref f_law_rows)))
    (h21 : K.lookup f_law_rows = some ⟨oc_law_rows, od_law_rows, .func (PySem.W.fnOf "_law_rows" "_law_rows" (defArgs st_law_rows) (defBody st_law_rows) (defScope st_law_rows) .none kV_law_rows dc_law_rows pm_law_rows an_law_rows cd_law_rows ct_law_rows), sl_law_rows⟩)
    (h22 : PySem.W.codeIn K cd_law_rows "_law_rows" = true)
    (h23 : PySem.W.keepIn K (.ref f_law_rows) = true)
    (h24 : PySem.W.nsIn K mainGlobals "_law_under" = some (some (.ref f_law_under)))
    (h25 : K.lookup f_law_under = some ⟨oc_law_under, od_law_under, .func (PySem.W.fnOf "_law_under" "_law_under" (defArgs st_law_under) (defBody st_law_under) (defScope st_law_under) .none kV_law_under dc_law_under pm_law_under an_law_under cd_law_under ct_law_under), sl_law_under⟩)
    (h26 : PySem.W.codeIn K cd_law_under "_law_under" = true)
    (h27 : PySem.W.keepIn K (.ref f_law_under) = true)
    (h28 : PySem.W.nsIn K mainGlobals "_law_smallest" = some (some (.ref f_law_smallest)))
    (h29 : K.lookup f_law_smallest = some ⟨oc_law_smallest, od_law_smallest, .func (PySem.W.fnOf "_law_smallest" "_law_smallest" (defArgs st_law_smallest) (defBody st_law_smallest) (defScope st_law_smallest) .none kV_law_smallest dc_law_smallest pm_law_smallest an_law_smallest cd_law_smallest ct_law_smallest), sl_law_smallest⟩)
    (h30 : PySem.W.codeIn K cd_law_smallest "_law_smallest" = true)
    (h31 : PySem.W.keepIn K (.ref f_law_smallest) = true)
    (h32 : PySem.W.nsIn K mainGlobals "is_number" = some (some (.ref f_is_number)))
    (h33 : K.lookup f_is_number = some ⟨oc_is_number, od_is_number, .func (PySem.W.fnOf "is_number" "is_number" (defArgs st_is_number) (defBody st_is_number) (defScope st_is_number) (.ref dT_is_number) kV_is_number dc_is_number pm_is_number an_is_number cd_is_number ct_is_number), sl_is_number⟩)
    (h34 : PySem.W.codeIn K cd_is_number "is_number" = true)
    (h35 : PySem.W.keepIn K (.ref f_is_number) = true)
    (h36 : K.lookup dT_is_number = some ⟨dc2_is_number, dd_is_number, .seq di_is_number dn_is_number, ds_is_number⟩)
    (h37 : di_is_number.toList = [(.none)])
    (h38 : PySem.W.nsIn K mainGlobals "is_row" = some (some (.ref f_is_row)))
    (h39 : K.lookup f_is_row = some ⟨oc_is_row, od_is_row, .func (PySem.W.fnOf "is_row" "is_row" (defArgs st_is_row) (defBody st_is_row) (defScope st_is_row) .none kV_is_row dc_is_row pm_is_row an_is_row cd_is_row ct_is_row), sl_is_row⟩)
    (h40 : PySem.W.codeIn K cd_is_row "is_row" = true)
    (h41 : PySem.W.keepIn K (.ref f_is_row) = true)
    (h42 : PySem.W.nsIn K mainGlobals "is_below" = some (some (.ref f_is_below)))
    (h43 : K.lookup f_is_below = some ⟨oc_is_below, od_is_below, .func (PySem.W.fnOf "is_below" "is_below" (defArgs st_is_below) (defBody st_is_below) (defScope st_is_below) .none kV_is_below dc_is_below pm_is_below an_is_below cd_is_below ct_is_below), sl_is_below⟩)
    (h44 : PySem.W.codeIn K cd_is_below "is_below" = true)
    (h45 : PySem.W.keepIn K (.ref f_is_below) = true)
    (h46 : PySem.W.nsIn K mainGlobals "least_rows" = some (some (.ref f_least_rows)))
    (h47 : K.lookup f_least_rows = some ⟨oc_least_rows, od_least_rows, .func (PySem.W.fnOf "least_rows" "least_rows" (defArgs st_least_rows) (defBody st_least_rows) (defScope st_least_rows) .none kV_least_rows dc_least_rows pm_least_rows an_least_rows cd_least_rows ct_least_rows), sl_least_rows⟩)
    (h48 : PySem.W.codeIn K cd_least_rows "least_rows" = true)
    (h49 : PySem.W.keepIn K (.ref f_least_rows) = true)
    (h50 : PySem.W.findIn K (.ref f_Region) "__init__" = some (some (.ref f_Region_init)))
    (h51 : PySem.W.isFn K (.ref f_Region_init) = true)
    (h52 : PySem.W.keepIn K (.ref f_Region) = true)
    (h53 : PySem.W.makesIn K f_Region = true)
    (h54 : K.lookup f_Region_init = some ⟨oc_Region_init, od_Region_init, .func (PySem.W.fnOf "__init__" "Region.__init__" (defArgs st_Region_init) (defBody st_Region_init) (defScope st_Region_init) (.ref dT_Region_init) kV_Region_init dc_Region_init pm_Region_init an_Region_init cd_Region_init ct_Region_init), sl_Region_init⟩)
    (h55 : PySem.W.codeIn K cd_Region_init "Region.__init__" = true)
    (h56 : PySem.W.keepIn K (.ref f_Region_init) = true)
    (h57 : K.lookup dT_Region_init = some ⟨dc2_Region_init, dd_Region_init, .seq di_Region_init dn_Region_init, ds_Region_init⟩)
    (h58 : K.lookup dz_Region_init = some ⟨zc_Region_init, zd_Region_init, .seq zi_Region_init zn_Region_init, zs_Region_init⟩)
    (h59 : zc_Region_init = .type "tuple")
    (h60 : zi_Region_init.toList = [])
    (h61 : di_Region_init.toList = [(.ref dz_Region_init)])
    (h62 : PySem.W.findIn K (.ref f_Region) "__repr__" = some (some (.ref f_Region_repr)))
    (h63 : PySem.W.isFn K (.ref f_Region_repr) = true)
    (h64 : K.lookup f_Region_repr = some ⟨oc_Region_repr, od_Region_repr, .func (PySem.W.fnOf "__repr__" "Region.__repr__" (defArgs st_Region_repr) (defBody st_Region_repr) (defScope st_Region_repr) .none kV_Region_repr dc_Region_repr pm_Region_repr an_Region_repr cd_Region_repr ct_Region_repr), sl_Region_repr⟩)
    (h65 : PySem.W.codeIn K cd_Region_repr "Region.__repr__" = true)
    (h66 : PySem.W.keepIn K (.ref f_Region_repr) = true)
    (h67 : PySem.W.findIn K (.ref f_Region) "__bool__" = some (some (.ref f_Region_bool)))
    (h68 : PySem.W.isFn K (.ref f_Region_bool) = true)
    (h69 : K.lookup f_Region_bool = some ⟨oc_Region_bool, od_Region_bool, .func (PySem.W.fnOf "__bool__" "Region.__bool__" (defArgs st_Region_bool) (defBody st_Region_bool) (defScope st_Region_bool) .none kV_Region_bool dc_Region_bool pm_Region_bool an_Region_bool cd_Region_bool ct_Region_bool), sl_Region_bool⟩)
    (h70 : PySem.W.codeIn K cd_Region_bool "Region.__bool__" = true)
    (h71 : PySem.W.keepIn K (.ref f_Region_bool) = true)
    (h72 : PySem.W.findIn K (.ref f_Region) "__len__" = some (some (.ref f_Region_len)))
    (h73 : PySem.W.isFn K (.ref f_Region_len) = true)
    (h74 : K.lookup f_Region_len = some ⟨oc_Region_len, od_Region_len, .func (PySem.W.fnOf "__len__" "Region.__len__" (defArgs st_Region_len) (defBody st_Region_len) (defScope st_Region_len) .none kV_Region_len dc_Region_len pm_Region_len an_Region_len cd_Region_len ct_Region_len), sl_Region_len⟩)
    (h75 : PySem.W.codeIn K cd_Region_len "Region.__len__" = true)
    (h76 : PySem.W.keepIn K (.ref f_Region_len) = true)
    (h77 : PySem.W.findIn K (.ref f_Region) "rows" = some (some (.ref f_Region_rows)))
    (h78 : PySem.W.isFn K (.ref f_Region_rows) = true)
    (h79 : K.lookup f_Region_rows = some ⟨oc_Region_rows, od_Region_rows, .func (PySem.W.fnOf "rows" "Region.rows" (defArgs st_Region_rows) (defBody st_Region_rows) (defScope st_Region_rows) .none kV_Region_rows dc_Region_rows pm_Region_rows an_Region_rows cd_Region_rows ct_Region_rows), sl_Region_rows⟩)
    (h80 : PySem.W.codeIn K cd_Region_rows "Region.rows" = true)
    (h81 : PySem.W.keepIn K (.ref f_Region_rows) = true)
    (h82 : PySem.W.findIn K (.ref f_Region) "width" = some (some (.ref pr_Region_width)))
    (h83 : PySem.W.specialIn K (.ref pr_Region_width) "__get__" = some (some (.builtin "property.__get__")))
    (h84 : PySem.W.takesIn K (.ref pr_Region_width) = some true)
    (h85 : PySem.W.recIn K pr_Region_width "property" = some (.ref f_Region_width :: pe_Region_width))
    (h86 : K.lookup f_Region_width = some ⟨oc_Region_width, od_Region_width, .func (PySem.W.fnOf "width" "Region.width" (defArgs st_Region_width) (defBody st_Region_width) (defScope st_Region_width) .none kV_Region_width dc_Region_width pm_Region_width an_Region_width cd_Region_width ct_Region_width), sl_Region_width⟩)
    (h87 : PySem.W.codeIn K cd_Region_width "Region.width" = true)
    (h88 : PySem.W.keepIn K (.ref f_Region_width) = true)
    (h89 : PySem.W.nsIn K mainGlobals "_law_same" = some (some (.ref f_law_same)))
    (h90 : K.lookup f_law_same = some ⟨oc_law_same, od_law_same, .func (PySem.W.fnOf "_law_same" "_law_same" (defArgs st_law_same) (defBody st_law_same) (defScope st_law_same) .none kV_law_same dc_law_same pm_law_same an_law_same cd_law_same ct_law_same), sl_law_same⟩)
    (h91 : PySem.W.codeIn K cd_law_same "_law_same" = true)
    (h92 : PySem.W.keepIn K (.ref f_law_same) = true)
    (h93 : PySem.W.findIn K (.ref f_Region) "__contains__" = some (some (.ref f_Region_contains)))
    (h94 : PySem.W.isFn K (.ref f_Region_contains) = true)
    (h95 : K.lookup f_Region_contains = some ⟨oc_Region_contains, od_Region_contains, .func (PySem.W.fnOf "__contains__" "Region.__contains__" (defArgs st_Region_contains) (defBody st_Region_contains) (defScope st_Region_contains) .none kV_Region_contains dc_Region_contains pm_Region_contains an_Region_contains cd_Region_contains ct_Region_contains), sl_Region_contains⟩)
    (h96 : PySem.W.codeIn K cd_Region_contains "Region.__contains__" = true)
    (h97 : PySem.W.keepIn K (.ref f_Region_contains) = true)
    (h98 : PySem.W.nsIn K mainGlobals "_law_holds" = some (some (.ref f_law_holds)))
    (h99 : K.lookup f_law_holds = some ⟨oc_law_holds, od_law_holds, .func (PySem.W.fnOf "_law_holds" "_law_holds" (defArgs st_law_holds) (defBody st_law_holds) (defScope st_law_holds) .none kV_law_holds dc_law_holds pm_law_holds an_law_holds cd_law_holds ct_law_holds), sl_law_holds⟩)
    (h100 : PySem.W.codeIn K cd_law_holds "_law_holds" = true)
    (h101 : PySem.W.keepIn K (.ref f_law_holds) = true)
    (h102 : PySem.W.nsIn K mainGlobals "_law_pick" = some (some (.ref f_law_pick)))
    (h103 : K.lookup f_law_pick = some ⟨oc_law_pick, od_law_pick, .func (PySem.W.fnOf "_law_pick" "_law_pick" (defArgs st_law_pick) (defBody st_law_pick) (defScope st_law_pick) .none kV_law_pick dc_law_pick pm_law_pick an_law_pick cd_law_pick ct_law_pick), sl_law_pick⟩)
    (h104 : PySem.W.codeIn K cd_law_pick "_law_pick" = true)
    (h105 : PySem.W.keepIn K (.ref f_law_pick) = true)
    (h106 : K.lookup f_Region_full = some ⟨oc_Region_full, od_Region_full, .func (PySem.W.fnOf "full" "Region.full" (defArgs st_Region_full) (defBody st_Region_full) (defScope st_Region_full) .none kV_Region_full dc_Region_full pm_Region_full an_Region_full cd_Region_full ct_Region_full), sl_Region_full⟩)
    (h107 : PySem.W.codeIn K cd_Region_full "Region.full" = true)
    (h108 : PySem.W.keepIn K (.ref f_Region_full) = true)
    (h109 : PySem.W.nsIn K mainGlobals "_law_mixed" = some (some (.ref f_law_mixed)))
    (h110 : K.lookup f_law_mixed = some ⟨oc_law_mixed, od_law_mixed, .func (PySem.W.fnOf "_law_mixed" "_law_mixed" (defArgs st_law_mixed) (defBody st_law_mixed) (defScope st_law_mixed) .none kV_law_mixed dc_law_mixed pm_law_mixed an_law_mixed cd_law_mixed ct_law_mixed), sl_law_mixed⟩)
    (h111 : PySem.W.codeIn K cd_law_mixed "_law_mixed" = true)
    (h112 : PySem.W.keepIn K (.ref f_law_mixed) = true)
    (h113 : PySem.W.findIn K (.ref f_Region) "__eq__" = some (some (.ref f_Region_eq)))
    (h114 : PySem.W.isFn K (.ref f_Region_eq) = true)
    (h115 : K.lookup f_Region_eq = some ⟨oc_Region_eq, od_Region_eq, .func (PySem.W.fnOf "__eq__" "Region.__eq__" (defArgs st_Region_eq) (defBody st_Region_eq) (defScope st_Region_eq) .none kV_Region_eq dc_Region_eq pm_Region_eq an_Region_eq cd_Region_eq ct_Region_eq), sl_Region_eq⟩)
    (h116 : PySem.W.codeIn K cd_Region_eq "Region.__eq__" = true)
    (h117 : PySem.W.keepIn K (.ref f_Region_eq) = true)
    (h118 : PySem.W.nsIn K mainGlobals "law" = some (some (.ref f_law)))
    (h119 : K.lookup f_law = some ⟨oc_law, od_law, .func (PySem.W.fnOf "law" "law" (defArgs st_law) (defBody st_law) (defScope st_law) .none kV_law dc_law pm_law an_law cd_law ct_law), sl_law⟩)
    (h120 : PySem.W.codeIn K cd_law "law" = true)
    (h121 : PySem.W.keepIn K (.ref f_law) = true)
    (h122 : PySem.W.findIn K (.ref f_Region) "__ne__" = some (some (.builtin "object.__ne__")))
    (h123 : PySem.W.mroIn K f_Region (.type "object") = some true)
    (h124 : PySem.W.notFirst K f_Region (.type "NoneType") = true)
    (h125 : PySem.W.notFirst K f_Region (.type "bool") = true)
    (h126 : PySem.W.notFirst K f_Region (.type "int") = true)
    (h127 : PySem.W.notFirst K f_Region (.type "str") = true)
    (h128 : PySem.W.notFirst K f_Region (.type "list") = true)
    (h129 : PySem.W.notFirst K f_Region (.type "tuple") = true)
    (h130 : PySem.W.notFirst K f_Region (.type "dict") = true)
    (h131 : PySem.W.readsIn K f_Region (.type "type") = true)
    (h132 : PySem.W.specialIn K (.ref f_Region) "__getattribute__" = some (some (.builtin "type.__getattribute__")))
    (h133 : PySem.W.findCls K (.ref f_Region) (.type "type") "full" = some (.get (.builtin "staticmethod.__get__") (.ref pr_Region_full) .none (.ref f_Region)))
    (h134 : smB K pr_Region_full f_Region_full = true)
    (h135 : PySem.W.nsIn K mainGlobals "all" = some none)
    (h136 : PySem.W.nsIn K mainGlobals "any" = some none)
    (h137 : PySem.W.nsIn K mainGlobals "bool" = some none)
    (h138 : PySem.W.nsIn K mainGlobals "int" = some none)
    (h139 : PySem.W.nsIn K mainGlobals "isinstance" = some none)
    (h140 : PySem.W.nsIn K mainGlobals "len" = some none)
    (h141 : PySem.W.nsIn K mainGlobals "list" = some none)
    (h142 : PySem.W.nsIn K mainGlobals "range" = some none)
    (h143 : PySem.W.nsIn K mainGlobals "repr" = some none)
    (h144 : PySem.W.nsIn K mainGlobals "set" = some none)
    (h145 : PySem.W.nsIn K mainGlobals "sorted" = some none)
    (h146 : PySem.W.nsIn K mainGlobals "str" = some none)
    (h147 : PySem.W.nsIn K mainGlobals "tuple" = some none)
    (h148 : PySem.W.nsIn K mainGlobals "zip" = some none)
    (h149 : PySem.W.nsIn K mainGlobals "MOST_WIDTH" = some (some (.int 4 tk_MOST_WIDTH)))
    (h150 : PySem.W.findIn K (.ref f_Region) "__class__" = some (some (.builtin "object.__class__")))
    (h151 : PySem.W.specialIn K (.builtin "object.__class__") "__get__" = some (some (.builtin "getset_descriptor.__get__")))
    (h152 : PySem.W.takesIn K (.builtin "object.__class__") = some true)
    (h153 : PySem.W.kitOne K (.ref f_Region) (.ref f_Region) = some true)
    (h154 : PySem.W.kitOne K (.ref f_Region) (.type "bool") = some false)
    (h155 : PySem.W.kitOne K (.ref f_Region) (.type "int") = some false)
    (h156 : PySem.W.kitOne K (.ref f_Region) (.type "str") = some false)
    (h157 : PySem.W.kitOne K (.ref f_Region) (.type "list") = some false)
    (h158 : PySem.W.kitOne K (.ref f_Region) (.type "tuple") = some false)
    (h159 : PySem.W.kitOne K (.ref f_Region) (.type "dict") = some false)
    (h160 : PySem.W.kitOne K (.type "NoneType") (.ref f_Region) = some false)
    (h161 : PySem.W.kitOne K (.type "bool") (.ref f_Region) = some false)
    (h162 : PySem.W.kitOne K (.type "int") (.ref f_Region) = some false)
    (h163 : PySem.W.kitOne K (.type "str") (.ref f_Region) = some false)
    (h164 : PySem.W.kitOne K (.type "list") (.ref f_Region) = some false)
    (h165 : PySem.W.kitOne K (.type "tuple") (.ref f_Region) = some false)
    (h166 : PySem.W.kitOne K (.type "dict") (.ref f_Region) = some false) :
    ∃ fd : FuncData, (∀ (s : Shared) (v : Value), BindsTo s fd ⟨[v], []⟩ [("_law_script", v)]) ∧ ∀ base : Heap, K.In base → base.Ns mainGlobals mg → FnOk l.prog w K mg base (L2N.CX l.prog w) 6 fa fd ["_law_script"] (spLaw K []) := by
  have e := hfa.symm.trans (PySem.W.mg_of X G h118)
  cases e
  have e_Region : clsAt K "Region" = f_Region := clsAt_of h1
  have FF_is_number : FunD K "is_number" "is_number" (defArgs st_is_number) (defBody st_is_number) (defScope st_is_number) [.non] [] f_is_number (PySem.W.fnOf "is_number" "is_number" (defArgs st_is_number) (defBody st_is_number) (defScope st_is_number) (.ref dT_is_number) kV_is_number dc_is_number pm_is_number an_is_number cd_is_number ct_is_number) := fund_mk (st := st_is_number) h33 h34 h35 (dfl1 (by simp) h36 (by rw [h37]; exact (.cons rfl .nil))) kwd0
  obtain ⟨eb_is_number, hv_is_number, hb_is_number⟩ := FF_is_number.binds1 (ps := ["value", "least", "most"]) 3 1 (by simp) rfl fun _ _ _ _ _ _ _ us its h1 h2 => (match us, its, h1, h2 with | [_, _, _], [_], _, _ => ⟨_, rfl, rfl⟩)
  have DZ_Region_init : ∀ G, SqT K G dz_Region_init [] := fun G => .inr ⟨_, zi_Region_init, zn_Region_init, h58, h59, rfl, by have e := congrArg List.length h60; rw [Array.length_toList] at e; rw [e]; exact Nat.zero_le _, by rw [h60]; exact .nil⟩
  have FF_Region_init : FunD K "__init__" "Region.__init__" (defArgs st_Region_init) (defBody st_Region_init) (defScope st_Region_init) [.ref dz_Region_init] [] f_Region_init (PySem.W.fnOf "__init__" "Region.__init__" (defArgs st_Region_init) (defBody st_Region_init) (defScope st_Region_init) (.ref dT_Region_init) kV_Region_init dc_Region_init pm_Region_init an_Region_init cd_Region_init ct_Region_init) := fund_mk (st := st_Region_init) h54 h55 h56 (dfl1 (by simp) h57 (by rw [h61]; exact (.cons rfl .nil))) kwd0
  obtain ⟨eb_Region_init, hv_Region_init, hb_Region_init⟩ := FF_Region_init.binds1 (ps := ["self", "width", "rows"]) 3 1 (by simp) rfl fun _ _ _ _ _ _ _ us its h1 h2 => (match us, its, h1, h2 with | [_, _, _], [_], _, _ => ⟨_, rfl, rfl⟩)
  obtain ⟨eb_Region_init_2, hv_Region_init_2, hb_Region_init_2⟩ := FF_Region_init.binds1 (ps := ["self", "width", "rows"]) 2 0 (by simp) rfl fun _ _ _ _ _ _ _ us its h1 h2 => (match us, its, h1, h2 with | [_, _], [_], _, _ => ⟨_, rfl, rfl⟩)
  obtain ⟨eb_is_number_2, hv_is_number_2, hb_is_number_2⟩ := FF_is_number.binds1 (ps := ["value", "least", "most"]) 2 0 (by simp) rfl fun _ _ _ _ _ _ _ us its h1 h2 => (match us, its, h1, h2 with | [_, _], [_], _, _ => ⟨_, rfl, rfl⟩)
  have kb_Region_full_0_width : KBn K (PySem.W.fnOf "full" "Region.full" (defArgs st_Region_full) (defBody st_Region_full) (defScope st_Region_full) .none kV_Region_full dc_Region_full pm_Region_full an_Region_full cd_Region_full ct_Region_full) ["width"] 0 ["width"] (fun us zs => atL zs 0) gV_Region_full_0_width := ⟨fun s us ws _ h1 h2 => (match us, ws, h1, h2 with | [], [_], _, _ => .of_eq rfl), fun h1 h2 => (vals_atL h2 0)⟩
  obtain ⟨mv_Region_init_1_rows_width, kb_Region_init_1_rows_width⟩ := FF_Region_init.kbindsD (ps := ["self", "width", "rows"]) 1 ["rows", "width"] (fun {α} us ds zs => atL us 0 ++ (atL zs 1 ++ (atL zs 0))) (by simp) (fun h1 hd h2 => (Vals.append (vals_atL h1 0) (Vals.append (vals_atL h2 1) (vals_atL h2 0)))) fun _ _ _ _ _ _ _ us its zs h1 hd h2 => (match us, its, zs, h1, hd, h2 with | [_], [_], [_, _], _, _, _ => ⟨_, rfl, rfl⟩)
  have ty_Region : TyC K (clsAt K "Region") := by rw [e_Region]; exact ⟨⟨h2, h3, h4, h5⟩, h150, h151, h152, h123⟩
  let T : Txt l.prog w K mg := {
    c_Region := by rw [e_Region]; exact PySem.W.mg_of X G h1,
    cl_Region := by rw [e_Region]; exact ⟨h2, h3, h4, h5⟩,
    na_Region_own_least := by rw [e_Region]; exact h6,
    na_Region_own_width := by rw [e_Region]; exact h7,
    a_law_bag := f_law_bag,
    d_law_bag := (PySem.W.fnOf "_law_bag" "_law_bag" (defArgs st_law_bag) (defBody st_law_bag) (defScope st_law_bag) .none kV_law_bag dc_law_bag pm_law_bag an_law_bag cd_law_bag ct_law_bag),
    F_law_bag := fun_mk (st := st_law_bag) h9 h10 h11,
    b_law_bag := (fun_mk (st := st_law_bag) h9 h10 h11).binds (ps := ["_law_script"]) fun _ _ _ _ _ _ us hl => (match us, hl with | [_], _ => rfl),
    g_law_bag := PySem.W.mg_of X G h8,
    a_law_pull := f_law_pull,
    d_law_pull := (PySem.W.fnOf "_law_pull" "_law_pull" (defArgs st_law_pull) (defBody st_law_pull) (defScope st_law_pull) .none kV_law_pull dc_law_pull pm_law_pull an_law_pull cd_law_pull ct_law_pull),
    F_law_pull := fun_mk (st := st_law_pull) h13 h14 h15,
    b_law_pull := (fun_mk (st := st_law_pull) h13 h14 h15).binds (ps := ["_law_bag_here", "_law_many"]) fun _ _ _ _ _ _ us hl => (match us, hl with | [_, _], _ => rfl),
    g_law_pull := PySem.W.mg_of X G h12,
    a_law_few := f_law_few,
    d_law_few := (PySem.W.fnOf "_law_few" "_law_few" (defArgs st_law_few) (defBody st_law_few) (defScope st_law_few) .none kV_law_few dc_law_few pm_law_few an_law_few cd_law_few ct_law_few),
    F_law_few := fun_mk (st := st_law_few) h17 h18 h19,
    b_law_few := (fun_mk (st := st_law_few) h17 h18 h19).binds (ps := ["_law_bag_here", "_law_width_z", "_law_most"]) fun _ _ _ _ _ _ us hl => (match us, hl with | [_, _, _], _ => rfl),
    g_law_few := PySem.W.mg_of X G h16,
    a_law_rows := f_law_rows,
    d_law_rows := (PySem.W.fnOf "_law_rows" "_law_rows" (defArgs st_law_rows) (defBody st_law_rows) (defScope st_law_rows) .none kV_law_rows dc_law_rows pm_law_rows an_law_rows cd_law_rows ct_law_rows),
    F_law_rows := fun_mk (st := st_law_rows) h21 h22 h23,
    b_law_rows := (fun_mk (st := st_law_rows) h21 h22 h23).binds (ps := ["_law_bag_here", "_law_width_z", "_law_many", "_law_most"]) fun _ _ _ _ _ _ us hl => (match us, hl with | [_, _, _, _], _ => rfl),
    g_law_rows := PySem.W.mg_of X G h20,
    a_law_under := f_law_under,
    d_law_under := (PySem.W.fnOf "_law_under" "_law_under" (defArgs st_law_under) (defBody st_law_under) (defScope st_law_under) .none kV_law_under dc_law_under pm_law_under an_law_under cd_law_under ct_law_under),
    F_law_under := fun_mk (st := st_law_under) h25 h26 h27,
    b_law_under := (fun_mk (st := st_law_under) h25 h26 h27).binds (ps := ["_law_one", "_law_other"]) fun _ _ _ _ _ _ us hl => (match us, hl with | [_, _], _ => rfl),
    g_law_under := PySem.W.mg_of X G h24,
    a_law_smallest := f_law_smallest,
    d_law_smallest := (PySem.W.fnOf "_law_smallest" "_law_smallest" (defArgs st_law_smallest) (defBody st_law_smallest) (defScope st_law_smallest) .none kV_law_smallest dc_law_smallest pm_law_smallest an_law_smallest cd_law_smallest ct_law_smallest),
    F_law_smallest := fun_mk (st := st_law_smallest) h29 h30 h31,
    b_law_smallest := (fun_mk (st := st_law_smallest) h29 h30 h31).binds (ps := ["_law_rows_z"]) fun _ _ _ _ _ _ us hl => (match us, hl with | [_], _ => rfl),
    g_law_smallest := PySem.W.mg_of X G h28,
    a_is_number := f_is_number,
    d_is_number := (PySem.W.fnOf "is_number" "is_number" (defArgs st_is_number) (defBody st_is_number) (defScope st_is_number) (.ref dT_is_number) kV_is_number dc_is_number pm_is_number an_is_number cd_is_number ct_is_number),
    F_is_number := FF_is_number,
    b_is_number := (by cases hv_is_number; exact hb_is_number),
    g_is_number := PySem.W.mg_of X G h32,
    a_is_row := f_is_row,
    d_is_row := (PySem.W.fnOf "is_row" "is_row" (defArgs st_is_row) (defBody st_is_row) (defScope st_is_row) .none kV_is_row dc_is_row pm_is_row an_is_row cd_is_row ct_is_row),
    F_is_row := fun_mk (st := st_is_row) h39 h40 h41,
    b_is_row := (fun_mk (st := st_is_row) h39 h40 h41).binds (ps := ["width", "value"]) fun _ _ _ _ _ _ us hl => (match us, hl with | [_, _], _ => rfl),
    g_is_row := PySem.W.mg_of X G h38,
    a_is_below := f_is_below,
    d_is_below := (PySem.W.fnOf "is_below" "is_below" (defArgs st_is_below) (defBody st_is_below) (defScope st_is_below) .none kV_is_below dc_is_below pm_is_below an_is_below cd_is_below ct_is_below),
    F_is_below := fun_mk (st := st_is_below) h43 h44 h45,
    b_is_below := (fun_mk (st := st_is_below) h43 h44 h45).binds (ps := ["one", "other"]) fun _ _ _ _ _ _ us hl => (match us, hl with | [_, _], _ => rfl),
    g_is_below := PySem.W.mg_of X G h42,
    a_least_rows := f_least_rows,
    d_least_rows := (PySem.W.fnOf "least_rows" "least_rows" (defArgs st_least_rows) (defBody st_least_rows) (defScope st_least_rows) .none kV_least_rows dc_least_rows pm_least_rows an_least_rows cd_least_rows ct_least_rows),
    F_least_rows := fun_mk (st := st_least_rows) h47 h48 h49,
    b_least_rows := (fun_mk (st := st_least_rows) h47 h48 h49).binds (ps := ["rows"]) fun _ _ _ _ _ _ us hl => (match us, hl with | [_], _ => rfl),
    g_least_rows := PySem.W.mg_of X G h46,
    mk_Region := by rw [e_Region]; exact ⟨h53, h50, h51, h52⟩,
    kc_Region := by rw [e_Region]; exact h52,
    a_Region_init := f_Region_init,
    d_Region_init := (PySem.W.fnOf "__init__" "Region.__init__" (defArgs st_Region_init) (defBody st_Region_init) (defScope st_Region_init) (.ref dT_Region_init) kV_Region_init dc_Region_init pm_Region_init an_Region_init cd_Region_init ct_Region_init),
    dz_Region_init := dz_Region_init,
    dzq_Region_init := DZ_Region_init,
    F_Region_init := FF_Region_init,
    b_Region_init := (by cases hv_Region_init; exact hb_Region_init),
    m_Region_repr := by rw [e_Region]; exact ⟨h62, h63, h66⟩,
    a_Region_repr := f_Region_repr,
    d_Region_repr := (PySem.W.fnOf "__repr__" "Region.__repr__" (defArgs st_Region_repr) (defBody st_Region_repr) (defScope st_Region_repr) .none kV_Region_repr dc_Region_repr pm_Region_repr an_Region_repr cd_Region_repr ct_Region_repr),
    F_Region_repr := fun_mk (st := st_Region_repr) h64 h65 h66,
    b_Region_repr := (fun_mk (st := st_Region_repr) h64 h65 h66).binds (ps := ["self"]) fun _ _ _ _ _ _ us hl => (match us, hl with | [_], _ => rfl),
    m_Region_bool := by rw [e_Region]; exact ⟨h67, h68, h71⟩,
    a_Region_bool := f_Region_bool,
    d_Region_bool := (PySem.W.fnOf "__bool__" "Region.__bool__" (defArgs st_Region_bool) (defBody st_Region_bool) (defScope st_Region_bool) .none kV_Region_bool dc_Region_bool pm_Region_bool an_Region_bool cd_Region_bool ct_Region_bool),
    F_Region_bool := fun_mk (st := st_Region_bool) h69 h70 h71,
    b_Region_bool := (fun_mk (st := st_Region_bool) h69 h70 h71).binds (ps := ["self"]) fun _ _ _ _ _ _ us hl => (match us, hl with | [_], _ => rfl),
    m_Region_len := by rw [e_Region]; exact ⟨h72, h73, h76⟩,
    a_Region_len := f_Region_len,
    d_Region_len := (PySem.W.fnOf "__len__" "Region.__len__" (defArgs st_Region_len) (defBody st_Region_len) (defScope st_Region_len) .none kV_Region_len dc_Region_len pm_Region_len an_Region_len cd_Region_len ct_Region_len),
    F_Region_len := fun_mk (st := st_Region_len) h74 h75 h76,
    b_Region_len := (fun_mk (st := st_Region_len) h74 h75 h76).binds (ps := ["self"]) fun _ _ _ _ _ _ us hl => (match us, hl with | [_], _ => rfl),
    m_Region_rows := by rw [e_Region]; exact ⟨h77, h78, h81⟩,
    a_Region_rows := f_Region_rows,
    d_Region_rows := (PySem.W.fnOf "rows" "Region.rows" (defArgs st_Region_rows) (defBody st_Region_rows) (defScope st_Region_rows) .none kV_Region_rows dc_Region_rows pm_Region_rows an_Region_rows cd_Region_rows ct_Region_rows),
    F_Region_rows := fun_mk (st := st_Region_rows) h79 h80 h81,
    b_Region_rows := (fun_mk (st := st_Region_rows) h79 h80 h81).binds (ps := ["self"]) fun _ _ _ _ _ _ us hl => (match us, hl with | [_], _ => rfl),
    p_Region_width := pr_Region_width,
    pp_Region_width := by rw [e_Region]; exact ⟨h82, h83, h84, ⟨_, h85⟩⟩,
    a_Region_width := f_Region_width,
    d_Region_width := (PySem.W.fnOf "width" "Region.width" (defArgs st_Region_width) (defBody st_Region_width) (defScope st_Region_width) .none kV_Region_width dc_Region_width pm_Region_width an_Region_width cd_Region_width ct_Region_width),
    F_Region_width := fun_mk (st := st_Region_width) h86 h87 h88,
    b_Region_width := (fun_mk (st := st_Region_width) h86 h87 h88).binds (ps := ["self"]) fun _ _ _ _ _ _ us hl => (match us, hl with | [_], _ => rfl),
    a_law_same := f_law_same,
    d_law_same := (PySem.W.fnOf "_law_same" "_law_same" (defArgs st_law_same) (defBody st_law_same) (defScope st_law_same) .none kV_law_same dc_law_same pm_law_same an_law_same cd_law_same ct_law_same),
    F_law_same := fun_mk (st := st_law_same) h90 h91 h92,
    b_law_same := (fun_mk (st := st_law_same) h90 h91 h92).binds (ps := ["_law_found", "_law_due"]) fun _ _ _ _ _ _ us hl => (match us, hl with | [_, _], _ => rfl),
    g_law_same := PySem.W.mg_of X G h89,
    m_Region_contains := by rw [e_Region]; exact ⟨h93, h94, h97⟩,
    a_Region_contains := f_Region_contains,
    d_Region_contains := (PySem.W.fnOf "__contains__" "Region.__contains__" (defArgs st_Region_contains) (defBody st_Region_contains) (defScope st_Region_contains) .none kV_Region_contains dc_Region_contains pm_Region_contains an_Region_contains cd_Region_contains ct_Region_contains),
    F_Region_contains := fun_mk (st := st_Region_contains) h95 h96 h97,
    b_Region_contains := (fun_mk (st := st_Region_contains) h95 h96 h97).binds (ps := ["self", "value"]) fun _ _ _ _ _ _ us hl => (match us, hl with | [_, _], _ => rfl),
    a_law_holds := f_law_holds,
    d_law_holds := (PySem.W.fnOf "_law_holds" "_law_holds" (defArgs st_law_holds) (defBody st_law_holds) (defScope st_law_holds) .none kV_law_holds dc_law_holds pm_law_holds an_law_holds cd_law_holds ct_law_holds),
    F_law_holds := fun_mk (st := st_law_holds) h99 h100 h101,
    b_law_holds := (fun_mk (st := st_law_holds) h99 h100 h101).binds (ps := ["_law_rows_z", "_law_row"]) fun _ _ _ _ _ _ us hl => (match us, hl with | [_, _], _ => rfl),
    g_law_holds := PySem.W.mg_of X G h98,
    a_law_pick := f_law_pick,
    d_law_pick := (PySem.W.fnOf "_law_pick" "_law_pick" (defArgs st_law_pick) (defBody st_law_pick) (defScope st_law_pick) .none kV_law_pick dc_law_pick pm_law_pick an_law_pick cd_law_pick ct_law_pick),
    F_law_pick := fun_mk (st := st_law_pick) h103 h104 h105,
    b_law_pick := (fun_mk (st := st_law_pick) h103 h104 h105).binds (ps := ["_law_bag_here", "_law_row"]) fun _ _ _ _ _ _ us hl => (match us, hl with | [_, _], _ => rfl),
    g_law_pick := PySem.W.mg_of X G h102,
    a_Region_full := f_Region_full,
    d_Region_full := (PySem.W.fnOf "full" "Region.full" (defArgs st_Region_full) (defBody st_Region_full) (defScope st_Region_full) .none kV_Region_full dc_Region_full pm_Region_full an_Region_full cd_Region_full ct_Region_full),
    F_Region_full := fun_mk (st := st_Region_full) h106 h107 h108,
    b_Region_full := (fun_mk (st := st_Region_full) h106 h107 h108).binds (ps := ["width"]) fun _ _ _ _ _ _ us hl => (match us, hl with | [_], _ => rfl),
    a_law_mixed := f_law_mixed,
    d_law_mixed := (PySem.W.fnOf "_law_mixed" "_law_mixed" (defArgs st_law_mixed) (defBody st_law_mixed) (defScope st_law_mixed) .none kV_law_mixed dc_law_mixed pm_law_mixed an_law_mixed cd_law_mixed ct_law_mixed),
    F_law_mixed := fun_mk (st := st_law_mixed) h110 h111 h112,
    b_law_mixed := (fun_mk (st := st_law_mixed) h110 h111 h112).binds (ps := ["_law_bag_here", "_law_row"]) fun _ _ _ _ _ _ us hl => (match us, hl with | [_, _], _ => rfl),
    g_law_mixed := PySem.W.mg_of X G h109,
    m_Region_eq := by rw [e_Region]; exact ⟨h113, h114, h117⟩,
    a_Region_eq := f_Region_eq,
    d_Region_eq := (PySem.W.fnOf "__eq__" "Region.__eq__" (defArgs st_Region_eq) (defBody st_Region_eq) (defScope st_Region_eq) .none kV_Region_eq dc_Region_eq pm_Region_eq an_Region_eq cd_Region_eq ct_Region_eq),
    F_Region_eq := fun_mk (st := st_Region_eq) h115 h116 h117,
    b_Region_eq := (fun_mk (st := st_Region_eq) h115 h116 h117).binds (ps := ["self", "other"]) fun _ _ _ _ _ _ us hl => (match us, hl with | [_, _], _ => rfl),
    a_law := fa,
    d_law := (PySem.W.fnOf "law" "law" (defArgs st_law) (defBody st_law) (defScope st_law) .none kV_law dc_law pm_law an_law cd_law ct_law),
    F_law := fun_mk (st := st_law) h119 h120 h121,
    b_law := (fun_mk (st := st_law) h119 h120 h121).binds (ps := ["_law_script"]) fun _ _ _ _ _ _ us hl => (match us, hl with | [_], _ => rfl),
    g_law := PySem.W.mg_of X G h118,
    e_Region_init_2 := eb_Region_init_2,
    v_Region_init_2 := hv_Region_init_2,
    b_Region_init_2 := hb_Region_init_2,
    e_is_number_2 := eb_is_number_2,
    v_is_number_2 := hv_is_number_2,
    b_is_number_2 := hb_is_number_2,
    kg_Region_full_0_width := _,
    kb_Region_full_0_width := kb_Region_full_0_width,
    kg_Region_init_1_rows_width := _,
    kb_Region_init_1_rows_width := kb_Region_init_1_rows_width,
    kh_Region_init_1_rows_width := fun _ _ _ => rfl,
    kt_Region_init_1_rows_width := fun _ _ _ _ => rfl,
    eq_Region := by rw [e_Region]; exact ⟨h113, h114, h122, h123⟩,
    nf_Region := by rw [e_Region]; exact ⟨by intro T hT; simp only [List.mem_cons, List.not_mem_nil, or_false] at hT; rcases hT with rfl | rfl | rfl | rfl | rfl | rfl | rfl <;> first | exact h124 | exact h125 | exact h126 | exact h127 | exact h128 | exact h129 | exact h130⟩,
    ps_Region_full := pr_Region_full,
    sm_Region_full := by rw [e_Region]; exact ⟨⟨h131, h132⟩, h133, smB_ok h134, h108⟩,
    n_all := PySem.W.mg_none_of X G h135,
    n_any := PySem.W.mg_none_of X G h136,
    n_bool := PySem.W.mg_none_of X G h137,
    n_int := PySem.W.mg_none_of X G h138,
    n_isinstance := PySem.W.mg_none_of X G h139,
    n_len := PySem.W.mg_none_of X G h140,
    n_list := PySem.W.mg_none_of X G h141,
    n_range := PySem.W.mg_none_of X G h142,
    n_repr := PySem.W.mg_none_of X G h143,
    n_set := PySem.W.mg_none_of X G h144,
    n_sorted := PySem.W.mg_none_of X G h145,
    n_str := PySem.W.mg_none_of X G h146,
    n_tuple := PySem.W.mg_none_of X G h147,
    n_zip := PySem.W.mg_none_of X G h148,
    t_MOST_WIDTH := tk_MOST_WIDTH,
    c_MOST_WIDTH := PySem.W.mg_of X G h149,
    isi := ⟨by intro C hC; simp only [isi_cs, List.mem_cons, List.not_mem_nil, or_false] at hC; rcases hC with rfl <;> first | exact ty_Region, by intro C hC E hE; simp only [isi_cs, List.mem_cons, List.not_mem_nil, or_false] at hC; simp only [isi_cs, List.mem_cons, List.not_mem_nil, or_false] at hE; rcases hC with rfl <;> rcases hE with rfl <;> first | (rw [e_Region]; exact h153), by intro C hC n hn; simp only [isi_cs, List.mem_cons, List.not_mem_nil, or_false] at hC; simp only [List.mem_cons, List.not_mem_nil, or_false] at hn; rcases hC with rfl <;> rcases hn with rfl | rfl | rfl | rfl | rfl | rfl <;> first | (rw [e_Region]; exact h154) | (rw [e_Region]; exact h155) | (rw [e_Region]; exact h156) | (rw [e_Region]; exact h157) | (rw [e_Region]; exact h158) | (rw [e_Region]; exact h159), by intro C hC n hn; simp only [isi_cs, List.mem_cons, List.not_mem_nil, or_false] at hC; simp only [List.mem_cons, List.not_mem_nil, or_false] at hn; rcases hC with rfl <;> rcases hn with rfl | rfl | rfl | rfl | rfl | rfl | rfl <;> first | (rw [e_Region]; exact h160) | (rw [e_Region]; exact h161) | (rw [e_Region]; exact h162) | (rw [e_Region]; exact h163) | (rw [e_Region]; exact h164) | (rw [e_Region]; exact h165) | (rw [e_Region]; exact h166)⟩ }
  exact ⟨T.d_law, fun s v => .of_eq rfl, fun base _ _ => ok_law T (TT := []) (ok_law_bag T) (ok_law_pull T) (ok_law_rows T (ok_law_pull T) (ok_law_few T (ok_law_pull T))) (ok_law_smallest T (ok_law_under T)) (ok_Region_init T (ok_is_number T) (ok_is_row T (ok_is_number T)) (ok_least_rows T (ok_is_below T))) (ok_Region_repr T) (ok_Region_bool T) (ok_Region_len T) (ok_Region_rows T) (ok_Region_width T) (ok_law_same T) (ok_Region_contains T (ok_is_below T) (ok_is_row T (ok_is_number T))) (ok_law_holds T (ok_law_under T)) (ok_law_pick T (ok_law_pull T)) (ok_Region_full T (ok_is_number T) (ok_Region_init T (ok_is_number T) (ok_is_row T (ok_is_number T)) (ok_least_rows T (ok_is_below T)))) (ok_law_mixed T (ok_law_pull T)) (ok_Region_eq T) law_true⟩
end L03

set_option Elab.async false
set_option linter.all false
set_option maxRecDepth 100000
set_option maxHeartbeats 0
namespace L03
open PySem PySem.Spec PyProof.Rows L2 DX
def ex0 (K : PySem.W.Frag) : List Bool := [
  decide (PySem.W.nsIn K mainGlobals "Region" = some (some (.ref (He.ga K "Region")))),
  decide (PySem.W.plainGet K (He.ga K "Region") Str.empty = true),
  decide (PySem.W.hasDictIn K (He.ga K "Region") = true),
  decide (PySem.W.plainOver K (He.ga K "Region") = true),
  decide (PySem.W.findIn K (.ref (He.ga K "Region")) "__setattr__" = some (some (.builtin "object.__setattr__"))),
  decide (PySem.W.findIn K (.ref (He.ga K "Region")) "own_least" = some none),
  decide (PySem.W.findIn K (.ref (He.ga K "Region")) "own_width" = some none),
  decide (PySem.W.nsIn K mainGlobals "_law_bag" = some (some (.ref (He.ga K "_law_bag")))),
  decide (DXH.fdv K (He.ga K "_law_bag") = .none),
  decide (PySem.W.codeIn K (DXH.fcd K (He.ga K "_law_bag")) "_law_bag" = true),
  decide (PySem.W.keepIn K (.ref (He.ga K "_law_bag")) = true),
  decide (PySem.W.nsIn K mainGlobals "_law_pull" = some (some (.ref (He.ga K "_law_pull")))),
  decide (DXH.fdv K (He.ga K "_law_pull") = .none),
  decide (PySem.W.codeIn K (DXH.fcd K (He.ga K "_law_pull")) "_law_pull" = true),
  decide (PySem.W.keepIn K (.ref (He.ga K "_law_pull")) = true),
  decide (PySem.W.nsIn K mainGlobals "_law_few" = some (some (.ref (He.ga K "_law_few")))),
  decide (DXH.fdv K (He.ga K "_law_few") = .none),
  decide (PySem.W.codeIn K (DXH.fcd K (He.ga K "_law_few")) "_law_few" = true),
  decide (PySem.W.keepIn K (.ref (He.ga K "_law_few")) = true),
  decide (PySem.W.nsIn K mainGlobals "_law_rows" = some (some (.ref (He.ga K "_law_rows")))),
  decide (DXH.fdv K (He.ga K "_law_rows") = .none),
  decide (PySem.W.codeIn K (DXH.fcd K (He.ga K "_law_rows")) "_law_rows" = true),
  decide (PySem.W.keepIn K (.ref (He.ga K "_law_rows")) = true),
  decide (PySem.W.nsIn K mainGlobals "_law_under" = some (some (.ref (He.ga K "_law_under")))),
  decide (DXH.fdv K (He.ga K "_law_under") = .none),
  decide (PySem.W.codeIn K (DXH.fcd K (He.ga K "_law_under")) "_law_under" = true),
  decide (PySem.W.keepIn K (.ref (He.ga K "_law_under")) = true),
  decide (PySem.W.nsIn K mainGlobals "_law_smallest" = some (some (.ref (He.ga K "_law_smallest")))),
  decide (DXH.fdv K (He.ga K "_law_smallest") = .none),
  decide (PySem.W.codeIn K (DXH.fcd K (He.ga K "_law_smallest")) "_law_smallest" = true)]
def ex1 (K : PySem.W.Frag) : List Bool := [
  decide (PySem.W.keepIn K (.ref (He.ga K "_law_smallest")) = true),
  decide (PySem.W.nsIn K mainGlobals "is_number" = some (some (.ref (He.ga K "is_number")))),
  decide (DXH.fdv K (He.ga K "is_number") = .ref (DXH.adr (DXH.fdv K (He.ga K "is_number")))),
  decide (PySem.W.codeIn K (DXH.fcd K (He.ga K "is_number")) "is_number" = true),
  decide (PySem.W.keepIn K (.ref (He.ga K "is_number")) = true),
  DXH.isSq K (DXH.adr (DXH.fdv K (He.ga K "is_number"))),
  decide ((DXH.sqi K (DXH.adr (DXH.fdv K (He.ga K "is_number")))).toList = [(.none)]),
  decide (PySem.W.nsIn K mainGlobals "is_row" = some (some (.ref (He.ga K "is_row")))),
  decide (DXH.fdv K (He.ga K "is_row") = .none),
  decide (PySem.W.codeIn K (DXH.fcd K (He.ga K "is_row")) "is_row" = true),
  decide (PySem.W.keepIn K (.ref (He.ga K "is_row")) = true),
  decide (PySem.W.nsIn K mainGlobals "is_below" = some (some (.ref (He.ga K "is_below")))),
  decide (DXH.fdv K (He.ga K "is_below") = .none),
  decide (PySem.W.codeIn K (DXH.fcd K (He.ga K "is_below")) "is_below" = true),
  decide (PySem.W.keepIn K (.ref (He.ga K "is_below")) = true),
  decide (PySem.W.nsIn K mainGlobals "least_rows" = some (some (.ref (He.ga K "least_rows")))),
  decide (DXH.fdv K (He.ga K "least_rows") = .none),
  decide (PySem.W.codeIn K (DXH.fcd K (He.ga K "least_rows")) "least_rows" = true),
  decide (PySem.W.keepIn K (.ref (He.ga K "least_rows")) = true),
  decide (PySem.W.findIn K (.ref (He.ga K "Region")) "__init__" = some (some (.ref (He.ma K (He.ga K "Region") "__init__")))),
  decide (PySem.W.isFn K (.ref (He.ma K (He.ga K "Region") "__init__")) = true),
  decide (PySem.W.keepIn K (.ref (He.ga K "Region")) = true),
  decide (PySem.W.makesIn K (He.ga K "Region") = true),
  decide (DXH.fdv K (He.ma K (He.ga K "Region") "__init__") = .ref (DXH.adr (DXH.fdv K (He.ma K (He.ga K "Region") "__init__")))),
  decide (PySem.W.codeIn K (DXH.fcd K (He.ma K (He.ga K "Region") "__init__")) "Region.__init__" = true),
  decide (PySem.W.keepIn K (.ref (He.ma K (He.ga K "Region") "__init__")) = true),
  DXH.isSq K (DXH.adr (DXH.fdv K (He.ma K (He.ga K "Region") "__init__"))),
  DXH.isSq K (DXH.adr ((DXH.sqi K (DXH.adr (DXH.fdv K (He.ma K (He.ga K "Region") "__init__")))).toList.getD 0 .none)),
  decide ((DXH.ocl K (DXH.adr ((DXH.sqi K (DXH.adr (DXH.fdv K (He.ma K (He.ga K "Region") "__init__")))).toList.getD 0 .none))) = .type "tuple"),
  decide ((DXH.sqi K (DXH.adr ((DXH.sqi K (DXH.adr (DXH.fdv K (He.ma K (He.ga K "Region") "__init__")))).toList.getD 0 .none))).toList = [])]
def ex2 (K : PySem.W.Frag) : List Bool := [
  decide ((DXH.sqi K (DXH.adr (DXH.fdv K (He.ma K (He.ga K "Region") "__init__")))).toList = [(.ref (DXH.adr ((DXH.sqi K (DXH.adr (DXH.fdv K (He.ma K (He.ga K "Region") "__init__")))).toList.getD 0 .none)))]),
  decide (PySem.W.findIn K (.ref (He.ga K "Region")) "__repr__" = some (some (.ref (He.ma K (He.ga K "Region") "__repr__")))),
  decide (PySem.W.isFn K (.ref (He.ma K (He.ga K "Region") "__repr__")) = true),
  decide (DXH.fdv K (He.ma K (He.ga K "Region") "__repr__") = .none),
  decide (PySem.W.codeIn K (DXH.fcd K (He.ma K (He.ga K "Region") "__repr__")) "Region.__repr__" = true),
  decide (PySem.W.keepIn K (.ref (He.ma K (He.ga K "Region") "__repr__")) = true),
  decide (PySem.W.findIn K (.ref (He.ga K "Region")) "__bool__" = some (some (.ref (He.ma K (He.ga K "Region") "__bool__")))),
  decide (PySem.W.isFn K (.ref (He.ma K (He.ga K "Region") "__bool__")) = true),
  decide (DXH.fdv K (He.ma K (He.ga K "Region") "__bool__") = .none),
  decide (PySem.W.codeIn K (DXH.fcd K (He.ma K (He.ga K "Region") "__bool__")) "Region.__bool__" = true),
  decide (PySem.W.keepIn K (.ref (He.ma K (He.ga K "Region") "__bool__")) = true),
  decide (PySem.W.findIn K (.ref (He.ga K "Region")) "__len__" = some (some (.ref (He.ma K (He.ga K "Region") "__len__")))),
  decide (PySem.W.isFn K (.ref (He.ma K (He.ga K "Region") "__len__")) = true),
  decide (DXH.fdv K (He.ma K (He.ga K "Region") "__len__") = .none),
  decide (PySem.W.codeIn K (DXH.fcd K (He.ma K (He.ga K "Region") "__len__")) "Region.__len__" = true),
  decide (PySem.W.keepIn K (.ref (He.ma K (He.ga K "Region") "__len__")) = true),
  decide (PySem.W.findIn K (.ref (He.ga K "Region")) "rows" = some (some (.ref (He.ma K (He.ga K "Region") "rows")))),
  decide (PySem.W.isFn K (.ref (He.ma K (He.ga K "Region") "rows")) = true),
  decide (DXH.fdv K (He.ma K (He.ga K "Region") "rows") = .none),
  decide (PySem.W.codeIn K (DXH.fcd K (He.ma K (He.ga K "Region") "rows")) "Region.rows" = true),
  decide (PySem.W.keepIn K (.ref (He.ma K (He.ga K "Region") "rows")) = true),
  decide (PySem.W.findIn K (.ref (He.ga K "Region")) "width" = some (some (.ref (He.ma K (He.ga K "Region") "width")))),
  decide (PySem.W.specialIn K (.ref (He.ma K (He.ga K "Region") "width")) "__get__" = some (some (.builtin "property.__get__"))),
  decide (PySem.W.takesIn K (.ref (He.ma K (He.ga K "Region") "width")) = some true),
  DXH.isPr K (He.ma K (He.ga K "Region") "width"),
  decide (DXH.fdv K (DXH.prF K (He.ma K (He.ga K "Region") "width")) = .none),
  decide (PySem.W.codeIn K (DXH.fcd K (DXH.prF K (He.ma K (He.ga K "Region") "width"))) "Region.width" = true),
  decide (PySem.W.keepIn K (.ref (DXH.prF K (He.ma K (He.ga K "Region") "width"))) = true),
  decide (PySem.W.nsIn K mainGlobals "_law_same" = some (some (.ref (He.ga K "_law_same")))),
  decide (DXH.fdv K (He.ga K "_law_same") = .none)]
def ex3 (K : PySem.W.Frag) : List Bool := [
  decide (PySem.W.codeIn K (DXH.fcd K (He.ga K "_law_same")) "_law_same" = true),
  decide (PySem.W.keepIn K (.ref (He.ga K "_law_same")) = true),
  decide (PySem.W.findIn K (.ref (He.ga K "Region")) "__contains__" = some (some (.ref (He.ma K (He.ga K "Region") "__contains__")))),
  decide (PySem.W.isFn K (.ref (He.ma K (He.ga K "Region") "__contains__")) = true),
  decide (DXH.fdv K (He.ma K (He.ga K "Region") "__contains__") = .none),
  decide (PySem.W.codeIn K (DXH.fcd K (He.ma K (He.ga K "Region") "__contains__")) "Region.__contains__" = true),
  decide (PySem.W.keepIn K (.ref (He.ma K (He.ga K "Region") "__contains__")) = true),
  decide (PySem.W.nsIn K mainGlobals "_law_holds" = some (some (.ref (He.ga K "_law_holds")))),
  decide (DXH.fdv K (He.ga K "_law_holds") = .none),
  decide (PySem.W.codeIn K (DXH.fcd K (He.ga K "_law_holds")) "_law_holds" = true),
  decide (PySem.W.keepIn K (.ref (He.ga K "_law_holds")) = true),
  decide (PySem.W.nsIn K mainGlobals "_law_pick" = some (some (.ref (He.ga K "_law_pick")))),
  decide (DXH.fdv K (He.ga K "_law_pick") = .none),
  decide (PySem.W.codeIn K (DXH.fcd K (He.ga K "_law_pick")) "_law_pick" = true),
  decide (PySem.W.keepIn K (.ref (He.ga K "_law_pick")) = true),
  decide (DXH.fdv K (DXH.stF K (He.ma K (He.ga K "Region") "full")) = .none),
  decide (PySem.W.codeIn K (DXH.fcd K (DXH.stF K (He.ma K (He.ga K "Region") "full"))) "Region.full" = true),
  decide (PySem.W.keepIn K (.ref (DXH.stF K (He.ma K (He.ga K "Region") "full"))) = true),
  decide (PySem.W.nsIn K mainGlobals "_law_mixed" = some (some (.ref (He.ga K "_law_mixed")))),
  decide (DXH.fdv K (He.ga K "_law_mixed") = .none),
  decide (PySem.W.codeIn K (DXH.fcd K (He.ga K "_law_mixed")) "_law_mixed" = true),
  decide (PySem.W.keepIn K (.ref (He.ga K "_law_mixed")) = true),
  decide (PySem.W.findIn K (.ref (He.ga K "Region")) "__eq__" = some (some (.ref (He.ma K (He.ga K "Region") "__eq__")))),
  decide (PySem.W.isFn K (.ref (He.ma K (He.ga K "Region") "__eq__")) = true),
  decide (DXH.fdv K (He.ma K (He.ga K "Region") "__eq__") = .none),
  decide (PySem.W.codeIn K (DXH.fcd K (He.ma K (He.ga K "Region") "__eq__")) "Region.__eq__" = true),
  decide (PySem.W.keepIn K (.ref (He.ma K (He.ga K "Region") "__eq__")) = true),
  decide (PySem.W.nsIn K mainGlobals "law" = some (some (.ref (He.ga K "law")))),
  decide (DXH.fdv K (He.ga K "law") = .none),
  decide (PySem.W.codeIn K (DXH.fcd K (He.ga K "law")) "law" = true)]
def ex4 (K : PySem.W.Frag) : List Bool := [
  decide (PySem.W.keepIn K (.ref (He.ga K "law")) = true),
  decide (PySem.W.findIn K (.ref (He.ga K "Region")) "__ne__" = some (some (.builtin "object.__ne__"))),
  decide (PySem.W.mroIn K (He.ga K "Region") (.type "object") = some true),
  decide (PySem.W.notFirst K (He.ga K "Region") (.type "NoneType") = true),
  decide (PySem.W.notFirst K (He.ga K "Region") (.type "bool") = true),
  decide (PySem.W.notFirst K (He.ga K "Region") (.type "int") = true),
  decide (PySem.W.notFirst K (He.ga K "Region") (.type "str") = true),
  decide (PySem.W.notFirst K (He.ga K "Region") (.type "list") = true),
  decide (PySem.W.notFirst K (He.ga K "Region") (.type "tuple") = true),
  decide (PySem.W.notFirst K (He.ga K "Region") (.type "dict") = true),
  decide (PySem.W.readsIn K (He.ga K "Region") (.type "type") = true),
  decide (PySem.W.specialIn K (.ref (He.ga K "Region")) "__getattribute__" = some (some (.builtin "type.__getattribute__"))),
  DXH.isGt (PySem.W.findCls K (.ref (He.ga K "Region")) (.type "type") "full") "staticmethod.__get__" (He.ma K (He.ga K "Region") "full") (He.ga K "Region"),
  decide (smB K (He.ma K (He.ga K "Region") "full") (DXH.stF K (He.ma K (He.ga K "Region") "full")) = true),
  decide (PySem.W.nsIn K mainGlobals "all" = some none),
  decide (PySem.W.nsIn K mainGlobals "any" = some none),
  decide (PySem.W.nsIn K mainGlobals "bool" = some none),
  decide (PySem.W.nsIn K mainGlobals "int" = some none),
  decide (PySem.W.nsIn K mainGlobals "isinstance" = some none),
  decide (PySem.W.nsIn K mainGlobals "len" = some none),
  decide (PySem.W.nsIn K mainGlobals "list" = some none),
  decide (PySem.W.nsIn K mainGlobals "range" = some none),
  decide (PySem.W.nsIn K mainGlobals "repr" = some none),
  decide (PySem.W.nsIn K mainGlobals "set" = some none),
  decide (PySem.W.nsIn K mainGlobals "sorted" = some none),
  decide (PySem.W.nsIn K mainGlobals "str" = some none),
  decide (PySem.W.nsIn K mainGlobals "tuple" = some none),
  decide (PySem.W.nsIn K mainGlobals "zip" = some none),
  decide (PySem.W.nsIn K mainGlobals "MOST_WIDTH" = some (some (.int 4 (DXH.tkn2 (PySem.W.nsIn K mainGlobals "MOST_WIDTH"))))),
  decide (PySem.W.findIn K (.ref (He.ga K "Region")) "__class__" = some (some (.builtin "object.__class__")))]
def ex5 (K : PySem.W.Frag) : List Bool := [
  decide (PySem.W.specialIn K (.builtin "object.__class__") "__get__" = some (some (.builtin "getset_descriptor.__get__"))),
  decide (PySem.W.takesIn K (.builtin "object.__class__") = some true),
  decide (PySem.W.kitOne K (.ref (He.ga K "Region")) (.ref (He.ga K "Region")) = some true),
  decide (PySem.W.kitOne K (.ref (He.ga K "Region")) (.type "bool") = some false),
  decide (PySem.W.kitOne K (.ref (He.ga K "Region")) (.type "int") = some false),
  decide (PySem.W.kitOne K (.ref (He.ga K "Region")) (.type "str") = some false),
  decide (PySem.W.kitOne K (.ref (He.ga K "Region")) (.type "list") = some false),
  decide (PySem.W.kitOne K (.ref (He.ga K "Region")) (.type "tuple") = some false),
  decide (PySem.W.kitOne K (.ref (He.ga K "Region")) (.type "dict") = some false),
  decide (PySem.W.kitOne K (.type "NoneType") (.ref (He.ga K "Region")) = some false),
  decide (PySem.W.kitOne K (.type "bool") (.ref (He.ga K "Region")) = some false),
  decide (PySem.W.kitOne K (.type "int") (.ref (He.ga K "Region")) = some false),
  decide (PySem.W.kitOne K (.type "str") (.ref (He.ga K "Region")) = some false),
  decide (PySem.W.kitOne K (.type "list") (.ref (He.ga K "Region")) = some false),
  decide (PySem.W.kitOne K (.type "tuple") (.ref (He.ga K "Region")) = some false),
  decide (PySem.W.kitOne K (.type "dict") (.ref (He.ga K "Region")) = some false)]
def exs (K : PySem.W.Frag) : List Bool := ex0 K ++ (ex1 K ++ (ex2 K ++ (ex3 K ++ (ex4 K ++ (ex5 K)))))
def df0 : List DXH.Df := [
  ⟨fun K => (He.ga K "_law_bag"), "_law_bag", "_law_bag", defArgs st_law_bag, defBody st_law_bag, defScope st_law_bag⟩,
  ⟨fun K => (He.ga K "_law_pull"), "_law_pull", "_law_pull", defArgs st_law_pull, defBody st_law_pull, defScope st_law_pull⟩,
  ⟨fun K => (He.ga K "_law_few"), "_law_few", "_law_few", defArgs st_law_few, defBody st_law_few, defScope st_law_few⟩,
  ⟨fun K => (He.ga K "_law_rows"), "_law_rows", "_law_rows", defArgs st_law_rows, defBody st_law_rows, defScope st_law_rows⟩,
  ⟨fun K => (He.ga K "_law_under"), "_law_under", "_law_under", defArgs st_law_under, defBody st_law_under, defScope st_law_under⟩,
  ⟨fun K => (He.ga K "_law_smallest"), "_law_smallest", "_law_smallest", defArgs st_law_smallest, defBody st_law_smallest, defScope st_law_smallest⟩,
  ⟨fun K => (He.ga K "is_number"), "is_number", "is_number", defArgs st_is_number, defBody st_is_number, defScope st_is_number⟩,
  ⟨fun K => (He.ga K "is_row"), "is_row", "is_row", defArgs st_is_row, defBody st_is_row, defScope st_is_row⟩,
  ⟨fun K => (He.ga K "is_below"), "is_below", "is_below", defArgs st_is_below, defBody st_is_below, defScope st_is_below⟩,
  ⟨fun K => (He.ga K "least_rows"), "least_rows", "least_rows", defArgs st_least_rows, defBody st_least_rows, defScope st_least_rows⟩,
  ⟨fun K => (He.ma K (He.ga K "Region") "__init__"), "__init__", "Region.__init__", defArgs st_Region_init, defBody st_Region_init, defScope st_Region_init⟩,
  ⟨fun K => (He.ma K (He.ga K "Region") "__repr__"), "__repr__", "Region.__repr__", defArgs st_Region_repr, defBody st_Region_repr, defScope st_Region_repr⟩,
  ⟨fun K => (He.ma K (He.ga K "Region") "__bool__"), "__bool__", "Region.__bool__", defArgs st_Region_bool, defBody st_Region_bool, defScope st_Region_bool⟩,
  ⟨fun K => (He.ma K (He.ga K "Region") "__len__"), "__len__", "Region.__len__", defArgs st_Region_len, defBody st_Region_len, defScope st_Region_len⟩,
  ⟨fun K => (He.ma K (He.ga K "Region") "rows"), "rows", "Region.rows", defArgs st_Region_rows, defBody st_Region_rows, defScope st_Region_rows⟩,
  ⟨fun K => (DXH.prF K (He.ma K (He.ga K "Region") "width")), "width", "Region.width", defArgs st_Region_width, defBody st_Region_width, defScope st_Region_width⟩,
  ⟨fun K => (He.ga K "_law_same"), "_law_same", "_law_same", defArgs st_law_same, defBody st_law_same, defScope st_law_same⟩,
  ⟨fun K => (He.ma K (He.ga K "Region") "__contains__"), "__contains__", "Region.__contains__", defArgs st_Region_contains, defBody st_Region_contains, defScope st_Region_contains⟩,
  ⟨fun K => (He.ga K "_law_holds"), "_law_holds", "_law_holds", defArgs st_law_holds, defBody st_law_holds, defScope st_law_holds⟩,
  ⟨fun K => (He.ga K "_law_pick"), "_law_pick", "_law_pick", defArgs st_law_pick, defBody st_law_pick, defScope st_law_pick⟩,
  ⟨fun K => (DXH.stF K (He.ma K (He.ga K "Region") "full")), "full", "Region.full", defArgs st_Region_full, defBody st_Region_full, defScope st_Region_full⟩,
  ⟨fun K => (He.ga K "_law_mixed"), "_law_mixed", "_law_mixed", defArgs st_law_mixed, defBody st_law_mixed, defScope st_law_mixed⟩,
  ⟨fun K => (He.ma K (He.ga K "Region") "__eq__"), "__eq__", "Region.__eq__", defArgs st_Region_eq, defBody st_Region_eq, defScope st_Region_eq⟩,
  ⟨fun K => (He.ga K "law"), "law", "law", defArgs st_law, defBody st_law, defScope st_law⟩]
def dfs : List DXH.Df := df0
def tbs : List DXH.Tb := []
def nm0 : List PySem.Str := ["_wall", "__name__", "FooledError", "InvalidNumber", "InvalidAmounts", "Unlike", "MOST_WIDTH", "is_number", "is_row", "is_below", "least_rows", "Region", "_law_bag", "_law_pull", "_law_pick", "_law_mixed", "_law_same", "_law_few", "_law_under", "_law_rows", "_law_smallest", "_law_holds"]
def nms : List PySem.Str := nm0
abbrev Rw : PySem.W.OpenRow := PySem.W.OpenLaw.row PySem.Challenge.rw_fooledtest_k03_regions_made
abbrev qv : Program := PySem.W.view Rw.prog [24]
abbrev hk : PySem.W.Hook := DXH.hookZ 5 exs dfs tbs
def ob (s : PySem.W.SharedT) : DXH.Al := DXH.look1 exs dfs tbs (DXH.part 5 (HandSHeadRun.getT s))
theorem ob_eq (s : PySem.W.SharedT) : ob s = hk.obs s.abs := DXH.hookZ_eq (HandSHeadRun.getT_eq s)
theorem run_f (w : World) : HandSHeadRun.RunEq Rw qv hk ob 20000 nms (w.withFollow "special-get-raises" false) := by
  intro os
  kernel_rfl
theorem run_t (w : World) : HandSHeadRun.RunEq Rw qv hk ob 20000 nms (w.withFollow "special-get-raises" true) := by
  intro os
  kernel_rfl
theorem run (w : World) : HandSHeadRun.RunEq Rw qv hk ob 20000 nms w := PySem.W.byRow2 "special-get-raises" (P := fun w => HandSHeadRun.RunEq Rw qv hk ob 20000 nms w) run_f run_t w
end L03

set_option Elab.async false
set_option linter.all false
set_option maxRecDepth 100000
set_option maxHeartbeats 0
namespace L03
open PySem PySem.Spec PyProof.Rows L2 DX
set_option linter.all false in
theorem facts {l : PySem.W.OpenLaw} {w : World} {K : PySem.W.Frag} {h : Heap} {mg : Str → Option Value} {fa : Addr} (X : K.In h) (G : h.Ns mainGlobals mg) (hfa : mg "law" = some (.ref fa)) (c : DXH.look1 exs dfs tbs K = DXH.due1 dfs tbs w) :
    ∃ g : FuncData, (∀ (s : Shared) (v : Value), BindsTo s g ⟨[v], []⟩ [("_law_script", v)]) ∧ ∀ base : Heap, K.In base → base.Ns mainGlobals mg → FnOk l.prog w K mg base (L2N.CX l.prog w) 6 fa g ["_law_script"] (spLaw K []) := by
  exact all_mk (l := l) X G hfa (f_Region := (He.ga K "Region")) (f_law_bag := (He.ga K "_law_bag")) (oc_law_bag := (DXH.ocl K (He.ga K "_law_bag"))) (kV_law_bag := (DXH.fkv K (He.ga K "_law_bag"))) (dc_law_bag := (DXH.fdoc K (He.ga K "_law_bag"))) (pm_law_bag := (DXH.fpm K (He.ga K "_law_bag"))) (cd_law_bag := (DXH.fcd K (He.ga K "_law_bag"))) (ct_law_bag := (DXH.fct K (He.ga K "_law_bag"))) (od_law_bag := (DXH.odi K (He.ga K "_law_bag"))) (an_law_bag := (DXH.fan K (He.ga K "_law_bag"))) (sl_law_bag := (DXH.osl K (He.ga K "_law_bag"))) (f_law_pull := (He.ga K "_law_pull")) (oc_law_pull := (DXH.ocl K (He.ga K "_law_pull"))) (kV_law_pull := (DXH.fkv K (He.ga K "_law_pull"))) (dc_law_pull := (DXH.fdoc K (He.ga K "_law_pull"))) (pm_law_pull := (DXH.fpm K (He.ga K "_law_pull"))) (cd_law_pull := (DXH.fcd K (He.ga K "_law_pull"))) (ct_law_pull := (DXH.fct K (He.ga K "_law_pull"))) (od_law_pull := (DXH.odi K (He.ga K "_law_pull"))) (an_law_pull := (DXH.fan K (He.ga K "_law_pull"))) (sl_law_pull := (DXH.osl K (He.ga K "_law_pull"))) (f_law_few := (He.ga K "_law_few")) (oc_law_few := (DXH.ocl K (He.ga K "_law_few"))) (kV_law_few := (DXH.fkv K (He.ga K "_law_few"))) (dc_law_few := (DXH.fdoc K (He.ga K "_law_few"))) (pm_law_few := (DXH.fpm K (He.ga K "_law_few"))) (cd_law_few := (DXH.fcd K (He.ga K "_law_few"))) (ct_law_few := (DXH.fct K (He.ga K "_law_few"))) (od_law_few := (DXH.odi K (He.ga K "_law_few"))) (an_law_few := (DXH.fan K (He.ga K "_law_few"))) (sl_law_few := (DXH.osl K (He.ga K "_law_few"))) (f_law_rows := (He.ga K "_law_rows")) (oc_law_rows := (DXH.ocl K (He.ga K "_law_rows"))) (kV_law_rows := (DXH.fkv K (He.ga K "_law_rows"))) (dc_law_rows := (DXH.fdoc K (He.ga K "_law_rows"))) (pm_law_rows := (DXH.fpm K (He.ga K "_law_rows"))) (cd_law_rows := (DXH.fcd K (He.ga K "_law_rows"))) (ct_law_rows := (DXH.fct K (He.ga K "_law_rows"))) (od_law_rows := (DXH.odi K (He.ga K "_law_rows"))) (an_law_rows := (DXH.fan K (He.ga K "_law_rows"))) (sl_law_rows := (DXH.osl K (He.ga K "_law_rows"))) (f_law_under := (He.ga K "_law_under")) (oc_law_under := (DXH.ocl K (He.ga K "_law_under"))) (kV_law_under := (DXH.fkv K (He.ga K "_law_under"))) (dc_law_under := (DXH.fdoc K (He.ga K "_law_under"))) (pm_law_under := (DXH.fpm K (He.ga K "_law_under"))) (cd_law_under := (DXH.fcd K (He.ga K "_law_under"))) (ct_law_under := (DXH.fct K (He.ga K "_law_under"))) (od_law_under := (DXH.odi K (He.ga K "_law_under"))) (an_law_under := (DXH.fan K (He.ga K "_law_under"))) (sl_law_under := (DXH.osl K (He.ga K "_law_under"))) (f_law_smallest := (He.ga K "_law_smallest")) (oc_law_smallest := (DXH.ocl K (He.ga K "_law_smallest"))) (kV_law_smallest := (DXH.fkv K (He.ga K "_law_smallest"))) (dc_law_smallest := (DXH.fdoc K (He.ga K "_law_smallest"))) (pm_law_smallest := (DXH.fpm K (He.ga K "_law_smallest"))) (cd_law_smallest := (DXH.fcd K (He.ga K "_law_smallest"))) (ct_law_smallest := (DXH.fct K (He.ga K "_law_smallest"))) (od_law_smallest := (DXH.odi K (He.ga K "_law_smallest"))) (an_law_smallest := (DXH.fan K (He.ga K "_law_smallest"))) (sl_law_smallest := (DXH.osl K (He.ga K "_law_smallest"))) (f_is_number := (He.ga K "is_number")) (oc_is_number := (DXH.ocl K (He.ga K "is_number"))) (kV_is_number := (DXH.fkv K (He.ga K "is_number"))) (dc_is_number := (DXH.fdoc K (He.ga K "is_number"))) (pm_is_number := (DXH.fpm K (He.ga K "is_number"))) (cd_is_number := (DXH.fcd K (He.ga K "is_number"))) (ct_is_number := (DXH.fct K (He.ga K "is_number"))) (od_is_number := (DXH.odi K (He.ga K "is_number"))) (an_is_number := (DXH.fan K (He.ga K "is_number"))) (sl_is_number := (DXH.osl K (He.ga K "is_number"))) (dT_is_number := (DXH.adr (DXH.fdv K (He.ga K "is_number")))) (dc2_is_number := (DXH.ocl K (DXH.adr (DXH.fdv K (He.ga K "is_number"))))) (dd_is_number := (DXH.odi K (DXH.adr (DXH.fdv K (He.ga K "is_number"))))) (di_is_number := (DXH.sqi K (DXH.adr (DXH.fdv K (He.ga K "is_number"))))) (dn_is_number := (DXH.sqn K (DXH.adr (DXH.fdv K (He.ga K "is_number"))))) (ds_is_number := (DXH.osl K (DXH.adr (DXH.fdv K (He.ga K "is_number"))))) (f_is_row := (He.ga K "is_row")) (oc_is_row := (DXH.ocl K (He.ga K "is_row"))) (kV_is_row := (DXH.fkv K (He.ga K "is_row"))) (dc_is_row := (DXH.fdoc K (He.ga K "is_row"))) (pm_is_row := (DXH.fpm K (He.ga K "is_row"))) (cd_is_row := (DXH.fcd K (He.ga K "is_row"))) (ct_is_row := (DXH.fct K (He.ga K "is_row"))) (od_is_row := (DXH.odi K (He.ga K "is_row"))) (an_is_row := (DXH.fan K (He.ga K "is_row"))) (sl_is_row := (DXH.osl K (He.ga K "is_row"))) (f_is_below := (He.ga K "is_below")) (oc_is_below := (DXH.ocl K (He.ga K "is_below"))) (kV_is_below := (DXH.fkv K (He.ga K "is_below"))) (dc_is_below := (DXH.fdoc K (He.ga K "is_below"))) (pm_is_below := (DXH.fpm K (He.ga K "is_below"))) (cd_is_below := (DXH.fcd K (He.ga K "is_below"))) (ct_is_below := (DXH.fct K (He.ga K "is_below"))) (od_is_below := (DXH.odi K (He.ga K "is_below"))) (an_is_below := (DXH.fan K (He.ga K "is_below"))) (sl_is_below := (DXH.osl K (He.ga K "is_below"))) (f_least_rows := (He.ga K "least_rows")) (oc_least_rows := (DXH.ocl K (He.ga K "least_rows"))) (kV_least_rows := (DXH.fkv K (He.ga K "least_rows"))) (dc_least_rows := (DXH.fdoc K (He.ga K "least_rows"))) (pm_least_rows := (DXH.fpm K (He.ga K "least_rows"))) (cd_least_rows := (DXH.fcd K (He.ga K "least_rows"))) (ct_least_rows := (DXH.fct K (He.ga K "least_rows"))) (od_least_rows := (DXH.odi K (He.ga K "least_rows"))) (an_least_rows := (DXH.fan K (He.ga K "least_rows"))) (sl_least_rows := (DXH.osl K (He.ga K "least_rows"))) (f_Region_init := (He.ma K (He.ga K "Region") "__init__")) (oc_Region_init := (DXH.ocl K (He.ma K (He.ga K "Region") "__init__"))) (kV_Region_init := (DXH.fkv K (He.ma K (He.ga K "Region") "__init__"))) (dc_Region_init := (DXH.fdoc K (He.ma K (He.ga K "Region") "__init__"))) (pm_Region_init := (DXH.fpm K (He.ma K (He.ga K "Region") "__init__"))) (cd_Region_init := (DXH.fcd K (He.ma K (He.ga K "Region") "__init__"))) (ct_Region_init := (DXH.fct K (He.ma K (He.ga K "Region") "__init__"))) (od_Region_init := (DXH.odi K (He.ma K (He.ga K "Region") "__init__"))) (an_Region_init := (DXH.fan K (He.ma K (He.ga K "Region") "__init__"))) (sl_Region_init := (DXH.osl K (He.ma K (He.ga K "Region") "__init__"))) (dT_Region_init := (DXH.adr (DXH.fdv K (He.ma K (He.ga K "Region") "__init__")))) (dc2_Region_init := (DXH.ocl K (DXH.adr (DXH.fdv K (He.ma K (He.ga K "Region") "__init__"))))) (dd_Region_init := (DXH.odi K (DXH.adr (DXH.fdv K (He.ma K (He.ga K "Region") "__init__"))))) (di_Region_init := (DXH.sqi K (DXH.adr (DXH.fdv K (He.ma K (He.ga K "Region") "__init__"))))) (dn_Region_init := (DXH.sqn K (DXH.adr (DXH.fdv K (He.ma K (He.ga K "Region") "__init__"))))) (ds_Region_init := (DXH.osl K (DXH.adr (DXH.fdv K (He.ma K (He.ga K "Region") "__init__"))))) (dz_Region_init := (DXH.adr ((DXH.sqi K (DXH.adr (DXH.fdv K (He.ma K (He.ga K "Region") "__init__")))).toList.getD 0 .none))) (zc_Region_init := (DXH.ocl K (DXH.adr ((DXH.sqi K (DXH.adr (DXH.fdv K (He.ma K (He.ga K "Region") "__init__")))).toList.getD 0 .none)))) (zd_Region_init := (DXH.odi K (DXH.adr ((DXH.sqi K (DXH.adr (DXH.fdv K (He.ma K (He.ga K "Region") "__init__")))).toList.getD 0 .none)))) (zi_Region_init := (DXH.sqi K (DXH.adr ((DXH.sqi K (DXH.adr (DXH.fdv K (He.ma K (He.ga K "Region") "__init__")))).toList.getD 0 .none)))) (zn_Region_init := (DXH.sqn K (DXH.adr ((DXH.sqi K (DXH.adr (DXH.fdv K (He.ma K (He.ga K "Region") "__init__")))).toList.getD 0 .none)))) (zs_Region_init := (DXH.osl K (DXH.adr ((DXH.sqi K (DXH.adr (DXH.fdv K (He.ma K (He.ga K "Region") "__init__")))).toList.getD 0 .none)))) (f_Region_repr := (He.ma K (He.ga K "Region") "__repr__")) (oc_Region_repr := (DXH.ocl K (He.ma K (He.ga K "Region") "__repr__"))) (kV_Region_repr := (DXH.fkv K (He.ma K (He.ga K "Region") "__repr__"))) (dc_Region_repr := (DXH.fdoc K (He.ma K (He.ga K "Region") "__repr__"))) (pm_Region_repr := (DXH.fpm K (He.ma K (He.ga K "Region") "__repr__"))) (cd_Region_repr := (DXH.fcd K (He.ma K (He.ga K "Region") "__repr__"))) (ct_Region_repr := (DXH.fct K (He.ma K (He.ga K "Region") "__repr__"))) (od_Region_repr := (DXH.odi K (He.ma K (He.ga K "Region") "__repr__"))) (an_Region_repr := (DXH.fan K (He.ma K (He.ga K "Region") "__repr__"))) (sl_Region_repr := (DXH.osl K (He.ma K (He.ga K "Region") "__repr__"))) (f_Region_bool := (He.ma K (He.ga K "Region") "__bool__")) (oc_Region_bool := (DXH.ocl K (He.ma K (He.ga K "Region") "__bool__"))) (kV_Region_bool := (DXH.fkv K (He.ma K (He.ga K "Region") "__bool__"))) (dc_Region_bool := (DXH.fdoc K (He.ma K (He.ga K "Region") "__bool__"))) (pm_Region_bool := (DXH.fpm K (He.ma K (He.ga K "Region") "__bool__"))) (cd_Region_bool := (DXH.fcd K (He.ma K (He.ga K "Region") "__bool__"))) (ct_Region_bool := (DXH.fct K (He.ma K (He.ga K "Region") "__bool__"))) (od_Region_bool := (DXH.odi K (He.ma K (He.ga K "Region") "__bool__"))) (an_Region_bool := (DXH.fan K (He.ma K (He.ga K "Region") "__bool__"))) (sl_Region_bool := (DXH.osl K (He.ma K (He.ga K "Region") "__bool__"))) (f_Region_len := (He.ma K (He.ga K "Region") "__len__")) (oc_Region_len := (DXH.ocl K (He.ma K (He.ga K "Region") "__len__"))) (kV_Region_len := (DXH.fkv K (He.ma K (He.ga K "Region") "__len__"))) (dc_Region_len := (DXH.fdoc K (He.ma K (He.ga K "Region") "__len__"))) (pm_Region_len := (DXH.fpm K (He.ma K (He.ga K "Region") "__len__"))) (cd_Region_len := (DXH.fcd K (He.ma K (He.ga K "Region") "__len__"))) (ct_Region_len := (DXH.fct K (He.ma K (He.ga K "Region") "__len__"))) (od_Region_len := (DXH.odi K (He.ma K (He.ga K "Region") "__len__"))) (an_Region_len := (DXH.fan K (He.ma K (He.ga K "Region") "__len__"))) (sl_Region_len := (DXH.osl K (He.ma K (He.ga K "Region") "__len__"))) (f_Region_rows := (He.ma K (He.ga K "Region") "rows")) (oc_Region_rows := (DXH.ocl K (He.ma K (He.ga K "Region") "rows"))) (kV_Region_rows := (DXH.fkv K (He.ma K (He.ga K "Region") "rows"))) (dc_Region_rows := (DXH.fdoc K (He.ma K (He.ga K "Region") "rows"))) (pm_Region_rows := (DXH.fpm K (He.ma K (He.ga K "Region") "rows"))) (cd_Region_rows := (DXH.fcd K (He.ma K (He.ga K "Region") "rows"))) (ct_Region_rows := (DXH.fct K (He.ma K (He.ga K "Region") "rows"))) (od_Region_rows := (DXH.odi K (He.ma K (He.ga K "Region") "rows"))) (an_Region_rows := (DXH.fan K (He.ma K (He.ga K "Region") "rows"))) (sl_Region_rows := (DXH.osl K (He.ma K (He.ga K "Region") "rows"))) (f_Region_width := (DXH.prF K (He.ma K (He.ga K "Region") "width"))) (oc_Region_width := (DXH.ocl K (DXH.prF K (He.ma K (He.ga K "Region") "width")))) (kV_Region_width := (DXH.fkv K (DXH.prF K (He.ma K (He.ga K "Region") "width")))) (dc_Region_width := (DXH.fdoc K (DXH.prF K (He.ma K (He.ga K "Region") "width")))) (pm_Region_width := (DXH.fpm K (DXH.prF K (He.ma K (He.ga K "Region") "width")))) (cd_Region_width := (DXH.fcd K (DXH.prF K (He.ma K (He.ga K "Region") "width")))) (ct_Region_width := (DXH.fct K (DXH.prF K (He.ma K (He.ga K "Region") "width")))) (od_Region_width := (DXH.odi K (DXH.prF K (He.ma K (He.ga K "Region") "width")))) (an_Region_width := (DXH.fan K (DXH.prF K (He.ma K (He.ga K "Region") "width")))) (sl_Region_width := (DXH.osl K (DXH.prF K (He.ma K (He.ga K "Region") "width")))) (pr_Region_width := (He.ma K (He.ga K "Region") "width")) (pe_Region_width := (DXH.prR K (He.ma K (He.ga K "Region") "width"))) (f_law_same := (He.ga K "_law_same")) (oc_law_same := (DXH.ocl K (He.ga K "_law_same"))) (kV_law_same := (DXH.fkv K (He.ga K "_law_same"))) (dc_law_same := (DXH.fdoc K (He.ga K "_law_same"))) (pm_law_same := (DXH.fpm K (He.ga K "_law_same"))) (cd_law_same := (DXH.fcd K (He.ga K "_law_same"))) (ct_law_same := (DXH.fct K (He.ga K "_law_same"))) (od_law_same := (DXH.odi K (He.ga K "_law_same"))) (an_law_same := (DXH.fan K (He.ga K "_law_same"))) (sl_law_same := (DXH.osl K (He.ga K "_law_same"))) (f_Region_contains := (He.ma K (He.ga K "Region") "__contains__")) (oc_Region_contains := (DXH.ocl K (He.ma K (He.ga K "Region") "__contains__"))) (kV_Region_contains := (DXH.fkv K (He.ma K (He.ga K "Region") "__contains__"))) (dc_Region_contains := (DXH.fdoc K (He.ma K (He.ga K "Region") "__contains__"))) (pm_Region_contains := (DXH.fpm K (He.ma K (He.ga K "Region") "__contains__"))) (cd_Region_contains := (DXH.fcd K (He.ma K (He.ga K "Region") "__contains__"))) (ct_Region_contains := (DXH.fct K (He.ma K (He.ga K "Region") "__contains__"))) (od_Region_contains := (DXH.odi K (He.ma K (He.ga K "Region") "__contains__"))) (an_Region_contains := (DXH.fan K (He.ma K (He.ga K "Region") "__contains__"))) (sl_Region_contains := (DXH.osl K (He.ma K (He.ga K "Region") "__contains__"))) (f_law_holds := (He.ga K "_law_holds")) (oc_law_holds := (DXH.ocl K (He.ga K "_law_holds"))) (kV_law_holds := (DXH.fkv K (He.ga K "_law_holds"))) (dc_law_holds := (DXH.fdoc K (He.ga K "_law_holds"))) (pm_law_holds := (DXH.fpm K (He.ga K "_law_holds"))) (cd_law_holds := (DXH.fcd K (He.ga K "_law_holds"))) (ct_law_holds := (DXH.fct K (He.ga K "_law_holds"))) (od_law_holds := (DXH.odi K (He.ga K "_law_holds"))) (an_law_holds := (DXH.fan K (He.ga K "_law_holds"))) (sl_law_holds := (DXH.osl K (He.ga K "_law_holds"))) (f_law_pick := (He.ga K "_law_pick")) (oc_law_pick := (DXH.ocl K (He.ga K "_law_pick"))) (kV_law_pick := (DXH.fkv K (He.ga K "_law_pick"))) (dc_law_pick := (DXH.fdoc K (He.ga K "_law_pick"))) (pm_law_pick := (DXH.fpm K (He.ga K "_law_pick"))) (cd_law_pick := (DXH.fcd K (He.ga K "_law_pick"))) (ct_law_pick := (DXH.fct K (He.ga K "_law_pick"))) (od_law_pick := (DXH.odi K (He.ga K "_law_pick"))) (an_law_pick := (DXH.fan K (He.ga K "_law_pick"))) (sl_law_pick := (DXH.osl K (He.ga K "_law_pick"))) (f_Region_full := (DXH.stF K (He.ma K (He.ga K "Region") "full"))) (oc_Region_full := (DXH.ocl K (DXH.stF K (He.ma K (He.ga K "Region") "full")))) (kV_Region_full := (DXH.fkv K (DXH.stF K (He.ma K (He.ga K "Region") "full")))) (dc_Region_full := (DXH.fdoc K (DXH.stF K (He.ma K (He.ga K "Region") "full")))) (pm_Region_full := (DXH.fpm K (DXH.stF K (He.ma K (He.ga K "Region") "full")))) (cd_Region_full := (DXH.fcd K (DXH.stF K (He.ma K (He.ga K "Region") "full")))) (ct_Region_full := (DXH.fct K (DXH.stF K (He.ma K (He.ga K "Region") "full")))) (od_Region_full := (DXH.odi K (DXH.stF K (He.ma K (He.ga K "Region") "full")))) (an_Region_full := (DXH.fan K (DXH.stF K (He.ma K (He.ga K "Region") "full")))) (sl_Region_full := (DXH.osl K (DXH.stF K (He.ma K (He.ga K "Region") "full")))) (f_law_mixed := (He.ga K "_law_mixed")) (oc_law_mixed := (DXH.ocl K (He.ga K "_law_mixed"))) (kV_law_mixed := (DXH.fkv K (He.ga K "_law_mixed"))) (dc_law_mixed := (DXH.fdoc K (He.ga K "_law_mixed"))) (pm_law_mixed := (DXH.fpm K (He.ga K "_law_mixed"))) (cd_law_mixed := (DXH.fcd K (He.ga K "_law_mixed"))) (ct_law_mixed := (DXH.fct K (He.ga K "_law_mixed"))) (od_law_mixed := (DXH.odi K (He.ga K "_law_mixed"))) (an_law_mixed := (DXH.fan K (He.ga K "_law_mixed"))) (sl_law_mixed := (DXH.osl K (He.ga K "_law_mixed"))) (f_Region_eq := (He.ma K (He.ga K "Region") "__eq__")) (oc_Region_eq := (DXH.ocl K (He.ma K (He.ga K "Region") "__eq__"))) (kV_Region_eq := (DXH.fkv K (He.ma K (He.ga K "Region") "__eq__"))) (dc_Region_eq := (DXH.fdoc K (He.ma K (He.ga K "Region") "__eq__"))) (pm_Region_eq := (DXH.fpm K (He.ma K (He.ga K "Region") "__eq__"))) (cd_Region_eq := (DXH.fcd K (He.ma K (He.ga K "Region") "__eq__"))) (ct_Region_eq := (DXH.fct K (He.ma K (He.ga K "Region") "__eq__"))) (od_Region_eq := (DXH.odi K (He.ma K (He.ga K "Region") "__eq__"))) (an_Region_eq := (DXH.fan K (He.ma K (He.ga K "Region") "__eq__"))) (sl_Region_eq := (DXH.osl K (He.ma K (He.ga K "Region") "__eq__"))) (f_law := (He.ga K "law")) (oc_law := (DXH.ocl K (He.ga K "law"))) (kV_law := (DXH.fkv K (He.ga K "law"))) (dc_law := (DXH.fdoc K (He.ga K "law"))) (pm_law := (DXH.fpm K (He.ga K "law"))) (cd_law := (DXH.fcd K (He.ga K "law"))) (ct_law := (DXH.fct K (He.ga K "law"))) (od_law := (DXH.odi K (He.ga K "law"))) (an_law := (DXH.fan K (He.ga K "law"))) (sl_law := (DXH.osl K (He.ga K "law"))) (pr_Region_full := (He.ma K (He.ga K "Region") "full")) (tk_MOST_WIDTH := (DXH.tkn2 (PySem.W.nsIn K mainGlobals "MOST_WIDTH")))
    (DXH.says c 0 rfl)
    (DXH.says c 1 rfl)
    (DXH.says c 2 rfl)
    (DXH.says c 3 rfl)
    (DXH.says c 4 rfl)
    (DXH.says c 5 rfl)
    (DXH.says c 6 rfl)
    (DXH.says c 7 rfl)
    (DXH.look (DXH.defs c 0 rfl) (DXH.says c 8 rfl) rfl)
    (DXH.says c 9 rfl)
    (DXH.says c 10 rfl)
    (DXH.says c 11 rfl)
    (DXH.look (DXH.defs c 1 rfl) (DXH.says c 12 rfl) rfl)
    (DXH.says c 13 rfl)
    (DXH.says c 14 rfl)
    (DXH.says c 15 rfl)
    (DXH.look (DXH.defs c 2 rfl) (DXH.says c 16 rfl) rfl)
    (DXH.says c 17 rfl)
    (DXH.says c 18 rfl)
    (DXH.says c 19 rfl)
    (DXH.look (DXH.defs c 3 rfl) (DXH.says c 20 rfl) rfl)
    (DXH.says c 21 rfl)
    (DXH.says c 22 rfl)
    (DXH.says c 23 rfl)
    (DXH.look (DXH.defs c 4 rfl) (DXH.says c 24 rfl) rfl)
    (DXH.says c 25 rfl)
    (DXH.says c 26 rfl)
    (DXH.says c 27 rfl)
    (DXH.look (DXH.defs c 5 rfl) (DXH.says c 28 rfl) rfl)
    (DXH.says c 29 rfl)
    (DXH.says c 30 rfl)
    (DXH.says c 31 rfl)
    (DXH.look (DXH.defs c 6 rfl) (DXH.says c 32 rfl) rfl)
    (DXH.says c 33 rfl)
    (DXH.says c 34 rfl)
    (DXH.isSq_ok (DXH.tells c 35 rfl))
    (DXH.says c 36 rfl)
    (DXH.says c 37 rfl)
    (DXH.look (DXH.defs c 7 rfl) (DXH.says c 38 rfl) rfl)
    (DXH.says c 39 rfl)
    (DXH.says c 40 rfl)
    (DXH.says c 41 rfl)
    (DXH.look (DXH.defs c 8 rfl) (DXH.says c 42 rfl) rfl)
    (DXH.says c 43 rfl)
    (DXH.says c 44 rfl)
    (DXH.says c 45 rfl)
    (DXH.look (DXH.defs c 9 rfl) (DXH.says c 46 rfl) rfl)
    (DXH.says c 47 rfl)
    (DXH.says c 48 rfl)
    (DXH.says c 49 rfl)
    (DXH.says c 50 rfl)
    (DXH.says c 51 rfl)
    (DXH.says c 52 rfl)
    (DXH.look (DXH.defs c 10 rfl) (DXH.says c 53 rfl) rfl)
    (DXH.says c 54 rfl)
    (DXH.says c 55 rfl)
    (DXH.isSq_ok (DXH.tells c 56 rfl))
    (DXH.isSq_ok (DXH.tells c 57 rfl))
    (DXH.says c 58 rfl)
    (DXH.says c 59 rfl)
    (DXH.says c 60 rfl)
    (DXH.says c 61 rfl)
    (DXH.says c 62 rfl)
    (DXH.look (DXH.defs c 11 rfl) (DXH.says c 63 rfl) rfl)
    (DXH.says c 64 rfl)
    (DXH.says c 65 rfl)
    (DXH.says c 66 rfl)
    (DXH.says c 67 rfl)
    (DXH.look (DXH.defs c 12 rfl) (DXH.says c 68 rfl) rfl)
    (DXH.says c 69 rfl)
    (DXH.says c 70 rfl)
    (DXH.says c 71 rfl)
    (DXH.says c 72 rfl)
    (DXH.look (DXH.defs c 13 rfl) (DXH.says c 73 rfl) rfl)
    (DXH.says c 74 rfl)
    (DXH.says c 75 rfl)
    (DXH.says c 76 rfl)
    (DXH.says c 77 rfl)
    (DXH.look (DXH.defs c 14 rfl) (DXH.says c 78 rfl) rfl)
    (DXH.says c 79 rfl)
    (DXH.says c 80 rfl)
    (DXH.says c 81 rfl)
    (DXH.says c 82 rfl)
    (DXH.says c 83 rfl)
    (DXH.isPr_ok (DXH.tells c 84 rfl))
    (DXH.look (DXH.defs c 15 rfl) (DXH.says c 85 rfl) rfl)
    (DXH.says c 86 rfl)
    (DXH.says c 87 rfl)
    (DXH.says c 88 rfl)
    (DXH.look (DXH.defs c 16 rfl) (DXH.says c 89 rfl) rfl)
    (DXH.says c 90 rfl)
    (DXH.says c 91 rfl)
    (DXH.says c 92 rfl)
    (DXH.says c 93 rfl)
    (DXH.look (DXH.defs c 17 rfl) (DXH.says c 94 rfl) rfl)
    (DXH.says c 95 rfl)
    (DXH.says c 96 rfl)
    (DXH.says c 97 rfl)
    (DXH.look (DXH.defs c 18 rfl) (DXH.says c 98 rfl) rfl)
    (DXH.says c 99 rfl)
    (DXH.says c 100 rfl)
    (DXH.says c 101 rfl)
    (DXH.look (DXH.defs c 19 rfl) (DXH.says c 102 rfl) rfl)
    (DXH.says c 103 rfl)
    (DXH.says c 104 rfl)
    (DXH.look (DXH.defs c 20 rfl) (DXH.says c 105 rfl) rfl)
    (DXH.says c 106 rfl)
    (DXH.says c 107 rfl)
    (DXH.says c 108 rfl)
    (DXH.look (DXH.defs c 21 rfl) (DXH.says c 109 rfl) rfl)
    (DXH.says c 110 rfl)
    (DXH.says c 111 rfl)
    (DXH.says c 112 rfl)
    (DXH.says c 113 rfl)
    (DXH.look (DXH.defs c 22 rfl) (DXH.says c 114 rfl) rfl)
    (DXH.says c 115 rfl)
    (DXH.says c 116 rfl)
    (DXH.says c 117 rfl)
    (DXH.look (DXH.defs c 23 rfl) (DXH.says c 118 rfl) rfl)
    (DXH.says c 119 rfl)
    (DXH.says c 120 rfl)
    (DXH.says c 121 rfl)
    (DXH.says c 122 rfl)
    (DXH.says c 123 rfl)
    (DXH.says c 124 rfl)
    (DXH.says c 125 rfl)
    (DXH.says c 126 rfl)
    (DXH.says c 127 rfl)
    (DXH.says c 128 rfl)
    (DXH.says c 129 rfl)
    (DXH.says c 130 rfl)
    (DXH.says c 131 rfl)
    (DXH.isGt_ok (DXH.tells c 132 rfl))
    (DXH.says c 133 rfl)
    (DXH.says c 134 rfl)
    (DXH.says c 135 rfl)
    (DXH.says c 136 rfl)
    (DXH.says c 137 rfl)
    (DXH.says c 138 rfl)
    (DXH.says c 139 rfl)
    (DXH.says c 140 rfl)
    (DXH.says c 141 rfl)
    (DXH.says c 142 rfl)
    (DXH.says c 143 rfl)
    (DXH.says c 144 rfl)
    (DXH.says c 145 rfl)
    (DXH.says c 146 rfl)
    (DXH.says c 147 rfl)
    (DXH.says c 148 rfl)
    (DXH.says c 149 rfl)
    (DXH.says c 150 rfl)
    (DXH.says c 151 rfl)
    (DXH.says c 152 rfl)
    (DXH.says c 153 rfl)
    (DXH.says c 154 rfl)
    (DXH.says c 155 rfl)
    (DXH.says c 156 rfl)
    (DXH.says c 157 rfl)
    (DXH.says c 158 rfl)
    (DXH.says c 159 rfl)
    (DXH.says c 160 rfl)
    (DXH.says c 161 rfl)
    (DXH.says c 162 rfl)
    (DXH.says c 163 rfl)
    (DXH.says c 164 rfl)
    (DXH.says c 165 rfl)
end L03

set_option Elab.async false
set_option linter.all false
set_option maxRecDepth 100000
set_option maxHeartbeats 0
open PySem PySem.W PySem.Calls PyProof.Rows
theorem PySem.Challenge.cw_fooledtest_k03_regions_made_holds : PySem.Challenge.rw_fooledtest_k03_regions_made.Holds := by
  w_on; o_law
  refine HandSHeadRun.head_any (r := OpenLaw.row PySem.Challenge.rw_fooledtest_k03_regions_made) (q := view (OpenLaw.row PySem.Challenge.rw_fooledtest_k03_regions_made).prog [24]) (H := L03.hk) (ob := L03.ob) (M := 20000) (loose := L03.nms) (d := HandSHeadRun.topDef (OpenLaw.row PySem.Challenge.rw_fooledtest_k03_regions_made).prog 24) (kwd := []) L03.ob_eq
    (by kernel_rfl) (fun s => by kernel_rfl) L03.run (by kernel_rfl) (by kernel_rfl) (by kernel_rfl) (by rfl) (by first | assumption | decide +kernel) (by decide +kernel) ⟨rfl, rfl, rfl, rfl, rfl, by decide +kernel⟩ ?hw ?hc
  case hw => w_witness2
  case hc =>
    refine DXH.walk_end (l := PySem.Challenge.rw_fooledtest_k03_regions_made) (n := 63) (k := 6) (x := "_law_script") (CX := fun w => L2N.CX PySem.Challenge.rw_fooledtest_k03_regions_made.prog w) rfl (by decide) (by kernel_rfl) ⟨rfl, by decide, by decide⟩ ?F (fun _ _ _ _ _ ⟨_, _, _, _, _, _, _, _, _, _, _, _, z⟩ => z)
    intro w mg fa h Y G hmg0
    obtain ⟨K, iK, c⟩ := Y
    have hmg : mg ("law" : PySem.Str) = some (.ref fa) := by
      have e : (HandSHeadRun.topDef (OpenLaw.row PySem.Challenge.rw_fooledtest_k03_regions_made).prog 24).name = ("law" : PySem.Str) := by kernel_rfl
      rw [← e]
      exact hmg0
    obtain ⟨g, hb, hF⟩ := L03.facts (l := PySem.Challenge.rw_fooledtest_k03_regions_made) (w := w) iK G hmg c
    exact ⟨K, g, DX.spLaw K [], iK, hb, fun H a ns hl _ hS => ⟨a, ns, rfl, hS, hl, fun _ => rfl, fun _ z => nomatch z⟩, hF⟩
