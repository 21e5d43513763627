import PyProof.Rows.All
import Wide.All
import OpenK.AllK
import Wide.FinOn
import HandS.ForMost
import HandS.Exc
import HandS.TryOnly
import HandS.ExcOwn
import HandS.WordsExc
import HandS.Lambda
import HandS.Wide
import HandS.Style
import HandS.TupMul
import HandS.Deep
import HandS.IsInst
import HandS.Conv
import HandS.Codes
import HandS.SortInts
import HandS.StrMore
import HandS.RaiseMore
import HandS.TupAny
import HandS.Iter
import HandS.Comp
import PyProof.Draws
import PyProof.EnumMake
import KE.GoesMore
import HandS.List
import HandS.Dict
import HandS.Defaults
import HandS.HeadHook2
import HandS.Ends
import HandS.More
import KE.KDictDisplayH
import PyProof.Rows.StrRev
import HandS.Head0
import HandS.Head1
import HandS.Head2
import HandS.HeadEnd
import HandS.HeadHook1
import PyProof.Rows.ChunkLeaf
import HandS.EndTab
import HandS.HeadWalk
import HandS.HeadHook4
import KE.KDflt
import HandS.ExcIs
import HandS.ExcField
import HandS.ExcInit
import KE.KExcIs
import HandS.Zip
import KE.GoesZip
import PySem.Challenge.RW_helperwire_k14_written_and_read
import KE.KStateDown
import Lean
set_option Elab.async false
set_option linter.all false
set_option maxRecDepth 100000
set_option maxHeartbeats 4000000
/-! DL: a layer of data over HandS. A def's body is read as a function of plain data (D), a state of effects (G) beside it. -/
namespace DL
open PySem PySem.Spec PyProof.Rows L2

/-! ### data -/
/-- the lambdas of one def: what stands in the heap for the n-th one at f, its code object at c, its default at t; the code's name; the n-th one's default -/
structure CloM where
  ho : Nat → Addr → Addr → Addr → HO
  q : Str
  df : Nat → Option Int
/-- plain data: what a value stands for, lists and dicts by what they hold; obj: a value as it is; clo: the n-th lambda of M; exn: an exception with a field; ft: a dict with tuple keys that is never changed any more -/
inductive D where
  | non
  | bl (b : Bool)
  | int (i : Int)
  | str (x : List Nat)
  | tup (xs : List D)
  | lst (xs : List D)
  | dk (kvs : List (Key × D))
  | dt (kvs : List (List Key × D))
  | obj (v : V)
  | clo (n : Nat) (M : CloM)
  | exn (a d : Addr) (f : Str) (i : Int)
  | ft (kvs : List (List Key × D))

mutual
inductive Rp (S : Hp) : V → D → Prop
  | non : Rp S .non .non
  | bl (b : Bool) : Rp S (.bl b) (.bl b)
  | int (i : Int) : Rp S (.int i) (.int i)
  | str (x : List Nat) : Rp S (.str ⟨x.toArray⟩) (.str x)
  | obj (v : V) : Rp S v (.obj v)
  | clo {f c t : Addr} {n : Nat} {M : CloM} : S f = some (M.ho n f c t) → S c = some (LamX.CodeO c M.q) → (∀ i, M.df n = some i → S t = some (.tup [.int i])) → Rp S (.ref f) (.clo n M)
  | exn {a d : Addr} {f : Str} {i : Int} : S d = some (.xd [(f, .int i)]) → Rp S (.ref a) (.exn a d f i)
  | ft {a : Addr} {o : Obj} {kvs : List (List Key × V)} {kds : List (List Key × D)} : S a = some (.frz o (.dT kvs)) → RpT S kvs kds → Rp S (.ref a) (.ft kds)
  | at {a : Addr} {o : HO} {d : D} : S a = some o → RpO S o d → Rp S (.ref a) d
inductive RpO (S : Hp) : HO → D → Prop
  | tup {vs : List V} {ds : List D} : RpL S vs ds → RpO S (.tup vs) (.tup ds)
  | lst {vs : List V} {ds : List D} : RpL S vs ds → RpO S (.lst vs) (.lst ds)
  | dk {kvs : List (Key × V)} {kds : List (Key × D)} : RpK S kvs kds → RpO S (.dK kvs) (.dk kds)
  | dt {kvs : List (List Key × V)} {kds : List (List Key × D)} : RpT S kvs kds → RpO S (.dT kvs) (.dt kds)
inductive RpL (S : Hp) : List V → List D → Prop
  | nil : RpL S [] []
  | cons {v : V} {d : D} {vs : List V} {ds : List D} : Rp S v d → RpL S vs ds → RpL S (v :: vs) (d :: ds)
inductive RpK (S : Hp) : List (Key × V) → List (Key × D) → Prop
  | nil : RpK S [] []
  | cons {k : Key} {v : V} {d : D} {vs : List (Key × V)} {ds : List (Key × D)} : Rp S v d → RpK S vs ds → RpK S ((k, v) :: vs) ((k, d) :: ds)
inductive RpT (S : Hp) : List (List Key × V) → List (List Key × D) → Prop
  | nil : RpT S [] []
  | cons {k : List Key} {v : V} {d : D} {vs : List (List Key × V)} {ds : List (List Key × D)} : Rp S v d → RpT S vs ds → RpT S ((k, v) :: vs) ((k, d) :: ds)
end

mutual
theorem Rp.mono {S S' : Hp} (e : Same S S') : ∀ {v : V} {d : D}, Rp S v d → Rp S' v d
  | _, _, .non => .non
  | _, _, .bl b => .bl b
  | _, _, .int i => .int i
  | _, _, .str x => .str x
  | _, _, .obj v => .obj v
  | _, _, .clo h1 h2 h3 => .clo (e _ _ h1) (e _ _ h2) fun i z => e _ _ (h3 i z)
  | _, _, .exn h => .exn (e _ _ h)
  | _, _, .ft h r => .ft (e _ _ h) (RpT.mono e r)
  | _, _, .at h r => .at (e _ _ h) (RpO.mono e r)
theorem RpO.mono {S S' : Hp} (e : Same S S') : ∀ {o : HO} {d : D}, RpO S o d → RpO S' o d
  | _, _, .tup r => .tup (RpL.mono e r)
  | _, _, .lst r => .lst (RpL.mono e r)
  | _, _, .dk r => .dk (RpK.mono e r)
  | _, _, .dt r => .dt (RpT.mono e r)
theorem RpL.mono {S S' : Hp} (e : Same S S') : ∀ {v : List V} {d : List D}, RpL S v d → RpL S' v d
  | _, _, .nil => .nil
  | _, _, .cons a b => .cons (Rp.mono e a) (RpL.mono e b)
theorem RpK.mono {S S' : Hp} (e : Same S S') : ∀ {v : List (Key × V)} {d : List (Key × D)}, RpK S v d → RpK S' v d
  | _, _, .nil => .nil
  | _, _, .cons a b => .cons (Rp.mono e a) (RpK.mono e b)
theorem RpT.mono {S S' : Hp} (e : Same S S') : ∀ {v : List (List Key × V)} {d : List (List Key × D)}, RpT S v d → RpT S' v d
  | _, _, .nil => .nil
  | _, _, .cons a b => .cons (Rp.mono e a) (RpT.mono e b)
end

/-- of a list or dict -/
def NT (d : D) : Prop := ∀ xs, d ≠ D.tup xs
def RpW (S : Hp) (o : HO) (d : D) : Prop := RpO S o d ∧ NT d
theorem RpW.nt {S : Hp} {o : HO} {d : D} (h : RpW S o d) : ∀ xs, o ≠ .tup xs := fun xs e => by
  subst e
  obtain ⟨h1, h2⟩ := h
  cases h1
  exact h2 _ rfl
theorem RpW.mono {S S' : Hp} {o : HO} {d : D} (e : Same S S') (h : RpW S o d) : RpW S' o d := ⟨h.1.mono e, h.2⟩
theorem RpL.length {S : Hp} : ∀ {vs : List V} {ds : List D}, RpL S vs ds → vs.length = ds.length
  | _, _, .nil => rfl
  | _, _, .cons _ b => by rw [List.length_cons, List.length_cons, RpL.length b]
theorem RpL.get {S : Hp} : ∀ {vs : List V} {ds : List D} {i : Nat} {d : D}, RpL S vs ds → ds[i]? = some d → ∃ v, vs[i]? = some v ∧ Rp S v d
  | _, _, _, _, .nil, h => by simp at h
  | _, _, 0, d, .cons a _, h => by simp at h; subst h; exact ⟨_, rfl, a⟩
  | _, _, i + 1, d, .cons _ b, h => by
    obtain ⟨v, h1, h2⟩ := RpL.get (i := i) (d := d) b (by simpa using h)
    exact ⟨v, by simpa using h1, h2⟩
theorem RpL.get' {S : Hp} : ∀ {vs : List V} {ds : List D} {i : Nat} {v : V}, RpL S vs ds → vs[i]? = some v → ∃ d, ds[i]? = some d ∧ Rp S v d
  | _, _, _, _, .nil, h => by simp at h
  | _, _, 0, _, .cons a _, h => by simp at h; subst h; exact ⟨_, rfl, a⟩
  | _, _, i + 1, v, .cons _ b, h => by
    obtain ⟨d, h1, h2⟩ := RpL.get' (i := i) (v := v) b (by simpa using h)
    exact ⟨d, by simpa using h1, h2⟩
theorem RpL.app {S : Hp} : ∀ {vs ws : List V} {ds es : List D}, RpL S vs ds → RpL S ws es → RpL S (vs ++ ws) (ds ++ es)
  | _, _, _, _, .nil, h => h
  | _, _, _, _, .cons a b, h => .cons a (RpL.app b h)
theorem RpL.rev {S : Hp} : ∀ {vs : List V} {ds : List D}, RpL S vs ds → RpL S vs.reverse ds.reverse
  | _, _, .nil => .nil
  | _, _, .cons a b => by
    rw [List.reverse_cons, List.reverse_cons]
    exact RpL.app (RpL.rev b) (.cons a .nil)
theorem RpL.take {S : Hp} : ∀ (n : Nat) {vs : List V} {ds : List D}, RpL S vs ds → RpL S (vs.take n) (ds.take n)
  | 0, _, _, _ => .nil
  | _ + 1, _, _, .nil => .nil
  | n + 1, _, _, .cons a b => .cons a (RpL.take n b)
theorem RpL.drop {S : Hp} : ∀ (n : Nat) {vs : List V} {ds : List D}, RpL S vs ds → RpL S (vs.drop n) (ds.drop n)
  | 0, _, _, h => h
  | _ + 1, _, _, .nil => .nil
  | n + 1, _, _, .cons _ b => RpL.drop n b
theorem RpL.set {S : Hp} {v : V} {d : D} (r : Rp S v d) : ∀ (n : Nat) {vs : List V} {ds : List D}, RpL S vs ds → RpL S (vs.set n v) (ds.set n d)
  | _, _, _, .nil => .nil
  | 0, _, _, .cons _ b => .cons r b
  | n + 1, _, _, .cons a b => .cons a (RpL.set r n b)
theorem RpL.snoc {S : Hp} {vs : List V} {ds : List D} {v : V} {d : D} (h : RpL S vs ds) (r : Rp S v d) : RpL S (vs ++ [v]) (ds ++ [d]) := RpL.app h (.cons r .nil)

/-! ### three parts of the heap: what stands for good (S), what effects change (F), a frame's own lists and dicts (O) -/
structure Inn (S F O H : Hp) : Prop where
  s : Same S H
  f : Same F H
  o : Same O H
  sf : ∀ a, S a ≠ none → F a = none
  so : ∀ a, S a ≠ none → O a = none
  fo : ∀ a, F a ≠ none → O a = none
  ft : ∀ a xs, F a ≠ some (.tup xs)
  ot : ∀ a xs, O a ≠ some (.tup xs)
/-- nobody's own: new, a tuple, or the effects' -/
def Fre (H F : Hp) (a : Addr) : Prop := H a = none ∨ (∃ xs, H a = some (.tup xs)) ∨ F a ≠ none
def nil : Hp := fun _ => none
structure Stp (S F O H S' F' O' H' : Hp) : Prop where
  inn : Inn S' F' O' H'
  ss : Same S S'
  keep : ∀ a o, H a = some o → F a = none → O a = none → H' a = some o
  dom : ∀ a, H a ≠ none → H' a ≠ none
  ns : ∀ a, S' a ≠ none → S a ≠ none ∨ O a ≠ none ∨ Fre H F a
  nf : ∀ a, F' a ≠ none → F a ≠ none ∨ H a = none
  no : ∀ a, O' a ≠ none → O a ≠ none ∨ H a = none
theorem nn_of {H : Hp} {a : Addr} {o : HO} (h : H a = some o) : H a ≠ none := fun e => by rw [h] at e; cases e
theorem some_of_nn {H : Hp} {a : Addr} (h : H a ≠ none) : ∃ o, H a = some o := Option.ne_none_iff_exists'.mp h
theorem no_of_nn {H : Hp} {a : Addr} (h : ¬ H a ≠ none) : H a = none := Classical.not_not.mp h
section
variable {S F O H S1 F1 O1 H1 S2 F2 O2 H2 : Hp} {p : Addr} {o o' : HO}
theorem Inn.fs (I : Inn S F O H) (h : F p ≠ none) : S p = none := no_of_nn fun z => h (I.sf p z)
theorem Inn.os (I : Inn S F O H) (h : O p ≠ none) : S p = none := no_of_nn fun z => h (I.so p z)
theorem Inn.of (I : Inn S F O H) (h : O p ≠ none) : F p = none := no_of_nn fun z => h (I.fo p z)
theorem Inn.noS (I : Inn S F O H) (h : H p = none) : S p = none := no_of_nn fun z => by
  obtain ⟨u, e⟩ := some_of_nn z
  rw [I.s p u e] at h; cases h
theorem Inn.noF (I : Inn S F O H) (h : H p = none) : F p = none := no_of_nn fun z => by
  obtain ⟨u, e⟩ := some_of_nn z
  rw [I.f p u e] at h; cases h
theorem Inn.noO (I : Inn S F O H) (h : H p = none) : O p = none := no_of_nn fun z => by
  obtain ⟨u, e⟩ := some_of_nn z
  rw [I.o p u e] at h; cases h
theorem Inn.tupF {xs : List V} (I : Inn S F O H) (h : H p = some (.tup xs)) : F p = none := no_of_nn fun z => by
  obtain ⟨u, e⟩ := some_of_nn z
  have := I.f p u e
  rw [h] at this
  cases this
  exact I.ft p xs e
theorem Inn.tupO {xs : List V} (I : Inn S F O H) (h : H p = some (.tup xs)) : O p = none := no_of_nn fun z => by
  obtain ⟨u, e⟩ := some_of_nn z
  have := I.o p u e
  rw [h] at this
  cases this
  exact I.ot p xs e
theorem Stp.refl (I : Inn S F O H) : Stp S F O H S F O H := ⟨I, Same.refl S, fun _ _ h _ _ => h, fun _ h => h, fun _ h => .inl h, fun _ h => .inl h, fun _ h => .inl h⟩
theorem Stp.trans (I : Inn S F O H) (a : Stp S F O H S1 F1 O1 H1) (b : Stp S1 F1 O1 H1 S2 F2 O2 H2) : Stp S F O H S2 F2 O2 H2 := by
  have back : ∀ x, H1 x = none → H x = none := fun x h => no_of_nn fun z => a.dom x z h
  refine ⟨b.inn, a.ss.trans b.ss, fun x u h hf ho => ?_, fun x h => b.dom x (a.dom x h), fun x h => ?_, fun x h => ?_, fun x h => ?_⟩
  · have h1 := a.keep x u h hf ho
    refine b.keep x u h1 (no_of_nn fun z => ?_) (no_of_nn fun z => ?_)
    · rcases a.nf x z with z | z
      · exact z hf
      · rw [h] at z; cases z
    · rcases a.no x z with z | z
      · exact z ho
      · rw [h] at z; cases z
  · rcases b.ns x h with z | z | z
    · exact a.ns x z
    · rcases a.no x z with z | z
      · exact .inr (.inl z)
      · exact .inr (.inr (.inl z))
    · rcases z with z | ⟨xs, z⟩ | z
      · exact .inr (.inr (.inl (back x z)))
      · cases e : H x with
        | none => exact .inr (.inr (.inl e))
        | some u =>
          by_cases hO : O x = none
          · by_cases hF : F x = none
            · have e1 := a.keep x u e hF hO
              rw [z] at e1
              cases e1
              exact .inr (.inr (.inr (.inl ⟨xs, e⟩)))
            · exact .inr (.inr (.inr (.inr hF)))
          · exact .inr (.inl hO)
      · rcases a.nf x z with q | q
        · exact .inr (.inr (.inr (.inr q)))
        · exact .inr (.inr (.inl q))
  · rcases b.nf x h with z | z
    · exact a.nf x z
    · exact .inr (back x z)
  · rcases b.no x h with z | z
    · exact a.no x z
    · exact .inr (back x z)
theorem upd_nn {H : Hp} {x : Addr} (h : upd H p o x ≠ none) : x = p ∨ H x ≠ none := by
  by_cases e : x = p
  · exact .inl e
  · rw [upd_ne e] at h; exact .inr h
theorem same_updO (e : Same S H) (h : S p = none) : Same S (upd H p o) := fun x u q => by
  have n : x ≠ p := fun z => by rw [z, h] at q; cases q
  rw [upd_ne n]; exact e x u q
theorem same_upd2 (e : Same S H) : Same (upd S p o) (upd H p o) := fun x u q => by
  by_cases n : x = p
  · subst n; rw [upd_same] at q ⊢; exact q
  · rw [upd_ne n] at q ⊢; exact e x u q
theorem same_new (h : H p = none) : Same H (upd H p o) := same_updO (Same.refl H) h
/-- a new thing stands for good -/
theorem Stp.new (I : Inn S F O H) (h : H p = none) : Stp S F O H (upd S p o) F O (upd H p o) := by
  have hs := I.noS h
  have hf := I.noF h
  have ho := I.noO h
  refine ⟨⟨same_upd2 I.s, same_updO I.f hf, same_updO I.o ho, fun a z => ?_, fun a z => ?_, I.fo, I.ft, I.ot⟩, same_new hs, fun a u q _ _ => ?_, fun a z => ?_, fun a z => ?_, fun _ z => .inl z, fun _ z => .inl z⟩
  · rcases upd_nn z with e | e
    · rw [e]; exact hf
    · exact I.sf a e
  · rcases upd_nn z with e | e
    · rw [e]; exact ho
    · exact I.so a e
  · rw [upd_ne (ne_of_none q h)]; exact q
  · obtain ⟨u, q⟩ := some_of_nn z
    rw [upd_ne (ne_of_none q h)]; exact z
  · rcases upd_nn z with e | e
    · exact .inr (.inr (.inl (by rw [e]; exact h)))
    · exact .inl e
/-- a new thing that is nobody's yet -/
theorem Stp.temp (I : Inn S F O H) (h : H p = none) : Stp S F O H S F O (upd H p o) := by
  have hs := I.noS h
  have hf := I.noF h
  have ho := I.noO h
  refine ⟨⟨same_updO I.s hs, same_updO I.f hf, same_updO I.o ho, I.sf, I.so, I.fo, I.ft, I.ot⟩, Same.refl S, fun a u q _ _ => ?_, fun a z => ?_, fun _ z => .inl z, fun _ z => .inl z, fun _ z => .inl z⟩
  · rw [upd_ne (ne_of_none q h)]; exact q
  · obtain ⟨u, q⟩ := some_of_nn z
    rw [upd_ne (ne_of_none q h)]; exact z
/-- what was nobody's stands for good -/
theorem Inn.stand (I : Inn S F O H) (h : H p = some o) (hf : F p = none) (ho : O p = none) : Inn (upd S p o) F O H := by
  refine ⟨fun a u q => ?_, I.f, I.o, fun a z => ?_, fun a z => ?_, I.fo, I.ft, I.ot⟩
  · by_cases e : a = p
    · subst e; rw [upd_same] at q; cases q; exact h
    · rw [upd_ne e] at q; exact I.s a u q
  · rcases upd_nn z with e | e
    · rw [e]; exact hf
    · exact I.sf a e
  · rcases upd_nn z with e | e
    · rw [e]; exact ho
    · exact I.so a e
/-- what was nobody's becomes the frame's own -/
theorem Inn.own (I : Inn S F O H) (h : H p = some o) (hs : S p = none) (hf : F p = none) (nt : ∀ xs, o ≠ .tup xs) : Inn S F (upd O p o) H := by
  refine ⟨I.s, I.f, fun a u q => ?_, I.sf, fun a z => ?_, fun a z => ?_, I.ft, fun a xs z => ?_⟩
  · by_cases e : a = p
    · subst e; rw [upd_same] at q; cases q; exact h
    · rw [upd_ne e] at q; exact I.o a u q
  · rw [upd_ne (fun e => by rw [e] at z; exact z hs)]; exact I.so a z
  · rw [upd_ne (fun e => by rw [e] at z; exact z hf)]; exact I.fo a z
  · by_cases e : a = p
    · rw [e, upd_same] at z; exact nt xs (Option.some.inj z)
    · rw [upd_ne e] at z; exact I.ot a xs z
def off (O : Hp) (p : Addr) : Hp := fun a => if a = p then none else O a
theorem off_same : off O p p = none := by unfold off; rw [if_pos rfl]
theorem off_ne {a : Addr} (h : a ≠ p) : off O p a = O a := by unfold off; rw [if_neg h]
theorem off_nn {a : Addr} (h : off O p a ≠ none) : a ≠ p ∧ O a ≠ none := by
  by_cases e : a = p
  · rw [e, off_same] at h; exact absurd rfl h
  · rw [off_ne e] at h; exact ⟨e, h⟩
/-- one's own is given away: it stands for good -/
theorem Stp.give (I : Inn S F O H) (h : O p = some o) : Stp S F O H (upd S p o) F (off O p) H := by
  have hs := I.os (nn_of h)
  have hf := I.of (nn_of h)
  refine ⟨⟨fun a u q => ?_, I.f, fun a u q => ?_, fun a z => ?_, fun a z => ?_, fun a z => ?_, I.ft, fun a xs z => ?_⟩, same_new hs, fun _ _ q _ _ => q, fun _ z => z, fun a z => ?_, fun _ z => .inl z, fun a z => .inl (off_nn z).2⟩
  · by_cases e : a = p
    · subst e; rw [upd_same] at q; cases q; exact I.o _ _ h
    · rw [upd_ne e] at q; exact I.s a u q
  · have n := off_nn (nn_of q)
    rw [off_ne n.1] at q; exact I.o a u q
  · rcases upd_nn z with e | e
    · rw [e]; exact hf
    · exact I.sf a e
  · rcases upd_nn z with e | e
    · rw [e]; exact off_same
    · by_cases q : a = p
      · rw [q]; exact off_same
      · rw [off_ne q]; exact I.so a e
  · by_cases q : a = p
    · rw [q]; exact off_same
    · rw [off_ne q]; exact I.fo a z
  · rw [off_ne (off_nn (nn_of z)).1] at z
    exact I.ot a xs z
  · rcases upd_nn z with e | e
    · exact .inr (.inl (by rw [e]; exact nn_of h))
    · exact .inl e
/-- one's own is written -/
theorem Stp.write (I : Inn S F O H) (h : O p = some o) (nt : ∀ xs, o' ≠ .tup xs := by intro _ z; cases z) : Stp S F O H S F (upd O p o') (upd H p o') := by
  have hs := I.os (nn_of h)
  have hf := I.of (nn_of h)
  refine ⟨⟨same_updO I.s hs, same_updO I.f hf, same_upd2 I.o, I.sf, fun a z => ?_, fun a z => ?_, I.ft, fun a xs z => ?_⟩, Same.refl S, fun a u q _ ho => ?_, fun a z => ?_, fun _ z => .inl z, fun _ z => .inl z, fun a z => ?_⟩
  · rw [upd_ne (fun e => by rw [e] at z; exact z hs)]; exact I.so a z
  · rw [upd_ne (fun e => by rw [e] at z; exact z hf)]; exact I.fo a z
  · by_cases e : a = p
    · rw [e, upd_same] at z; exact nt xs (Option.some.inj z)
    · rw [upd_ne e] at z; exact I.ot a xs z
  · rw [upd_ne (fun e => by rw [e, h] at ho; cases ho)]; exact q
  · by_cases e : a = p
    · rw [e, upd_same]; intro q; cases q
    · rw [upd_ne e]; exact z
  · rcases upd_nn z with e | e
    · exact .inl (by rw [e]; exact nn_of h)
    · exact .inl e
end

/-! ### what runs: an answer, an error, or nothing is told -/
structure Exc where
  nm : Str
  fld : Option (Str × Int)
inductive Out (G α : Type) where
  | ok (a : α) (g : G)
  | er (e : Exc) (g : G)
  | bad
def Out.bind {G α β : Type} : Out G α → (α → G → Out G β) → Out G β
  | .ok a g, k => k a g
  | .er e g, _ => .er e g
  | .bad, _ => .bad
@[simp] theorem bind_ok {G α β : Type} (a : α) (g : G) (k : α → G → Out G β) : (Out.ok a g).bind k = k a g := rfl
@[simp] theorem bind_er {G α β : Type} (e : Exc) (g : G) (k : α → G → Out G β) : (Out.er e g : Out G α).bind k = .er e g := rfl
@[simp] theorem bind_bad {G α β : Type} (k : α → G → Out G β) : (Out.bad : Out G α).bind k = .bad := rfl
def Out.lift {G α : Type} (o : Option α) (g : G) : Out G α := match o with
  | some a => .ok a g
  | none => .bad
@[simp] theorem lift_some {G α : Type} (a : α) (g : G) : Out.lift (some a) g = .ok a g := rfl
@[simp] theorem lift_none {G α : Type} (g : G) : Out.lift (none : Option α) g = .bad := rfl

/-- a slot's or an expression's value: fr: data that stands for good; ow: a list or dict of one's own, or new; bo: one's own, lent -/
inductive SV where
  | fr (d : D)
  | ow (d : D)
  | bo (d : D)
abbrev DSt := List (Option SV)

/-- effects: their state, what it is in the heap -/
structure Eff where
  G : Type
  R : G → Hp → Hp → Prop
  mono : ∀ g S S' F, Same S S' → R g S F → R g S' F

/-- the slots -/
structure RpS (S O : Hp) (σ : L2.St) (sd : DSt) : Prop where
  len : σ.length = sd.length
  fr : ∀ (i : Nat) (d : D), sd[i]? = some (some (SV.fr d)) → ∃ v, σ[i]? = some (some v) ∧ Rp S v d
  ow : ∀ (i : Nat) (d : D), sd[i]? = some (some (SV.ow d)) → ∃ (p : Addr) (o : HO), σ[i]? = some (some (V.ref p)) ∧ O p = some o ∧ RpW S o d
  ne : ∀ (i j : Nat) (d e : D) (p : Addr), sd[i]? = some (some (SV.ow d)) → sd[j]? = some (some (SV.ow e)) → σ[i]? = some (some (V.ref p)) → σ[j]? = some (some (V.ref p)) → i = j
  nb : ∀ (i : Nat) (d : D), sd[i]? ≠ some (some (SV.bo d))

/-- an error, its own dict -/
def ExR (mg : Str → Option Value) (e : Exc) (cls : Value) (dx : Option Addr) (S : Hp) : Prop :=
  mg e.nm = some cls ∧ match e.fld with
    | none => dx = none
    | some (f, i) => ∃ a, dx = some a ∧ S a = some (.xd [(f, .int i)])
theorem ExR.mono {mg : Str → Option Value} {e : Exc} {cls : Value} {dx : Option Addr} {S S' : Hp} (h : Same S S') (r : ExR mg e cls dx S) : ExR mg e cls dx S' := by
  obtain ⟨r1, r2⟩ := r
  refine ⟨r1, ?_⟩
  split at r2
  · exact r2
  · obtain ⟨a, e1, e2⟩ := r2
    exact ⟨a, e1, h _ _ e2⟩

/-- how a value tells data: RD H S' F' O H' v a -/
abbrev RD (α : Type) := Hp → Hp → Hp → Hp → Hp → V → α → Prop
/-- data for good -/
def rD : RD D := fun _ S _ _ _ v d => Rp S v d
/-- to be read -/
def RpB (S O : Hp) (v : V) (d : D) : Prop := Rp S v d ∨ ∃ (p : Addr) (o : HO), v = .ref p ∧ O p = some o ∧ RpW S o d
def rB : RD D := fun _ S _ O _ v d => RpB S O v d
/-- any -/
def rV : RD SV := fun H S F O H' v x => match x with
  | .fr d => Rp S v d
  | .ow d => ∃ (p : Addr) (o : HO), v = .ref p ∧ H' p = some o ∧ RpW S o d ∧ S p = none ∧ F p = none ∧ O p = none ∧ H p = none
  | .bo d => ∃ (p : Addr) (o : HO), v = .ref p ∧ O p = some o ∧ RpW S o d

def post {G α : Type} (A : α → G → Prop) (E : Exc → G → Prop) : Out G α → Prop
  | .ok a g => A a g
  | .er e g => E e g
  | .bad => False
theorem post_bind {G α β : Type} {A : β → G → Prop} {E : Exc → G → Prop} {o : Out G α} {k : α → G → Out G β} : post A E (o.bind k) ↔ post (fun a g => post A E (k a g)) E o := by cases o <;> exact Iff.rfl
theorem post_mono {G α : Type} {A A' : α → G → Prop} {E E' : Exc → G → Prop} {o : Out G α} (h : post A E o) (ha : ∀ a g, A a g → A' a g) (he : ∀ e g, E e g → E' e g) : post A' E' o := by
  cases o with
  | ok a g => exact ha a g h
  | er e g => exact he e g h
  | bad => exact h
theorem post_lift {G α : Type} {A : α → G → Prop} {E : Exc → G → Prop} {o : Option α} {g : G} : post A E (Out.lift o g) ↔ ∃ a, o = some a ∧ A a g := by
  cases o with
  | some a => exact ⟨fun h => ⟨a, rfl, h⟩, fun ⟨b, e, h⟩ => by cases e; exact h⟩
  | none => exact ⟨fun h => h.elim, fun ⟨b, e, h⟩ => by cases e⟩
section
variable (Z : Eff) (mg : Str → Option Value)
def okQ {α : Type} (rd : RD α) (S F O H : Hp) (Q : VK) : α → Z.G → Prop := fun a g' => ∀ v S' F' H', Stp S F O H S' F' O H' → Z.R g' S' F' → rd H S' F' O H' v a → Q v H'
def okB (S F O H : Hp) (Q : Bool → Hp → Prop) : Bool → Z.G → Prop := fun b g' => ∀ S' F' H', Stp S F O H S' F' O H' → Z.R g' S' F' → Q b H'
def okA (S F O H : Hp) (Q : List V → Hp → Prop) : List D → Z.G → Prop := fun ds g' => ∀ vs S' F' H', Stp S F O H S' F' O H' → Z.R g' S' F' → RpL S' vs ds → Q vs H'
def erQ (W : WX) (σ : L2.St) (S F O H : Hp) : Exc → Z.G → Prop := fun e g' => ∀ cls dx S' F' H', Stp S F O H S' F' O H' → Z.R g' S' F' → ExR mg e cls dx S' → W cls dx σ H'
/-- an expression's reading gives f's answer -/
def EG {α : Type} (rd : RD α) (W : WX) (te : TE) (f : DSt → Z.G → Out Z.G α) : Prop :=
  ∀ (S F O H : Hp) (σ : L2.St) (sd : DSt) (g : Z.G) (Q : VK), Inn S F O H → RpS S O σ sd → Z.R g S F → post (okQ Z rd S F O H Q) (erQ Z mg W σ S F O H) (f sd g) → te σ H Q
/-- a test's -/
def BG (W : WX) (tt : TT) (f : DSt → Z.G → Out Z.G Bool) : Prop :=
  ∀ (S F O H : Hp) (σ : L2.St) (sd : DSt) (g : Z.G) (Q : Bool → Hp → Prop), Inn S F O H → RpS S O σ sd → Z.R g S F → post (okB Z S F O H Q) (erQ Z mg W σ S F O H) (f sd g) → tt σ H Q
/-- arguments' -/
def AG (W : WX) (ta : TA) (f : DSt → Z.G → Out Z.G (List D)) : Prop :=
  ∀ (S F O H : Hp) (σ : L2.St) (sd : DSt) (g : Z.G) (Q : List V → Hp → Prop), Inn S F O H → RpS S O σ sd → Z.R g S F → post (okA Z S F O H Q) (erQ Z mg W σ S F O H) (f sd g) → ta σ H Q
end

/-! ### slots -/
section
variable {S S' F O O' H : Hp} {σ : L2.St} {sd : DSt} {i : Nat} {d : D} {v : V}
theorem RpS.mono (e : Same S S') (r : RpS S O σ sd) : RpS S' O σ sd := ⟨r.len, fun i d h => by
  obtain ⟨v, h1, h2⟩ := r.fr i d h
  exact ⟨v, h1, h2.mono e⟩, fun i d h => by
  obtain ⟨p, o, h1, h2, h3⟩ := r.ow i d h
  exact ⟨p, o, h1, h2, h3.mono e⟩, r.ne, r.nb⟩
theorem RpB.mono (e : Same S S') (r : RpB S O v d) : RpB S' O v d := by
  rcases r with r | ⟨p, o, h1, h2, h3⟩
  · exact .inl (r.mono e)
  · exact .inr ⟨p, o, h1, h2, h3.mono e⟩
end

/-! ### steps -/
section
variable {Z : Eff} {mg : Str → Option Value} {W : WX} {S F O H S1 F1 H1 S2 F2 H2 : Hp} {σ : L2.St} {sd : DSt} {g g' : Z.G}
theorem back_none {O1 : Hp} (a : Stp S F O H S1 F1 O1 H1) {p : Addr} (h : H1 p = none) : H p = none := no_of_nn fun z => a.dom p z h
theorem erQ_from (I : Inn S F O H) (a : Stp S F O H S1 F1 O H1) {e : Exc} (h : erQ Z mg W σ S F O H e g) : erQ Z mg W σ S1 F1 O H1 e g :=
  fun cls dx S' F' H' st r x => h cls dx S' F' H' (a.trans I st) r x
theorem okB_from (I : Inn S F O H) (a : Stp S F O H S1 F1 O H1) {Q : Bool → Hp → Prop} {b : Bool} (h : okB Z S F O H Q b g) : okB Z S1 F1 O H1 Q b g :=
  fun S' F' H' st r => h S' F' H' (a.trans I st) r
theorem okA_from (I : Inn S F O H) (a : Stp S F O H S1 F1 O H1) {Q : List V → Hp → Prop} {b : List D} (h : okA Z S F O H Q b g) : okA Z S1 F1 O H1 Q b g :=
  fun vs S' F' H' st r x => h vs S' F' H' (a.trans I st) r x
/-- a reading of values that looks back at the start by new places alone -/
def Backs {α : Type} (rd : RD α) : Prop := ∀ H H1 S' F' O H' v a, (∀ p, H1 p = none → H p = none) → rd H1 S' F' O H' v a → rd H S' F' O H' v a
theorem backs_D : Backs rD := fun _ _ _ _ _ _ _ _ _ h => h
theorem backs_B : Backs rB := fun _ _ _ _ _ _ _ _ _ h => h
theorem backs_V : Backs rV := fun H H1 S' F' O H' v a hb h => by
  cases a with
  | fr d => exact h
  | bo d => exact h
  | ow d =>
    obtain ⟨p, o, e1, e2, e3, e4, e5, e6, e7⟩ := h
    exact ⟨p, o, e1, e2, e3, e4, e5, e6, hb p e7⟩
theorem okQ_from {α : Type} {rd : RD α} (hb : Backs rd) (I : Inn S F O H) (a : Stp S F O H S1 F1 O H1) {Q : VK} {x : α} (h : okQ Z rd S F O H Q x g) : okQ Z rd S1 F1 O H1 Q x g :=
  fun v S' F' H' st r q => h v S' F' H' (a.trans I st) r (hb _ _ _ _ _ _ _ _ (fun _ z => back_none a z) q)
theorem Stp.stand {p : Addr} {o : HO} {O1 : Hp} (a : Stp S F O H S1 F1 O1 H1) (h : H1 p = some o) (hf : F1 p = none) (ho : O1 p = none) (hs : S1 p = none) (h0 : Fre H F p) : Stp S F O H (upd S1 p o) F1 O1 H1 :=
  ⟨a.inn.stand h hf ho, a.ss.trans (same_new hs), a.keep, a.dom, fun x z => by
    rcases upd_nn z with e | e
    · exact .inr (.inr (by rw [e]; exact h0))
    · exact a.ns x e, a.nf, a.no⟩
end

/-! ### kinds of answers -/
section
variable {Z : Eff} {mg : Str → Option Value} {W : WX} {te : TE}
def SV.d : SV → D
  | .fr d => d
  | .ow d => d
  | .bo d => d
/-- to be kept: what is lent isn't -/
def SV.keep : SV → Option D
  | .fr d => some d
  | .ow d => some d
  | .bo _ => none
def toB {G : Type} (f : DSt → G → Out G SV) : DSt → G → Out G D := fun sd g => (f sd g).bind fun x g' => .ok x.d g'
def toD {G : Type} (f : DSt → G → Out G SV) : DSt → G → Out G D := fun sd g => (f sd g).bind fun x g' => Out.lift x.keep g'
theorem eg_b {f : DSt → Z.G → Out Z.G SV} (h : EG Z mg rV W te f) : EG Z mg rB W te (toB f) := fun S F O H σ sd g Q I r hR hp => by
  refine h S F O H σ sd g Q I r hR (post_mono (post_bind.mp hp) (fun x g' q v S' F' H' st hR' rv => ?_) fun _ _ q => q)
  have q : okQ Z rB S F O H Q x.d g' := q
  cases x with
  | fr d => exact q v S' F' H' st hR' (.inl rv)
  | bo d => exact q v S' F' H' st hR' (.inr rv)
  | ow d =>
    obtain ⟨p, o, e1, e2, e3, e4, e5, e6, e7⟩ := rv
    subst e1
    exact q _ _ F' H' (st.stand e2 e5 e6 e4 (.inl e7)) (Z.mono _ _ _ _ (same_new e4) hR') (.inl (.at upd_same (e3.1.mono (same_new e4))))
theorem eg_d {f : DSt → Z.G → Out Z.G SV} (h : EG Z mg rV W te f) : EG Z mg rD W te (toD f) := fun S F O H σ sd g Q I r hR hp => by
  refine h S F O H σ sd g Q I r hR (post_mono (post_bind.mp hp) (fun x g' q v S' F' H' st hR' rv => ?_) fun _ _ q => q)
  obtain ⟨d, e, q⟩ := post_lift.mp q
  cases x with
  | fr d' => cases e; exact q v S' F' H' st hR' rv
  | bo d' => cases e
  | ow d' =>
    cases e
    obtain ⟨p, o, e1, e2, e3, e4, e5, e6, e7⟩ := rv
    subst e1
    exact q _ _ F' H' (st.stand e2 e5 e6 e4 (.inl e7)) (Z.mono _ _ _ _ (same_new e4) hR') (.at upd_same (e3.1.mono (same_new e4)))
end

/-! ### names, constants -/
section
variable {Z : Eff} {mg : Str → Option Value} {W : WX} {ta tb tc te : TE}
/-- the i-th slot -/
def fVar {G : Type} (i : Nat) : DSt → G → Out G SV := fun sd g => match sd[i]? with
  | some (some (.fr d)) => .ok (.fr d) g
  | some (some (.ow d)) => .ok (.bo d) g
  | _ => .bad
theorem eg_var (i : Nat) : EG Z mg rV W (tVar i) (fVar i) := fun S F O H σ sd g Q I r hR hp => by
  unfold fVar at hp
  split at hp
  · rename_i d e
    obtain ⟨v, h1, h2⟩ := r.fr i d e
    exact ⟨v, h1, hp v S F H (Stp.refl I) hR h2⟩
  · rename_i d e
    obtain ⟨p, o, h1, h2, h3⟩ := r.ow i d e
    exact ⟨_, h1, hp _ S F H (Stp.refl I) hR ⟨p, o, rfl, h2, h3⟩⟩
  · exact hp.elim
def fC {G : Type} (d : D) : DSt → G → Out G SV := fun _ g => .ok (.fr d) g
theorem eg_c {v : V} {d : D} (h : ∀ S, Rp S v d) : EG Z mg rV W (tC v) (fC d) := fun S F O H σ sd g Q I r hR hp => hp v S F H (Stp.refl I) hR (h S)

/-! ### operations by values -/
def OpS (r : R2) (op : D → D → Option SV) : Prop := ∀ (S F O H : Hp) (x y : V) (dx dy : D) (z : SV) (Q : VK), Inn S F O H → RpB S O x dx → RpB S O y dy → op dx dy = some z →
  (∀ v S' H', Stp S F O H S' F O H' → rV H S' F O H' v z → Q v H') → r x y H Q
def fOp {G : Type} (op : D → D → Option SV) (fa fb : DSt → G → Out G D) : DSt → G → Out G SV := fun sd g => (fa sd g).bind fun x g1 => (fb sd g1).bind fun y g2 => Out.lift (op x y) g2
theorem eg_op {r : R2} {op : D → D → Option SV} {fa fb : DSt → Z.G → Out Z.G D} (ho : OpS r op) (ha : EG Z mg rB W ta fa) (hb : EG Z mg rB W tb fb) : EG Z mg rV W (tOp r ta tb) (fOp op fa fb) := fun S F O H σ sd g Q I rs hR hp => by
  refine ha S F O H σ sd g _ I rs hR (post_mono (post_bind.mp hp) (fun dx g1 q1 x S1 F1 H1 st1 hR1 r1 => ?_) fun _ _ q => q)
  refine hb S1 F1 O H1 σ sd g1 _ st1.inn (rs.mono st1.ss) hR1 (post_mono (post_bind.mp q1) (fun dy g2 q2 y S2 F2 H2 st2 hR2 r2 => ?_) fun _ _ q => erQ_from I st1 q)
  obtain ⟨z, ez, q3⟩ := post_lift.mp q2
  refine ho S2 F2 O H2 x y dx dy z Q st2.inn (r1.mono st2.ss) r2 ez fun v S' H' st3 rv => ?_
  have st := (st1.trans I st2).trans I st3
  exact q3 v S' F2 H' st (Z.mono _ _ _ _ st3.ss hR2) (backs_V _ _ _ _ _ _ _ _ (fun _ z => back_none (st1.trans I st2) z) rv)
def UnS (r : V → Hp → VK → Prop) (op : D → Option SV) : Prop := ∀ (S F O H : Hp) (x : V) (dx : D) (z : SV) (Q : VK), Inn S F O H → RpB S O x dx → op dx = some z →
  (∀ v S' H', Stp S F O H S' F O H' → rV H S' F O H' v z → Q v H') → r x H Q
def fUn {G : Type} (op : D → Option SV) (fa : DSt → G → Out G D) : DSt → G → Out G SV := fun sd g => (fa sd g).bind fun x g1 => Out.lift (op x) g1
theorem eg_un {r : V → Hp → VK → Prop} {op : D → Option SV} {fa : DSt → Z.G → Out Z.G D} (ho : UnS r op) (ha : EG Z mg rB W ta fa) : EG Z mg rV W (tUn r ta) (fUn op fa) := fun S F O H σ sd g Q I rs hR hp => by
  refine ha S F O H σ sd g _ I rs hR (post_mono (post_bind.mp hp) (fun dx g1 q1 x S1 F1 H1 st1 hR1 r1 => ?_) fun _ _ q => q)
  obtain ⟨z, ez, q3⟩ := post_lift.mp q1
  refine ho S1 F1 O H1 x dx z Q st1.inn r1 ez fun v S' H' st3 rv => ?_
  exact q3 v S' F1 H' (st1.trans I st3) (Z.mono _ _ _ _ st3.ss hR1) (backs_V _ _ _ _ _ _ _ _ (fun _ z => back_none st1 z) rv)
theorem OpS.or1 {r r' : R2} {op op' : D → D → Option SV} (h : OpS r op) (h' : OpS r' op') : OpS (fun x y H Q => r x y H Q ∨ r' x y H Q) (fun a b => (op a b).or (op' a b)) := fun S F O H x y dx dy z Q I rx ry e k => by
  dsimp only at e
  cases e1 : op dx dy with
  | some w => rw [e1] at e; cases e; exact .inl (h S F O H x y dx dy _ Q I rx ry e1 k)
  | none => rw [e1] at e; exact .inr (h' S F O H x y dx dy z Q I rx ry e k)
end
end DL
namespace DL
open PySem PySem.Spec PyProof.Rows L2
/-! ### what a value is, by its data -/
abbrev mk (l : List Nat) : Str := ⟨l.toArray⟩
abbrev lim : Nat := 16777216
theorem lim_eq : sizeLine = lim := sizeLine_eq
section
variable {S F O H : Hp} {x : V}
theorem rb_int {i : Int} (h : RpB S O x (.int i)) : x = .int i := by
  rcases h with h | ⟨p, o, e, h, r⟩
  · cases h with
    | int => rfl
    | «at» h r => cases r
  · cases r.1
theorem rb_bl {i : Bool} (h : RpB S O x (.bl i)) : x = .bl i := by
  rcases h with h | ⟨p, o, e, h, r⟩
  · cases h with
    | bl => rfl
    | «at» h r => cases r
  · cases r.1
theorem rb_str {i : List Nat} (h : RpB S O x (.str i)) : x = .str (mk i) := by
  rcases h with h | ⟨p, o, e, h, r⟩
  · cases h with
    | str => rfl
    | «at» h r => cases r
  · cases r.1
theorem rb_non (h : RpB S O x .non) : x = .non := by
  rcases h with h | ⟨p, o, e, h, r⟩
  · cases h with
    | non => rfl
    | «at» h r => cases r
  · cases r.1
theorem rb_obj {v : V} (h : RpB S O x (.obj v)) : x = v := by
  rcases h with h | ⟨p, o, e, h, r⟩
  · cases h with
    | obj => rfl
    | «at» h r => cases r
  · cases r.1
theorem rb_at {d : D} (I : Inn S F O H) (h : RpB S O x d) (hn : match d with | .lst _ => True | .tup _ => True | .dk _ => True | .dt _ => True | _ => False) : ∃ p o, x = .ref p ∧ H p = some o ∧ RpO S o d := by
  rcases h with h | ⟨p, o, e, h, r⟩
  · cases h with
    | «at» h r => exact ⟨_, _, rfl, I.s _ _ h, r⟩
    | non => exact hn.elim
    | bl => exact hn.elim
    | int => exact hn.elim
    | str => exact hn.elim
    | obj => exact hn.elim
    | clo => exact hn.elim
    | exn => exact hn.elim
    | ft => exact hn.elim
  · exact ⟨p, o, e, I.o _ _ h, r.1⟩
theorem rb_lst {ds : List D} (I : Inn S F O H) (h : RpB S O x (.lst ds)) : ∃ p vs, x = .ref p ∧ H p = some (.lst vs) ∧ RpL S vs ds := by
  obtain ⟨p, o, e, h, r⟩ := rb_at I h trivial
  cases r with
  | lst r => exact ⟨p, _, e, h, r⟩
theorem rb_tup {ds : List D} (I : Inn S F O H) (h : RpB S O x (.tup ds)) : ∃ p vs, x = .ref p ∧ H p = some (.tup vs) ∧ RpL S vs ds := by
  obtain ⟨p, o, e, h, r⟩ := rb_at I h trivial
  cases r with
  | tup r => exact ⟨p, _, e, h, r⟩
theorem rb_dk {ds : List (Key × D)} (I : Inn S F O H) (h : RpB S O x (.dk ds)) : ∃ p vs, x = .ref p ∧ H p = some (.dK vs) ∧ RpK S vs ds := by
  obtain ⟨p, o, e, h, r⟩ := rb_at I h trivial
  cases r with
  | dk r => exact ⟨p, _, e, h, r⟩
theorem rb_dt {ds : List (List Key × D)} (I : Inn S F O H) (h : RpB S O x (.dt ds)) : ∃ p vs, x = .ref p ∧ H p = some (.dT vs) ∧ RpT S vs ds := by
  obtain ⟨p, o, e, h, r⟩ := rb_at I h trivial
  cases r with
  | dt r => exact ⟨p, _, e, h, r⟩
theorem tl_mk' (l : List Nat) : (mk l).cps.toList = l := rfl
theorem len_mk (l : List Nat) : (mk l).length = l.length := rfl
/-- a new list, a new tuple -/
theorem new_lst {vs : List V} {ds : List D} {Q : VK} (I : Inn S F O H) (r : RpL S vs ds) (k : ∀ v S' H', Stp S F O H S' F O H' → rV H S' F O H' v (.ow (.lst ds)) → Q v H') : ∀ p, H p = none → Q (.ref p) (upd H p (.lst vs)) := fun p h =>
  k _ S _ (Stp.temp I h) ⟨p, _, rfl, upd_same, ⟨.lst r, fun xs z => nomatch z⟩, I.noS h, I.noF h, I.noO h, h⟩
theorem new_tup {vs : List V} {ds : List D} {Q : VK} (I : Inn S F O H) (r : RpL S vs ds) (k : ∀ v S' H', Stp S F O H S' F O H' → rV H S' F O H' v (.fr (.tup ds)) → Q v H') : ∀ p, H p = none → Q (.ref p) (upd H p (.tup vs)) := fun p h =>
  k _ _ _ (Stp.new I h) (Rp.at upd_same (.tup (r.mono (same_new (I.noS h)))))
end

/-! ### + - * % // ** -/
def oAdd : D → D → Option SV
  | .int i, .int j => some (.fr (.int (i + j)))
  | .str x, .str y => if x.length + y.length ≤ lim then some (.fr (.str (x ++ y))) else none
  | .lst x, .lst y => if x.length + y.length ≤ lim then some (.ow (.lst (x ++ y))) else none
  | .tup x, .tup y => if x.isEmpty = false ∧ y.isEmpty = false ∧ x.length + y.length ≤ lim then some (.fr (.tup (x ++ y))) else none
  | _, _ => none
def rAddS : R2 := fun x y H Q => ∃ i j, x = .str i ∧ y = .str j ∧ i.length + j.length ≤ sizeLine ∧ Q (.str (i ++ j)) H
def rAddA (K : PySem.W.Frag) : R2 := fun x y H Q => rI0 (fun i j => .int (i + j)) x y H Q ∨ rAddS x y H Q ∨ rCat x y H Q ∨ rCatT K x y H Q
theorem op_addA {X : Cx} : OpR X (binaryOp .Add) (rAddA X.K) := op_add.or (OpR.or op_add_str (op_cat.or op_catT))
theorem mk_app (x y : List Nat) : mk x ++ mk y = mk (x ++ y) := TL.ext_tl (by rw [TL.tl_append])
theorem os_add {K : PySem.W.Frag} : OpS (rAddA K) oAdd := fun S F O H x y dx dy z Q I rx ry e k => by
  unfold oAdd at e
  split at e
  · cases e
    rw [rb_int rx, rb_int ry]
    exact .inl ⟨_, _, rfl, rfl, k _ S H (Stp.refl I) (.int _)⟩
  · split at e
    · rename_i a b h
      cases e
      rw [rb_str rx, rb_str ry]
      refine .inr (.inl ⟨_, _, rfl, rfl, by rw [len_mk, len_mk, lim_eq]; exact h, ?_⟩)
      rw [mk_app]
      exact k _ S H (Stp.refl I) (.str _)
    · cases e
  · split at e
    · rename_i a b h
      cases e
      obtain ⟨p, vs, rfl, hp, rp⟩ := rb_lst I rx
      obtain ⟨q, ws, rfl, hq, rq⟩ := rb_lst I ry
      exact .inr (.inr (.inl ⟨p, q, vs, ws, rfl, rfl, hp, hq, by rw [rp.length, rq.length, lim_eq]; exact h, new_lst I (rp.app rq) k⟩))
    · cases e
  · split at e
    · rename_i a b h
      cases e
      obtain ⟨p, vs, rfl, hp, rp⟩ := rb_tup I rx
      obtain ⟨q, ws, rfl, hq, rq⟩ := rb_tup I ry
      have ne : ∀ {us : List V} {ds : List D}, RpL S us ds → ds.isEmpty = false → us ≠ [] := fun {us ds} r h hv => by
        rw [hv] at r
        cases r
        cases h
      exact .inr (.inr (.inr ⟨p, q, vs, ws, rfl, rfl, SqT.of hp, SqT.of hq, ne rp h.1, by rw [rp.length, rq.length, lim_eq]; exact h.2.2, fun hn => absurd hn (ne rq h.2.1), fun _ => new_tup I (rp.app rq) k⟩))
    · cases e
  · cases e

def oSub : D → D → Option SV
  | .int i, .int j => some (.fr (.int (i - j)))
  | _, _ => none
abbrev rSubA : R2 := rI0 fun i j => .int (i - j)
theorem os_sub : OpS rSubA oSub := fun S F O H x y dx dy z Q I rx ry e k => by
  unfold oSub at e
  split at e
  · cases e
    rw [rb_int rx, rb_int ry]
    exact ⟨_, _, rfl, rfl, k _ S H (Stp.refl I) (.int _)⟩
  · cases e
/-- text * number -/
def rMulS : R2 := fun x y H Q => ∃ (i : Str) (j : Int), x = .str i ∧ y = .int j ∧ 0 ≤ j ∧ i.length * j.toNat ≤ lim ∧ j.toNat ≤ lim ∧ Q (.str (mk (List.replicate j.toNat i.cps.toList).flatten)) H
theorem fold_reps (c : Array Nat) : ∀ (k : Nat) (acc : Array Nat), ((List.replicate k c).foldl (· ++ ·) acc).toList = acc.toList ++ (List.replicate k c.toList).flatten
  | 0, acc => by simp
  | k + 1, acc => by
    rw [List.replicate_succ, List.foldl_cons, fold_reps c k, List.replicate_succ, List.flatten_cons, Array.toList_append, List.append_assoc]
theorem mul_eq (x : Str) (n : Int) (h0 : 0 ≤ n) : Txt.mul x n = mk (List.replicate n.toNat x.cps.toList).flatten := by
  apply TL.ext_tl
  unfold Txt.mul
  by_cases h1 : n < 1
  · rw [if_pos h1]
    have e : n.toNat = 0 := by omega
    rw [e]
    rfl
  · rw [if_neg h1]
    split
    · rename_i hc
      rw [Bool.or_eq_true, beq_iff_eq, beq_iff_eq] at hc
      rcases hc with h | h
      · rw [h]
        show x.cps.toList = (List.replicate 1 x.cps.toList).flatten
        simp
      · have e : x.cps.toList = [] := (TL.len0_tl x).mp h
        show x.cps.toList = (List.replicate n.toNat x.cps.toList).flatten
        rw [e]
        simp
    · show ((List.replicate n.toNat x.cps).foldl (· ++ ·) #[]).toList = (List.replicate n.toNat x.cps.toList).flatten
      rw [fold_reps]
      simp
theorem op_mulS {X : Cx} : OpR X (binaryOp .Mult) rMulS := by
  intro pins s σ H x y v u Q I rx ry h
  obtain ⟨i, j, rfl, rfl, h0, hz, hj, q⟩ := h
  obtain ⟨t, rfl⟩ := rx
  obtain ⟨t', rfl⟩ := ry
  rw [← mul_eq i j h0] at q
  have hok : MulOk i j := by
    have hz' : i.length * j.toNat ≤ 16777216 := hz
    have hj' : j.toNat ≤ 16777216 := hj
    refine ⟨?_, fun h1 _ => ?_, fun h1 _ => ?_⟩
    · rw [decide_eq_false (by omega), decide_eq_false (by omega)]; rfl
    · have hpos : 0 < j := by omega
      have e : ((i.length * j.toNat : Nat) : Int) = (i.length : Int) * j := by
        rw [Int.natCast_mul, Int.toNat_of_nonneg (by omega)]
      have h3 : (i.length : Int) * j ≤ 2 ^ 63 - 1 := by rw [← e]; omega
      have h4 : (i.length : Int) ≤ (2 ^ 63 - 1) / j := (Int.le_ediv_iff_mul_le hpos).mpr h3
      omega
    · exact short24 hz'
  exact SB.mul hok fun t' k => ⟨.str _, H, I.tok _, ⟨_, rfl⟩, q⟩
noncomputable def oMul : D → D → Option SV
  | .int i, .int j => @ite _ ((-(2 ^ 64) < i ∧ i < 2 ^ 64) ∨ (-(2 ^ 64) < j ∧ j < 2 ^ 64)) (Classical.propDecidable _) (some (.fr (.int (i * j)))) none
  | .str x, .int j => if 0 ≤ j ∧ x.length * j.toNat ≤ lim ∧ j.toNat ≤ lim then some (.fr (.str (List.replicate j.toNat x).flatten)) else none
  | .lst x, .int j => if 0 ≤ j ∧ x.length * j.toNat ≤ lim ∧ j.toNat ≤ lim then some (.ow (.lst (List.replicate j.toNat x).flatten)) else none
  | .tup x, .int j => if x.isEmpty = false ∧ 2 ≤ j ∧ j ≤ 1000 ∧ x.length ≤ 1000 then some (.fr (.tup (List.replicate j.toNat x).flatten)) else none
  | _, _ => none
def rMulA (K : PySem.W.Frag) : R2 := fun x y H Q => rI CMul (fun i j => .int (i * j)) x y H Q ∨ rMulS x y H Q ∨ rRep x y H Q ∨ rRepT K x y H Q
theorem op_mulA {X : Cx} : OpR X (binaryOp .Mult) (rMulA X.K) := op_mul.or (op_mulS.or (op_rep.or op_repT))
theorem RpL.rep {S : Hp} {vs : List V} {ds : List D} (r : RpL S vs ds) : ∀ n : Nat, RpL S (List.replicate n vs).flatten (List.replicate n ds).flatten
  | 0 => .nil
  | n + 1 => by
    rw [List.replicate_succ, List.replicate_succ, List.flatten_cons, List.flatten_cons]
    exact r.app (RpL.rep r n)
theorem ne_nil_of {S : Hp} {us : List V} {ds : List D} (r : RpL S us ds) (h : ds.isEmpty = false) : us ≠ [] := fun hv => by
  rw [hv] at r
  cases r
  cases h
theorem os_mul {K : PySem.W.Frag} : OpS (rMulA K) oMul := fun S F O H x y dx dy z Q I rx ry e k => by
  unfold oMul at e
  split at e
  · split at e
    · rename_i h
      cases e
      rw [rb_int rx, rb_int ry]
      exact .inl ⟨_, _, rfl, rfl, h, k _ S H (Stp.refl I) (.int _)⟩
    · cases e
  · split at e
    · rename_i h
      cases e
      rw [rb_str rx, rb_int ry]
      exact .inr (.inl ⟨_, _, rfl, rfl, h.1, by rw [len_mk]; exact h.2.1, h.2.2, k _ S H (Stp.refl I) (.str _)⟩)
    · cases e
  · split at e
    · rename_i h
      cases e
      obtain ⟨p, vs, rfl, hp, rp⟩ := rb_lst I rx
      rw [rb_int ry]
      have h3 : _ ≤ 16777216 := h.2.2
      exact .inr (.inr (.inl ⟨p, _, vs, rfl, rfl, hp, by omega, by omega, by rw [rp.length, lim_eq]; exact h.2.1, new_lst I (rp.rep _) k⟩))
    · cases e
  · split at e
    · rename_i h
      cases e
      obtain ⟨p, vs, rfl, hp, rp⟩ := rb_tup I rx
      rw [rb_int ry]
      exact .inr (.inr (.inr ⟨p, _, vs, rfl, rfl, SqT.of hp, ne_nil_of rp h.1, h.2.1, h.2.2.1, by rw [rp.length]; exact h.2.2.2, new_tup I (rp.rep _) k⟩))
    · cases e
  · cases e
def oMod : D → D → Option SV
  | .int i, .int j => if 0 < j then some (.fr (.int (i % j))) else none
  | _, _ => none
abbrev rModA : R2 := rI (fun _ j => 0 < j) fun i j => .int (i % j)
theorem os_mod : OpS rModA oMod := fun S F O H x y dx dy z Q I rx ry e k => by
  unfold oMod at e
  split at e
  · split at e
    · rename_i h
      cases e
      rw [rb_int rx, rb_int ry]
      exact ⟨_, _, rfl, rfl, h, k _ S H (Stp.refl I) (.int _)⟩
    · cases e
  · cases e
noncomputable def oDiv : D → D → Option SV
  | .int i, .int j => @ite _ (0 < j ∧ j < 2 ^ 200) (Classical.propDecidable _) (some (.fr (.int (i / j)))) none
  | _, _ => none
abbrev rDivA : R2 := rI CDivW fun i j => .int (i / j)
theorem os_div : OpS rDivA oDiv := fun S F O H x y dx dy z Q I rx ry e k => by
  unfold oDiv at e
  split at e
  · split at e
    · rename_i i j h
      cases e
      rw [rb_int rx, rb_int ry]
      exact ⟨_, _, rfl, rfl, wide_div (b := 200) h.1 (by have := h.2; omega) (by decide) (by decide), k _ S H (Stp.refl I) (.int _)⟩
    · cases e
  · cases e
noncomputable def oPow : D → D → Option SV
  | .int i, .int j => @ite _ (0 ≤ j ∧ j ≤ 1000 ∧ i.natAbs < 2 ^ 64) (Classical.propDecidable _) (some (.fr (.int (i ^ j.toNat)))) none
  | _, _ => none
abbrev rPowA : R2 := rI CPow fun i j => .int (i ^ j.toNat)
theorem os_pow : OpS rPowA oPow := fun S F O H x y dx dy z Q I rx ry e k => by
  unfold oPow at e
  split at e
  · split at e
    · rename_i i j h
      cases e
      rw [rb_int rx, rb_int ry]
      exact ⟨_, _, rfl, rfl, ⟨h.1, by have := h.2.1; omega, h.2.2⟩, k _ S H (Stp.refl I) (.int _)⟩
    · cases e
  · cases e
def uNeg : D → Option SV
  | .int i => some (.fr (.int (-i)))
  | _ => none
theorem us_neg : UnS (rU fun i => .int (-i)) uNeg := fun S F O H x dx z Q I rx e k => by
  unfold uNeg at e
  split at e
  · cases e
    rw [rb_int rx]
    exact ⟨_, rfl, k _ S H (Stp.refl I) (.int _)⟩
  · cases e

/-! ### == of data -/
mutual
def D.ok : D → Bool
  | .non => true
  | .bl _ => true
  | .int _ => true
  | .str x => x.all fun c => decide (c < 1114112)
  | .tup xs => D.okAll xs
  | .lst xs => D.okAll xs
  | .dk _ => false
  | .dt _ => false
  | .obj _ => false
  | .clo _ _ => false
  | .exn _ _ _ _ => false
  | .ft _ => false
def D.okAll : List D → Bool
  | [] => true
  | x :: xs => D.ok x && D.okAll xs
end
mutual
def D.dep : D → Nat
  | .tup xs => D.depAll xs + 1
  | .lst xs => D.depAll xs + 1
  | _ => 0
def D.depAll : List D → Nat
  | [] => 0
  | x :: xs => max (D.dep x) (D.depAll xs)
end
mutual
def D.pd : D → PyData
  | .non => .none
  | .bl b => .bool b
  | .int i => .int i
  | .str x => .str (mk x)
  | .tup xs => .tuple (D.pdAll xs)
  | .lst xs => .list (D.pdAll xs)
  | .dk _ => .none
  | .dt _ => .none
  | .obj _ => .none
  | .clo _ _ => .none
  | .exn _ _ _ _ => .none
  | .ft _ => .none
def D.pdAll : List D → List PyData
  | [] => []
  | x :: xs => D.pd x :: D.pdAll xs
end
mutual
theorem D.lay : ∀ d : D, d.ok = true → d.pd.canLay0 = true ∧ d.pd.depth = d.dep
  | .non, _ => ⟨rfl, rfl⟩
  | .bl _, _ => ⟨rfl, rfl⟩
  | .int _, _ => ⟨rfl, rfl⟩
  | .str x, h => by
    refine ⟨?_, rfl⟩
    show ((mk x).cps.all (· < 0x110000)) = true
    have h' : (x.all fun c => decide (c < 1114112)) = true := h
    rw [List.all_eq_true] at h'
    rw [Array.all_eq_true_iff_forall_mem]
    intro c hc
    have h2 := of_decide_eq_true (h' c (by simpa using hc))
    simp; omega
  | .tup xs, h => ⟨(D.layAll xs h).1, congrArg (· + 1) (D.layAll xs h).2⟩
  | .lst xs, h => ⟨(D.layAll xs h).1, congrArg (· + 1) (D.layAll xs h).2⟩
  | .dk _, h => absurd h (by intro z; cases z)
  | .dt _, h => absurd h (by intro z; cases z)
  | .obj _, h => absurd h (by intro z; cases z)
  | .clo _ _, h => absurd h (by intro z; cases z)
  | .exn _ _ _ _, h => absurd h (by intro z; cases z)
  | .ft _, h => absurd h (by intro z; cases z)
theorem D.layAll : ∀ ds : List D, D.okAll ds = true → PyData.canLayAll0 (D.pdAll ds) = true ∧ PyData.depthAll (D.pdAll ds) = D.depAll ds
  | [], _ => ⟨rfl, rfl⟩
  | x :: xs, h => by
    have h' : (D.ok x && D.okAll xs) = true := h
    rw [Bool.and_eq_true] at h'
    have a := D.lay x h'.1
    have b := D.layAll xs h'.2
    refine ⟨?_, ?_⟩
    · show (PyData.canLay0 (D.pd x) && PyData.canLayAll0 (D.pdAll xs)) = true
      rw [a.1, b.1]; rfl
    · show max (PyData.depth (D.pd x)) (PyData.depthAll (D.pdAll xs)) = max (D.dep x) (D.depAll xs)
      rw [a.2, b.2]
end
def D.fit (d : D) : Bool := d.ok && decide (d.dep ≤ 60)
theorem D.shaped {d : D} (h : d.fit = true) : SeqAt.shaped d.pd = true := by
  unfold D.fit at h
  rw [Bool.and_eq_true, decide_eq_true_eq] at h
  have a := D.lay d h.1
  unfold SeqAt.shaped
  rw [a.1, a.2, Bool.true_and, decide_eq_true_eq]
  have h2 := h.2
  omega
def D.eqv (a b : D) : Bool := PyData.eqv a.pd b.pd
mutual
theorem dp_of {K : PySem.W.Frag} {S H : Hp} (e : Same S H) : ∀ (d : D) (v : V), d.ok = true → Rp S v d → Dp K H v d.pd
  | .non, _, _, .non => .non
  | .bl b, _, _, .bl _ => .bl b
  | .int i, _, _, .int _ => .int i
  | .str x, _, _, .str _ => .str _
  | .tup ds, _, h, .at q r => by
    cases r with
    | tup r => exact .tup (SqT.of (e _ _ q)) (dpAll_of e ds _ h r)
  | .lst ds, _, h, .at q r => by
    cases r with
    | lst r => exact .lst (SqL.of (e _ _ q)) (dpAll_of e ds _ h r)
  | .dk _, _, h, _ => absurd h (by intro z; cases z)
  | .dt _, _, h, _ => absurd h (by intro z; cases z)
  | .obj _, _, h, _ => absurd h (by intro z; cases z)
  | .clo _ _, _, h, _ => absurd h (by intro z; cases z)
  | .exn _ _ _ _, _, h, _ => absurd h (by intro z; cases z)
  | .ft _, _, h, _ => absurd h (by intro z; cases z)
theorem dpAll_of {K : PySem.W.Frag} {S H : Hp} (e : Same S H) : ∀ (ds : List D) (vs : List V), D.okAll ds = true → RpL S vs ds → DpAll K H vs (D.pdAll ds)
  | [], _, _, .nil => .nil
  | d :: ds, _, h, .cons a b => by
    have h' : (D.ok d && D.okAll ds) = true := h
    rw [Bool.and_eq_true] at h'
    exact .cons (dp_of e d _ h'.1 a) (dpAll_of e ds _ h'.2 b)
end
theorem dp_b {K : PySem.W.Frag} {S F O H : Hp} {v : V} {d : D} (I : Inn S F O H) (h : d.ok = true) (r : RpB S O v d) : Dp K H v d.pd := by
  rcases r with r | ⟨p, o, e, q, r⟩
  · exact dp_of I.s d v h r
  · subst e
    obtain ⟨r, _⟩ := r
    cases r with
    | tup r => exact .tup (SqT.of (I.o _ _ q)) (dpAll_of I.s _ _ h r)
    | lst r => exact .lst (SqL.of (I.o _ _ q)) (dpAll_of I.s _ _ h r)
    | dk r => cases h
    | dt r => cases h
theorem fit_ok {d : D} (h : d.fit = true) : d.ok = true := by
  unfold D.fit at h
  rw [Bool.and_eq_true] at h
  exact h.1
def oEq (a b : D) : Option SV := if a.fit = true ∧ b.fit = true then some (.fr (.bl (a.eqv b))) else none
def oNe (a b : D) : Option SV := if a.fit = true ∧ b.fit = true then some (.fr (.bl (!a.eqv b))) else none
theorem os_eq {K : PySem.W.Frag} : OpS (rEqD K) oEq := fun S F O H x y dx dy z Q I rx ry e k => by
  unfold oEq at e
  split at e
  · rename_i h
    cases e
    exact ⟨_, _, dp_b I (fit_ok h.1) rx, dp_b I (fit_ok h.2) ry, D.shaped h.1, D.shaped h.2, k _ S H (Stp.refl I) (.bl _)⟩
  · cases e
theorem os_ne {K : PySem.W.Frag} : OpS (rNeD K) oNe := fun S F O H x y dx dy z Q I rx ry e k => by
  unfold oNe at e
  split at e
  · rename_i h
    cases e
    exact ⟨_, _, dp_b I (fit_ok h.1) rx, dp_b I (fit_ok h.2) ry, D.shaped h.1, D.shaped h.2, k _ S H (Stp.refl I) (.bl _)⟩
  · cases e

/-! ### < <= > >= -/
def oLt : D → D → Option SV
  | .int i, .int j => some (.fr (.bl (decide (i < j))))
  | .str i, .str j => some (.fr (.bl (decide (i < j))))
  | _, _ => none
def oLe : D → D → Option SV
  | .int i, .int j => some (.fr (.bl (decide (i ≤ j))))
  | .str i, .str j => some (.fr (.bl (!decide (j < i))))
  | _, _ => none
def oGt : D → D → Option SV
  | .int i, .int j => some (.fr (.bl (decide (j < i))))
  | .str i, .str j => some (.fr (.bl (decide (j < i))))
  | _, _ => none
def oGe : D → D → Option SV
  | .int i, .int j => some (.fr (.bl (decide (j ≤ i))))
  | .str i, .str j => some (.fr (.bl (!decide (i < j))))
  | _, _ => none
def rOrd (f : Int → Int → Bool) (g : List Nat → List Nat → Bool) : R2 := fun x y H Q => rI0 (fun i j => .bl (f i j)) x y H Q ∨ ∃ i j, x = .str i ∧ y = .str j ∧ Q (.bl (g i.cps.toList j.cps.toList)) H
abbrev rLtA : R2 := rOrd (fun i j => decide (i < j)) fun i j => decide (i < j)
abbrev rLeA : R2 := rOrd (fun i j => decide (i ≤ j)) fun i j => !decide (j < i)
abbrev rGtA : R2 := rOrd (fun i j => decide (j < i)) fun i j => decide (j < i)
abbrev rGeA : R2 := rOrd (fun i j => decide (j ≤ i)) fun i j => !decide (i < j)
theorem op_ltA {X : Cx} : OpR X (compareOp .Lt) rLtA := op_lt.or op_lt_str
theorem op_leA {X : Cx} : OpR X (compareOp .LtE) rLeA := op_le.or op_le_str
theorem op_gtA {X : Cx} : OpR X (compareOp .Gt) rGtA := op_gt.or op_gt_str
theorem op_geA {X : Cx} : OpR X (compareOp .GtE) rGeA := op_ge.or op_ge_str
theorem os_lt : OpS rLtA oLt := fun S F O H x y dx dy z Q I rx ry e k => by
  unfold oLt at e
  split at e
  · cases e; rw [rb_int rx, rb_int ry]; exact .inl ⟨_, _, rfl, rfl, k _ S H (Stp.refl I) (.bl _)⟩
  · cases e; rw [rb_str rx, rb_str ry]; exact .inr ⟨_, _, rfl, rfl, k _ S H (Stp.refl I) (.bl _)⟩
  · cases e
theorem os_le : OpS rLeA oLe := fun S F O H x y dx dy z Q I rx ry e k => by
  unfold oLe at e
  split at e
  · cases e; rw [rb_int rx, rb_int ry]; exact .inl ⟨_, _, rfl, rfl, k _ S H (Stp.refl I) (.bl _)⟩
  · cases e; rw [rb_str rx, rb_str ry]; exact .inr ⟨_, _, rfl, rfl, k _ S H (Stp.refl I) (.bl _)⟩
  · cases e
theorem os_gt : OpS rGtA oGt := fun S F O H x y dx dy z Q I rx ry e k => by
  unfold oGt at e
  split at e
  · cases e; rw [rb_int rx, rb_int ry]; exact .inl ⟨_, _, rfl, rfl, k _ S H (Stp.refl I) (.bl _)⟩
  · cases e; rw [rb_str rx, rb_str ry]; exact .inr ⟨_, _, rfl, rfl, k _ S H (Stp.refl I) (.bl _)⟩
  · cases e
theorem os_ge : OpS rGeA oGe := fun S F O H x y dx dy z Q I rx ry e k => by
  unfold oGe at e
  split at e
  · cases e; rw [rb_int rx, rb_int ry]; exact .inl ⟨_, _, rfl, rfl, k _ S H (Stp.refl I) (.bl _)⟩
  · cases e; rw [rb_str rx, rb_str ry]; exact .inr ⟨_, _, rfl, rfl, k _ S H (Stp.refl I) (.bl _)⟩
  · cases e

/-! ### is None -/
def D.isNon : D → Option Bool
  | .non => some true
  | .obj (.ref _) => some false
  | .obj _ => none
  | _ => some false
theorem isNon_of {S O : Hp} {x : V} {d : D} {b : Bool} (r : RpB S O x d) (e : d.isNon = some b) : decide (x = .non) = b := by
  rcases r with r | ⟨p, o, ex, q, r⟩
  · cases r with
    | non => cases e; rfl
    | bl => cases e; rfl
    | int => cases e; rfl
    | str => cases e; rfl
    | obj =>
      cases x with
      | ref a => cases e; rfl
      | _ => cases e
    | clo => cases e; rfl
    | exn => cases e; rfl
    | ft => cases e; rfl
    | «at» q r => cases r <;> (cases e; rfl)
  · subst ex
    cases r.1 <;> (cases e; rfl)
def uIsN (d : D) : Option SV := d.isNon.map fun b => .fr (.bl b)
def uNotN (d : D) : Option SV := d.isNon.map fun b => .fr (.bl (!b))

/-! ### in -/
/-- a part of a text -/
def subL (x y : List Nat) : Bool := (List.range (y.length + 1)).any fun k => TL.pre x (y.drop k)
theorem subL_iff (x y : Str) (h0 : TL.tl y ≠ []) : (!(Builtin.Str.occurrences x y 0 x.length 1).isEmpty) = subL (TL.tl y) (TL.tl x) := by
  rw [Bool.eq_iff_iff, PySem.StrLaws.found_iff]
  unfold subL
  rw [List.any_eq_true]
  constructor
  · rintro ⟨i, h1, h2⟩
    refine ⟨i, List.mem_range.mpr ?_, (TL.at_iff h0 i).mp ⟨h1, h2⟩⟩
    have : x.length = (TL.tl x).length := rfl
    omega
  · rintro ⟨i, h1, h2⟩
    obtain ⟨a, b⟩ := (TL.at_iff h0 i).mpr h2
    exact ⟨i, a, b⟩
def D.flat : D → Bool
  | .non => true
  | .bl _ => true
  | .int _ => true
  | .str _ => true
  | _ => false
/-- == of flat data -/
def D.eqf : D → D → Bool
  | .non, .non => true
  | .bl a, .bl b => a == b
  | .bl a, .int b => (if a then 1 else 0) == b
  | .int a, .bl b => a == (if b then 1 else 0)
  | .int a, .int b => a == b
  | .str a, .str b => a == b
  | _, _ => false
theorem flat_of {S O : Hp} {x : V} {d : D} (r : RpB S O x d) (h : d.flat = true) : flatV x = true := by
  cases d with
  | non => rw [rb_non r]; rfl
  | bl b => rw [rb_bl r]; rfl
  | int b => rw [rb_int r]; rfl
  | str b => rw [rb_str r]; rfl
  | _ => cases h
theorem mk_beq (a b : List Nat) : (mk a == mk b) = (a == b) := by
  rw [Bool.eq_iff_iff, beq_iff_eq, beq_iff_eq]
  constructor
  · intro h
    have := congrArg TL.tl h
    exact this
  · intro h
    rw [h]
theorem eqf_of {S O S' O' : Hp} {x y : V} {d e : D} (r : RpB S O x d) (q : RpB S' O' y e) (hd : d.flat = true) (he : e.flat = true) : eqV x y = d.eqf e := by
  cases d with
  | non => rw [rb_non r]; cases e with
    | non => rw [rb_non q]; rfl
    | bl b => rw [rb_bl q]; rfl
    | int b => rw [rb_int q]; rfl
    | str b => rw [rb_str q]; rfl
    | _ => cases he
  | bl a => rw [rb_bl r]; cases e with
    | non => rw [rb_non q]; rfl
    | bl b => rw [rb_bl q]; rfl
    | int b => rw [rb_int q]; rfl
    | str b => rw [rb_str q]; rfl
    | _ => cases he
  | int a => rw [rb_int r]; cases e with
    | non => rw [rb_non q]; rfl
    | bl b => rw [rb_bl q]; rfl
    | int b => rw [rb_int q]; rfl
    | str b => rw [rb_str q]; rfl
    | _ => cases he
  | str a => rw [rb_str r]; cases e with
    | non => rw [rb_non q]; rfl
    | bl b => rw [rb_bl q]; rfl
    | int b => rw [rb_int q]; rfl
    | str b => rw [rb_str q]; exact mk_beq a b
    | _ => cases he
  | _ => cases hd
theorem inV_of {S O : Hp} {x : V} {d : D} (r : RpB S O x d) (hd : d.flat = true) : ∀ {vs : List V} {ds : List D}, RpL S vs ds → ds.all D.flat = true → vs.all flatV = true ∧ inV x vs = ds.any fun e => e.eqf d
  | _, _, .nil, _ => ⟨rfl, rfl⟩
  | _, _, .cons (v := v) (d := e) (vs := vs) (ds := ds) a b, h => by
    rw [List.all_cons, Bool.and_eq_true] at h
    obtain ⟨i1, i2⟩ := inV_of r hd b h.2
    refine ⟨?_, ?_⟩
    · rw [List.all_cons, flat_of (O := O) (.inl a) h.1, i1]; rfl
    · show (eqV v x || inV x vs) = (D.eqf e d || ds.any fun e => e.eqf d)
      rw [i2, eqf_of (O := O) (.inl a) r h.1 hd]
def oInB : D → D → Option Bool
  | .str x, .str y => if x.isEmpty = true then none else some (subL x y)
  | d, .lst ds => if d.flat = true ∧ ds.all D.flat = true then some (ds.any fun e => e.eqf d) else if d.fit = true ∧ (D.lst ds).fit = true then some (ds.any fun e => e.eqv d) else none
  | d, .tup ds => if d.flat = true ∧ ds.all D.flat = true then some (ds.any fun e => e.eqf d) else none
  | _, _ => none
def oIn (x y : D) : Option SV := (oInB x y).map fun b => .fr (.bl b)
def oNotIn (x y : D) : Option SV := (oInB x y).map fun b => .fr (.bl (!b))
def rInStr (n : Bool) : R2 := fun x y H Q => ∃ i j, x = .str i ∧ y = .str j ∧ Q (.bl (if n then !(!(Builtin.Str.occurrences j i 0 j.length 1).isEmpty) else !(Builtin.Str.occurrences j i 0 j.length 1).isEmpty)) H
def rInA (K : PySem.W.Frag) : R2 := fun x y H Q => rInStr false x y H Q ∨ rIn K false x y H Q ∨ rInD K x y H Q
def rNotInA (K : PySem.W.Frag) : R2 := fun x y H Q => rInStr true x y H Q ∨ rIn K true x y H Q ∨ rNotInD K x y H Q
theorem op_inA {X : Cx} (hu : X.A.units + 65 < cLine) : OpR X (compareOp .In) (rInA X.K) := OpR.or op_in_str (op_in_seq.or (op_inD hu))
theorem op_notInA {X : Cx} (hu : X.A.units + 65 < cLine) : OpR X (compareOp .NotIn) (rNotInA X.K) := OpR.or op_notin_str (op_notIn_seq.or (op_notInD hu))
theorem pdAll_map : ∀ ds : List D, D.pdAll ds = ds.map D.pd
  | [] => rfl
  | d :: ds => by
    show D.pd d :: D.pdAll ds = _
    rw [pdAll_map ds]; rfl
theorem any_pd (d : D) : ∀ ds : List D, ((D.pdAll ds).any fun z => PyData.eqv z d.pd) = ds.any fun e => e.eqv d
  | [] => rfl
  | e :: ds => by
    show (PyData.eqv e.pd d.pd || (D.pdAll ds).any fun z => PyData.eqv z d.pd) = (e.eqv d || ds.any fun e => e.eqv d)
    rw [any_pd d ds]; rfl
theorem inB_of {K : PySem.W.Frag} {S F O H : Hp} {x y : V} {dx dy : D} {b : Bool} (I : Inn S F O H) (rx : RpB S O x dx) (ry : RpB S O y dy) (e : oInB dx dy = some b) :
    (∃ i j, x = .str i ∧ y = .str j ∧ (!(Builtin.Str.occurrences j i 0 j.length 1).isEmpty) = b) ∨ (∃ p xs, y = .ref p ∧ (SqL K H p xs ∨ SqT K H p xs) ∧ flatV x = true ∧ xs.all flatV = true ∧ inV x xs = b) ∨
      (∃ d ds, Dp K H x d ∧ Dp K H y (.list ds) ∧ SeqAt.shaped d = true ∧ SeqAt.shaped (.list ds) = true ∧ (ds.any fun z => PyData.eqv z d) = b) := by
  unfold oInB at e
  split at e
  · rename_i i j
    split at e
    · cases e
    · rename_i h
      cases e
      rw [rb_str rx, rb_str ry]
      refine .inl ⟨_, _, rfl, rfl, subL_iff (mk j) (mk i) fun z => h ?_⟩
      have z' : i = [] := z
      rw [z']; rfl
  · rename_i ds h
    split at e
    · rename_i hf
      cases e
      obtain ⟨p, vs, rfl, hp, rp⟩ := rb_lst I ry
      obtain ⟨a, c⟩ := inV_of rx hf.1 rp hf.2
      exact .inr (.inl ⟨p, vs, rfl, .inl (SqL.of hp), flat_of rx hf.1, a, c⟩)
    · split at e
      · rename_i hf
        cases e
        exact .inr (.inr ⟨_, _, dp_b I (fit_ok hf.1) rx, dp_b I (fit_ok hf.2) ry, D.shaped hf.1, D.shaped hf.2, any_pd _ _⟩)
      · cases e
  · rename_i ds h
    split at e
    · rename_i hf
      cases e
      obtain ⟨p, vs, rfl, hp, rp⟩ := rb_tup I ry
      obtain ⟨a, c⟩ := inV_of rx hf.1 rp hf.2
      exact .inr (.inl ⟨p, vs, rfl, .inr (SqT.of hp), flat_of rx hf.1, a, c⟩)
    · cases e
  · cases e
theorem os_in {K : PySem.W.Frag} : OpS (rInA K) oIn := fun S F O H x y dx dy z Q I rx ry e k => by
  unfold oIn at e
  cases q : oInB dx dy with
  | none => rw [q] at e; cases e
  | some b =>
    rw [q] at e; cases e
    have kb : Q (.bl b) H := k _ S H (Stp.refl I) (.bl b)
    rcases inB_of (K := K) I rx ry q with ⟨i, j, e1, e2, e3⟩ | ⟨p, xs, e1, e2, e3, e4, e5⟩ | ⟨d, ds, e1, e2, e3, e4, e5⟩
    · exact .inl ⟨i, j, e1, e2, by rw [e3]; exact kb⟩
    · exact .inr (.inl ⟨p, xs, e1, e2, e3, e4, by rw [e5]; exact kb⟩)
    · exact .inr (.inr ⟨d, ds, e1, e2, e3, e4, by rw [e5]; exact kb⟩)
theorem os_notIn {K : PySem.W.Frag} : OpS (rNotInA K) oNotIn := fun S F O H x y dx dy z Q I rx ry e k => by
  unfold oNotIn at e
  cases q : oInB dx dy with
  | none => rw [q] at e; cases e
  | some b =>
    rw [q] at e; cases e
    have kb : Q (.bl (!b)) H := k _ S H (Stp.refl I) (.bl _)
    rcases inB_of (K := K) I rx ry q with ⟨i, j, e1, e2, e3⟩ | ⟨p, xs, e1, e2, e3, e4, e5⟩ | ⟨d, ds, e1, e2, e3, e4, e5⟩
    · exact .inl ⟨i, j, e1, e2, by rw [e3]; exact kb⟩
    · exact .inr (.inl ⟨p, xs, e1, e2, e3, e4, by rw [e5]; exact kb⟩)
    · exact .inr (.inr ⟨d, ds, e1, e2, e3, e4, by rw [e5]; exact kb⟩)

/-! ### items, slices -/
def oIxD : D → D → Option D
  | .lst xs, .int i => atI xs i
  | .tup xs, .int i => atI xs i
  | .str x, .int i => if x.length ≤ lim then (atI x i).map fun c => .str [c] else none
  | _, _ => none
def oIx (x y : D) : Option SV := (oIxD x y).map .fr
theorem RpL.atI {S : Hp} {vs : List V} {ds : List D} {i : Int} {d : D} (r : RpL S vs ds) (h : atI ds i = some d) : ∃ v, L2.atI vs i = some v ∧ Rp S v d := by
  unfold L2.atI at h ⊢
  rw [r.length]
  cases e : ixN ds.length i with
  | none => rw [e] at h; cases h
  | some j =>
    rw [e] at h
    exact r.get h
theorem os_ix {K : PySem.W.Frag} : OpS (rIx K) oIx := fun S F O H x y dx dy z Q I rx ry e k => by
  unfold oIx at e
  cases q : oIxD dx dy with
  | none => rw [q] at e; cases e
  | some d =>
    rw [q] at e; cases e
    unfold oIxD at q
    split at q
    · obtain ⟨p, vs, rfl, hp, rp⟩ := rb_lst I rx
      obtain ⟨v, h1, h2⟩ := rp.atI q
      rw [rb_int ry]
      exact .inl ⟨p, vs, _, v, rfl, rfl, SqL.of hp, h1, k _ S H (Stp.refl I) h2⟩
    · obtain ⟨p, vs, rfl, hp, rp⟩ := rb_tup I rx
      obtain ⟨v, h1, h2⟩ := rp.atI q
      rw [rb_int ry]
      exact .inr (.inl ⟨p, vs, _, v, rfl, rfl, SqT.of hp, h1, k _ S H (Stp.refl I) h2⟩)
    · split at q
      · rename_i x' i hl
        rw [rb_str rx, rb_int ry]
        cases e : atI x' i with
        | none => rw [e] at q; cases q
        | some c =>
          rw [e] at q; cases q
          exact .inr (.inr ⟨mk x', i, c, rfl, rfl, by rw [len_mk, lim_eq]; exact hl, e, k _ S H (Stp.refl I) (.str [c])⟩)
      · cases q
    · cases q
end DL
namespace DL
open PySem PySem.Spec PyProof.Rows L2
/-! ### readings by functions of data -/
section
variable (Z : Eff) (mg : Str → Option Value)
/-- the reading that f tells -/
def tE {α : Type} (rd : RD α) (W : WX) (f : DSt → Z.G → Out Z.G α) : TE := fun σ H Q => ∃ (S F O : Hp) (sd : DSt) (g : Z.G), Inn S F O H ∧ RpS S O σ sd ∧ Z.R g S F ∧ post (okQ Z rd S F O H Q) (erQ Z mg W σ S F O H) (f sd g)
def tT (W : WX) (f : DSt → Z.G → Out Z.G Bool) : TT := fun σ H Q => ∃ (S F O : Hp) (sd : DSt) (g : Z.G), Inn S F O H ∧ RpS S O σ sd ∧ Z.R g S F ∧ post (okB Z S F O H Q) (erQ Z mg W σ S F O H) (f sd g)
/-- a list of values, each kept, or each to be read -/
abbrev RL := Hp → Hp → List V → List D → Prop
def rlD : RL := fun S _ vs ds => RpL S vs ds
inductive RpBL (S O : Hp) : List V → List D → Prop
  | nil : RpBL S O [] []
  | cons {v : V} {d : D} {vs : List V} {ds : List D} : RpB S O v d → RpBL S O vs ds → RpBL S O (v :: vs) (d :: ds)
def rlB : RL := RpBL
def okL (rl : RL) (S F O H : Hp) (Q : List V → Hp → Prop) : List D → Z.G → Prop := fun ds g' => ∀ vs S' F' H', Stp S F O H S' F' O H' → Z.R g' S' F' → rl S' O vs ds → Q vs H'
def tA' (rl : RL) (W : WX) (f : DSt → Z.G → Out Z.G (List D)) : TA := fun σ H Q => ∃ (S F O : Hp) (sd : DSt) (g : Z.G), Inn S F O H ∧ RpS S O σ sd ∧ Z.R g S F ∧ post (okL Z rl S F O H Q) (erQ Z mg W σ S F O H) (f sd g)
def LG (rl : RL) (W : WX) (ta : TA) (f : DSt → Z.G → Out Z.G (List D)) : Prop :=
  ∀ (S F O H : Hp) (σ : L2.St) (sd : DSt) (g : Z.G) (Q : List V → Hp → Prop), Inn S F O H → RpS S O σ sd → Z.R g S F → post (okL Z rl S F O H Q) (erQ Z mg W σ S F O H) (f sd g) → ta σ H Q
end
theorem eg_t {Z : Eff} {mg : Str → Option Value} {α : Type} {rd : RD α} {W : WX} {f : DSt → Z.G → Out Z.G α} : EG Z mg rd W (tE Z mg rd W f) f := fun S F O H σ sd g Q I r hR hp => ⟨S, F, O, sd, g, I, r, hR, hp⟩
theorem bg_t {Z : Eff} {mg : Str → Option Value} {W : WX} {f : DSt → Z.G → Out Z.G Bool} : BG Z mg W (tT Z mg W f) f := fun S F O H σ sd g Q I r hR hp => ⟨S, F, O, sd, g, I, r, hR, hp⟩
theorem lg_t {Z : Eff} {mg : Str → Option Value} {rl : RL} {W : WX} {f : DSt → Z.G → Out Z.G (List D)} : LG Z mg rl W (tA' Z mg rl W f) f := fun S F O H σ sd g Q I r hR hp => ⟨S, F, O, sd, g, I, r, hR, hp⟩

/-! ### the judgements -/
def DE (X : Cx) (Z : Eff) (W : WX) (e : Expr) (f : DSt → Z.G → Out Z.G SV) : Prop := PE X e (tE Z X.mg rV W f)
def DT (X : Cx) (Z : Eff) (W : WX) (e : Expr) (f : DSt → Z.G → Out Z.G Bool) : Prop := PT X e (tT Z X.mg W f)
def DW (X : Cx) (Z : Eff) (W : WX) (e : Expr) (f : DSt → Z.G → Out Z.G Bool) : Prop := PW X e (tT Z X.mg W f)
def DA (X : Cx) (Z : Eff) (W : WX) (es : List Expr) (f : DSt → Z.G → Out Z.G (List D)) : Prop := PA X es (tA' Z X.mg rlD W f)
def DR (X : Cx) (Z : Eff) (W : WX) (es : List Expr) (f : DSt → Z.G → Out Z.G (List D)) : Prop := PA X es (tA' Z X.mg rlB W f)
section
variable {X : Cx} {Z : Eff} {W : WX} {e a b c : Expr} {es rest : List Expr} {te ta tb tc : TE} {pos : Pos}
theorem de_of {f : DSt → Z.G → Out Z.G SV} (h : PE X e te) (k : EG Z X.mg rV W te f) : DE X Z W e f := ⟨fun pins s σ H Q I q => by
  obtain ⟨S, F, O, sd, g, i, r, hR, hp⟩ := q
  exact h.run pins s σ H Q I (k S F O H σ sd g Q i r hR hp)⟩
theorem dt_of {tt : TT} {f : DSt → Z.G → Out Z.G Bool} (h : PT X e tt) (k : BG Z X.mg W tt f) : DT X Z W e f := ⟨fun pins s σ H Q I q => by
  obtain ⟨S, F, O, sd, g, i, r, hR, hp⟩ := q
  exact h.run pins s σ H Q I (k S F O H σ sd g Q i r hR hp)⟩
theorem dw_of {tt : TT} {f : DSt → Z.G → Out Z.G Bool} (h : PW X e tt) (k : BG Z X.mg W tt f) : DW X Z W e f := ⟨fun wh pins s σ H Q I q => by
  obtain ⟨S, F, O, sd, g, i, r, hR, hp⟩ := q
  exact h.run wh pins s σ H Q I (k S F O H σ sd g Q i r hR hp)⟩
theorem pa_of {rl : RL} {t : TA} {f : DSt → Z.G → Out Z.G (List D)} (h : PA X es t) (k : LG Z X.mg rl W t f) : PA X es (tA' Z X.mg rl W f) := ⟨fun p pins s σ H Q I q => by
  obtain ⟨S, F, O, sd, g, i, r, hR, hp⟩ := q
  exact h.run p pins s σ H Q I (k S F O H σ sd g Q i r hR hp)⟩
variable {f fa fb fc : DSt → Z.G → Out Z.G SV}
/-- a compound of one part read -/
theorem de_one {t : TE → TE} {F : (DSt → Z.G → Out Z.G D) → DSt → Z.G → Out Z.G SV} (h : ∀ ta, PE X a ta → PE X e (t ta)) (k : ∀ ta (f : DSt → Z.G → Out Z.G D), EG Z X.mg rB W ta f → EG Z X.mg rV W (t ta) (F f)) (ha : DE X Z W a fa) : DE X Z W e (F (toB fa)) :=
  de_of (h _ ha) (k _ _ (eg_b eg_t))
/-! names and constants -/
theorem de_var (i : Nat) {x : Str} (hN : X.N[i]? = some x := by rfl) (hv : Vis X.env.scope x := by first | exact Or.inl rfl | exact Or.inr (Or.inl rfl) | exact Or.inr (Or.inr rfl)) (hd : (x == ("__debug__" : Str)) = false := by decide)
    (hcd : (x == ("__classdict__" : Str)) = false := by decide) : DE X Z W (.Name x pos) (fVar i) := de_of (pe_var hN hv hd hcd) (eg_var i)
theorem de_int {i : Int} {j} : DE X Z W (.Constant (.int i) j pos) (fC (.int i)) := de_of pe_int (eg_c fun _ => .int i)
theorem de_bl {i : Bool} {j} : DE X Z W (.Constant (.bool i) j pos) (fC (.bl i)) := de_of pe_bl (eg_c fun _ => .bl i)
theorem de_non {j} : DE X Z W (.Constant .none j pos) (fC .non) := de_of pe_non (eg_c fun _ => .non)
theorem de_str {x : Str} {j} (l : List Nat) (h : x = mk l := by decide +kernel) : DE X Z W (.Constant (.str x) j pos) (fC (.str l)) := de_of pe_str (eg_c fun _ => by rw [h]; exact .str l)
theorem de_glob {x : Str} {v : V} {u : Value} {d : D} (hm : X.mg x = some u) (r : RelV v u) (h : ∀ S, Rp S v d) (hg : Gl X x := by rfl) (hd : (x == ("__debug__" : Str)) = false := by decide) : DE X Z W (.Name x pos) (fC d) :=
  de_of (pe_glob hg hm r hd) (eg_c h)
theorem de_gint {x : Str} {i : Int} (hm : ∃ t, X.mg x = some (.int i t)) (hg : Gl X x := by rfl) (hd : (x == ("__debug__" : Str)) = false := by decide) : DE X Z W (.Name x pos) (fC (.int i)) := by
  obtain ⟨t, hm⟩ := hm
  exact de_glob (v := .int i) hm ⟨t, rfl⟩ (fun _ => .int i) hg hd
theorem de_gstr {x : Str} {z : Str} (l : List Nat) (hm : ∃ t, X.mg x = some (.str z t)) (h : z = mk l := by decide +kernel) (hg : Gl X x := by rfl) (hd : (x == ("__debug__" : Str)) = false := by decide) : DE X Z W (.Name x pos) (fC (.str l)) := by
  obtain ⟨t, hm⟩ := hm
  exact de_glob (v := .str z) hm ⟨t, rfl⟩ (fun _ => by rw [h]; exact .str l) hg hd
/-! operators -/
theorem de_bin {op : Operator} {r : R2} {o : D → D → Option SV} (ho : OpR X (binaryOp op) r) (hs : OpS r o) (ha : DE X Z W a fa) (hb : DE X Z W b fb) : DE X Z W (.BinOp a op b pos) (fOp o (toB fa) (toB fb)) :=
  de_of (pe_op ho ha hb) (eg_op hs (eg_b eg_t) (eg_b eg_t))
theorem de_add (ha : DE X Z W a fa) (hb : DE X Z W b fb) : DE X Z W (.BinOp a .Add b pos) (fOp oAdd (toB fa) (toB fb)) := de_bin op_addA os_add ha hb
theorem de_sub (ha : DE X Z W a fa) (hb : DE X Z W b fb) : DE X Z W (.BinOp a .Sub b pos) (fOp oSub (toB fa) (toB fb)) := de_bin op_sub os_sub ha hb
theorem de_mul (ha : DE X Z W a fa) (hb : DE X Z W b fb) : DE X Z W (.BinOp a .Mult b pos) (fOp oMul (toB fa) (toB fb)) := de_bin op_mulA os_mul ha hb
theorem de_mod (ha : DE X Z W a fa) (hb : DE X Z W b fb) : DE X Z W (.BinOp a .Mod b pos) (fOp oMod (toB fa) (toB fb)) := de_bin op_mod os_mod ha hb
theorem de_div (ha : DE X Z W a fa) (hb : DE X Z W b fb) : DE X Z W (.BinOp a .FloorDiv b pos) (fOp oDiv (toB fa) (toB fb)) := de_bin op_fdivW os_div ha hb
theorem de_pow (ha : DE X Z W a fa) (hb : DE X Z W b fb) : DE X Z W (.BinOp a .Pow b pos) (fOp oPow (toB fa) (toB fb)) := de_bin op_pow os_pow ha hb
theorem de_neg (ha : DE X Z W a fa) : DE X Z W (.UnaryOp .USub a pos) (fUn uNeg (toB fa)) := de_of (pe_un un_neg ha) (eg_un us_neg (eg_b eg_t))
/-! comparisons -/
/-- a comparison's rule, for values and for tests -/
structure CpR (X : Cx) (op : CmpOp) (o : D → D → Option SV) : Prop where
  ex : ∃ r, OpR X (compareOp op) r ∧ OpS r o
theorem cp_eq {k : Nat} (hr : Room k X.A) : CpR X .Eq oEq := ⟨_, op_eqD hr.units, os_eq⟩
theorem cp_ne {k : Nat} (hr : Room k X.A) : CpR X .NotEq oNe := ⟨_, op_neD hr.units, os_ne⟩
theorem cp_lt : CpR X .Lt oLt := ⟨_, op_ltA, os_lt⟩
theorem cp_le : CpR X .LtE oLe := ⟨_, op_leA, os_le⟩
theorem cp_gt : CpR X .Gt oGt := ⟨_, op_gtA, os_gt⟩
theorem cp_ge : CpR X .GtE oGe := ⟨_, op_geA, os_ge⟩
theorem units1 {k : Nat} (hr : Room (k + 1) X.A) : X.A.units + 65 < cLine := by have := hr.un; omega
theorem cp_in {k : Nat} (hr : Room (k + 1) X.A) : CpR X .In oIn := ⟨_, op_inA (units1 hr), os_in⟩
theorem cp_notIn {k : Nat} (hr : Room (k + 1) X.A) : CpR X .NotIn oNotIn := ⟨_, op_notInA (units1 hr), os_notIn⟩
theorem de_cmp {op : CmpOp} {o : D → D → Option SV} (h : CpR X op o) (ha : DE X Z W a fa) (hb : DE X Z W b fb) (hm : behindInMarks op b = false := by rfl) : DE X Z W (.Compare a [op] [b] pos) (fOp o (toB fa) (toB fb)) := by
  obtain ⟨r, ho, hs⟩ := h
  exact de_of (pe_cmpR ho ha hb hm) (eg_op hs (eg_b eg_t) (eg_b eg_t))
/-- a value that is True or False, as a test -/
def asB {G : Type} (f : DSt → G → Out G SV) : DSt → G → Out G Bool := fun sd g => (f sd g).bind fun x g' => match x with
  | .fr (.bl b) => .ok b g'
  | _ => .bad
theorem bg_test {te : TE} (h : EG Z X.mg rV W te f) : BG Z X.mg W (tTest te) (asB f) := fun S F O H σ sd g Q I r hR hp => by
  refine h S F O H σ sd g _ I r hR (post_mono (post_bind.mp hp) (fun x g' q v S' F' H' st hR' rv => ?_) fun _ _ q => q)
  split at q
  · have e := rb_bl (S := S') (O := O) (x := v) (.inl rv)
    subst e
    exact ⟨_, rfl, q S' F' H' st hR'⟩
  · exact q.elim
theorem dt_cmp {op : CmpOp} {o : D → D → Option SV} (h : CpR X op o) (ha : DE X Z W a fa) (hb : DE X Z W b fb) (hm : behindInMarks op b = false := by rfl) : DT X Z W (.Compare a [op] [b] pos) (asB (fOp o (toB fa) (toB fb))) := by
  obtain ⟨r, ho, hs⟩ := h
  exact dt_of (pt_cmpR ho ha hb hm) (bg_test (eg_op hs (eg_b eg_t) (eg_b eg_t)))
theorem dt_val {f : DSt → Z.G → Out Z.G SV} (h : DE X Z W e f) (he : ∀ whole, isTrue e X.env whole = (do let v ← whole; standAt e.pos; holding [v] (truthy v)) := by intro _; rfl) : DT X Z W e (asB f) :=
  dt_of (pt_val h he) (bg_test (f := f) eg_t)
/-! is None -/
theorem eg_isN (ha : EG Z X.mg rB W ta (toB fa)) : EG Z X.mg rV W (tIsN ta) (fUn uIsN (toB fa)) := fun S F O H σ sd g Q I rs hR hp => by
  refine ha S F O H σ sd g _ I rs hR (post_mono (post_bind.mp hp) (fun dx g1 q1 x S1 F1 H1 st1 hR1 r1 => ?_) fun _ _ q => q)
  obtain ⟨z, ez, q3⟩ := post_lift.mp q1
  unfold uIsN at ez
  cases e : dx.isNon with
  | none => rw [e] at ez; cases ez
  | some b =>
    rw [e] at ez; cases ez
    rw [isNon_of r1 e]
    exact q3 _ S1 F1 H1 st1 hR1 (.bl b)
theorem eg_notN (ha : EG Z X.mg rB W ta (toB fa)) : EG Z X.mg rV W (tNotN ta) (fUn uNotN (toB fa)) := fun S F O H σ sd g Q I rs hR hp => by
  refine ha S F O H σ sd g _ I rs hR (post_mono (post_bind.mp hp) (fun dx g1 q1 x S1 F1 H1 st1 hR1 r1 => ?_) fun _ _ q => q)
  obtain ⟨z, ez, q3⟩ := post_lift.mp q1
  unfold uNotN at ez
  cases e : dx.isNon with
  | none => rw [e] at ez; cases ez
  | some b =>
    rw [e] at ez; cases ez
    rw [isNon_of r1 e]
    exact q3 _ S1 F1 H1 st1 hR1 (.bl _)
theorem de_isN {j} {p : Pos} (ha : DE X Z W a fa) : DE X Z W (.Compare a [.Is] [.Constant .none j p] pos) (fUn uIsN (toB fa)) := de_of (pe_cmp (pc_isN ha) rfl) (eg_isN (eg_b eg_t))
theorem de_notN {j} {p : Pos} (ha : DE X Z W a fa) : DE X Z W (.Compare a [.IsNot] [.Constant .none j p] pos) (fUn uNotN (toB fa)) := de_of (pe_cmp (pc_notN ha) rfl) (eg_notN (eg_b eg_t))
theorem bg_B {te : TE} (h : EG Z X.mg rV W te f) : BG Z X.mg W (tB te) (asB f) := bg_test h
theorem dt_isN {j} {p : Pos} (ha : DE X Z W a fa) : DT X Z W (.Compare a [.Is] [.Constant .none j p] pos) (asB (fUn uIsN (toB fa))) := dt_of (pt_cmp (pc_isN ha) rfl) (bg_B (eg_isN (eg_b eg_t)))
theorem dt_notN {j} {p : Pos} (ha : DE X Z W a fa) : DT X Z W (.Compare a [.IsNot] [.Constant .none j p] pos) (asB (fUn uNotN (toB fa))) := dt_of (pt_cmp (pc_notN ha) rfl) (bg_B (eg_notN (eg_b eg_t)))
/-! a < b < c -/
def fChain {G : Type} (o o' : D → D → Option SV) (fa fb fc : DSt → G → Out G D) : DSt → G → Out G SV := fun sd g => (fa sd g).bind fun x g1 => (fb sd g1).bind fun y g2 => match o x y with
  | some (.fr (.bl true)) => (fc sd g2).bind fun z g3 => Out.lift (o' y z) g3
  | some (.fr (.bl false)) => .ok (.fr (.bl false)) g2
  | _ => .bad
theorem eg_chain {r r' : R2} {o o' : D → D → Option SV} {fa fb fc : DSt → Z.G → Out Z.G D} (ho : OpS r o) (ho' : OpS r' o') (hn : ∀ S F O H x y dx dy b Q, Inn S F O H → RpB S O x dx → RpB S O y dy → o dx dy = some (.fr (.bl b)) → Q (.bl b) H → r x y H Q) (ha : EG Z X.mg rB W ta fa) (hb : EG Z X.mg rB W tb fb) (hc : EG Z X.mg rB W tc fc) : EG Z X.mg rV W (tChain r r' ta tb tc) (fChain o o' fa fb fc) := fun S F O H σ sd g Q I rs hR hp => by
  refine ha S F O H σ sd g _ I rs hR (post_mono (post_bind.mp hp) (fun dx g1 q1 x S1 F1 H1 st1 hR1 r1 => ?_) fun _ _ q => q)
  refine hb S1 F1 O H1 σ sd g1 _ st1.inn (rs.mono st1.ss) hR1 (post_mono (post_bind.mp q1) (fun dy g2 q2 y S2 F2 H2 st2 hR2 r2 => ?_) fun _ _ q => erQ_from I st1 q)
  have st := st1.trans I st2
  split at q2
  · rename_i e
    refine hn S2 F2 O H2 x y dx dy true _ st2.inn (r1.mono st2.ss) r2 e ⟨true, rfl, ?_⟩
    rw [if_pos rfl]
    refine hc S2 F2 O H2 σ sd g2 _ st2.inn (rs.mono st.ss) hR2 (post_mono (post_bind.mp q2) (fun dz g3 q3 z S3 F3 H3 st3 hR3 r3 => ?_) fun _ _ q => erQ_from I st q)
    obtain ⟨w, ew, q4⟩ := post_lift.mp q3
    have st' := st.trans I st3
    refine ho' S3 F3 O H3 y z dy dz w Q st3.inn (r2.mono st3.ss) r3 ew fun v S' H' st4 rv => ?_
    exact q4 v S' F3 H' (st'.trans I st4) (Z.mono _ _ _ _ st4.ss hR3) (backs_V _ _ _ _ _ _ _ _ (fun _ z => back_none st' z) rv)
  · rename_i e
    refine hn S2 F2 O H2 x y dx dy false _ st2.inn (r1.mono st2.ss) r2 e ⟨false, rfl, ?_⟩
    rw [if_neg Bool.false_ne_true]
    exact q2 _ S2 F2 H2 st hR2 (.bl false)
  · exact q2.elim
theorem chain_ok {r : R2} {o : D → D → Option SV} (h : OpS r o) : ∀ S F O H x y dx dy b Q, Inn S F O H → RpB S O x dx → RpB S O y dy → o dx dy = some (.fr (.bl b)) → (∀ H', Q (.bl b) H') → r x y H Q := fun S F O H x y dx dy b Q I rx ry e k =>
  h S F O H x y dx dy _ Q I rx ry e fun v S' H' st rv => by
    have e := rb_bl (S := S') (O := O) (x := v) (.inl rv)
    subst e
    exact k H'
theorem ch_le : ∀ S F O H x y dx dy b Q, Inn S F O H → RpB S O x dx → RpB S O y dy → oLe dx dy = some (.fr (.bl b)) → Q (.bl b) H → rLeA x y H Q := fun S F O H x y dx dy b Q I rx ry e k => by
  unfold oLe at e
  split at e
  · cases e; rw [rb_int rx, rb_int ry]; exact .inl ⟨_, _, rfl, rfl, k⟩
  · cases e; rw [rb_str rx, rb_str ry]; exact .inr ⟨_, _, rfl, rfl, k⟩
  · cases e
theorem ch_lt : ∀ S F O H x y dx dy b Q, Inn S F O H → RpB S O x dx → RpB S O y dy → oLt dx dy = some (.fr (.bl b)) → Q (.bl b) H → rLtA x y H Q := fun S F O H x y dx dy b Q I rx ry e k => by
  unfold oLt at e
  split at e
  · cases e; rw [rb_int rx, rb_int ry]; exact .inl ⟨_, _, rfl, rfl, k⟩
  · cases e; rw [rb_str rx, rb_str ry]; exact .inr ⟨_, _, rfl, rfl, k⟩
  · cases e
/-- <=, < ahead of another <=, < -/
structure ChR (X : Cx) (op : CmpOp) (o : D → D → Option SV) : Prop where
  ex : ∃ r, OpR X (compareOp op) r ∧ OpS r o ∧ ∀ S F O H x y dx dy b Q, Inn S F O H → RpB S O x dx → RpB S O y dy → o dx dy = some (.fr (.bl b)) → Q (.bl b) H → r x y H Q
theorem cr_le : ChR X .LtE oLe := ⟨_, op_leA, os_le, ch_le⟩
theorem cr_lt : ChR X .Lt oLt := ⟨_, op_ltA, os_lt, ch_lt⟩
theorem de_chain {op op' : CmpOp} {o o' : D → D → Option SV} (h : ChR X op o) (h' : ChR X op' o') (ha : DE X Z W a fa) (hb : DE X Z W b fb) (hc : DE X Z W c fc) (hm : lastMarks [op, op'] [b, c] = false := by with_unfolding_all rfl) :
    DE X Z W (.Compare a [op, op'] [b, c] pos) (fChain o o' (toB fa) (toB fb) (toB fc)) := by
  obtain ⟨r, ho, hs, hn⟩ := h
  obtain ⟨r', ho', hs', _⟩ := h'
  exact de_of (pe_chain ho ho' ha hb hc hm) (eg_chain hs hs' hn (eg_b eg_t) (eg_b eg_t) (eg_b eg_t))
theorem dt_chain {op op' : CmpOp} {o o' : D → D → Option SV} (h : ChR X op o) (h' : ChR X op' o') (ha : DE X Z W a fa) (hb : DE X Z W b fb) (hc : DE X Z W c fc) (hm : lastMarks [op, op'] [b, c] = false := by with_unfolding_all rfl) :
    DT X Z W (.Compare a [op, op'] [b, c] pos) (asB (fChain o o' (toB fa) (toB fb) (toB fc))) := by
  obtain ⟨r, ho, hs, hn⟩ := h
  obtain ⟨r', ho', hs', _⟩ := h'
  exact dt_of (pt_chain ho ho' ha hb hc hm) (bg_test (eg_chain hs hs' hn (eg_b eg_t) (eg_b eg_t) (eg_b eg_t)))
end
end DL
namespace DL
open PySem PySem.Spec PyProof.Rows L2
section
variable {X : Cx} {Z : Eff} {W : WX} {e a b c : Expr} {es rest : List Expr} {te ta tb tc : TE} {tt tu : TT} {pos : Pos} {f fa fb fc : DSt → Z.G → Out Z.G SV} {gA gB : DSt → Z.G → Out Z.G Bool}
/-! ### and, or, not; if .. else -/
def gAnd {G : Type} (fa fb : DSt → G → Out G Bool) : DSt → G → Out G Bool := fun sd g => (fa sd g).bind fun x g1 => if x = true then fb sd g1 else .ok false g1
def gOr {G : Type} (fa fb : DSt → G → Out G Bool) : DSt → G → Out G Bool := fun sd g => (fa sd g).bind fun x g1 => if x = true then .ok true g1 else fb sd g1
def gNot {G : Type} (fa : DSt → G → Out G Bool) : DSt → G → Out G Bool := fun sd g => (fa sd g).bind fun x g1 => .ok (!x) g1
theorem bg_and (ha : BG Z X.mg W tt gA) (hb : BG Z X.mg W tu gB) : BG Z X.mg W (tAnd tt tu) (gAnd gA gB) := fun S F O H σ sd g Q I rs hR hp => by
  refine ha S F O H σ sd g _ I rs hR (post_mono (post_bind.mp hp) (fun x g1 q S1 F1 H1 st1 hR1 => ?_) fun _ _ q => q)
  cases x with
  | true =>
    rw [if_pos rfl] at q ⊢
    exact hb S1 F1 O H1 σ sd g1 Q st1.inn (rs.mono st1.ss) hR1 (post_mono q (fun _ _ q => okB_from I st1 q) fun _ _ q => erQ_from I st1 q)
  | false =>
    rw [if_neg Bool.false_ne_true] at q ⊢
    exact q S1 F1 H1 st1 hR1
theorem bg_or (ha : BG Z X.mg W tt gA) (hb : BG Z X.mg W tu gB) : BG Z X.mg W (tOr tt tu) (gOr gA gB) := fun S F O H σ sd g Q I rs hR hp => by
  refine ha S F O H σ sd g _ I rs hR (post_mono (post_bind.mp hp) (fun x g1 q S1 F1 H1 st1 hR1 => ?_) fun _ _ q => q)
  cases x with
  | false =>
    rw [if_neg Bool.false_ne_true] at q ⊢
    exact hb S1 F1 O H1 σ sd g1 Q st1.inn (rs.mono st1.ss) hR1 (post_mono q (fun _ _ q => okB_from I st1 q) fun _ _ q => erQ_from I st1 q)
  | true =>
    rw [if_pos rfl] at q ⊢
    exact q S1 F1 H1 st1 hR1
theorem bg_not (ha : BG Z X.mg W tt gA) : BG Z X.mg W (tNot tt) (gNot gA) := fun S F O H σ sd g Q I rs hR hp => by
  refine ha S F O H σ sd g _ I rs hR (post_mono (post_bind.mp hp) (fun x g1 q S1 F1 H1 st1 hR1 => ?_) fun _ _ q => q)
  exact q S1 F1 H1 st1 hR1
theorem dw_and1 (ha : DT X Z W a gA) : DW X Z W (.BoolOp .And [a] pos) gA := pw_and1 ha
theorem dw_or1 (ha : DT X Z W a gA) : DW X Z W (.BoolOp .Or [a] pos) gA := pw_or1 ha
theorem dw_and (ha : DT X Z W a gA) (hb : DW X Z W (.BoolOp .And (b :: rest) pos) gB) : DW X Z W (.BoolOp .And (a :: b :: rest) pos) (gAnd gA gB) := dw_of (pw_and ha hb) (bg_and bg_t bg_t)
theorem dw_or (ha : DT X Z W a gA) (hb : DW X Z W (.BoolOp .Or (b :: rest) pos) gB) : DW X Z W (.BoolOp .Or (a :: b :: rest) pos) (gOr gA gB) := dw_of (pw_or ha hb) (bg_or bg_t bg_t)
theorem dt_w (h : DW X Z W e gA) : DT X Z W e gA := PW.pt h
theorem dt_not (ha : DT X Z W a gA) : DT X Z W (.UnaryOp .Not a pos) (gNot gA) := dt_of (pt_not ha) (bg_not bg_t)
/-! as values -/
def fAnd {G : Type} (fa fb : DSt → G → Out G SV) : DSt → G → Out G SV := fun sd g => (asB fa sd g).bind fun x g1 => if x = true then fb sd g1 else .ok (.fr (.bl false)) g1
def fOr {G : Type} (fa fb : DSt → G → Out G SV) : DSt → G → Out G SV := fun sd g => (asB fa sd g).bind fun x g1 => if x = true then .ok (.fr (.bl true)) g1 else fb sd g1
def fNot {G : Type} (fa : DSt → G → Out G SV) : DSt → G → Out G SV := fun sd g => (asB fa sd g).bind fun x g1 => .ok (.fr (.bl (!x))) g1
theorem eg_and (ha : EG Z X.mg rV W ta fa) (hb : EG Z X.mg rV W tb fb) : EG Z X.mg rV W (tAndV ta tb) (fAnd fa fb) := fun S F O H σ sd g Q I rs hR hp => by
  have ha' := bg_test ha
  refine ha' S F O H σ sd g (fun c H1 => if c = true then tb σ H1 Q else Q (.bl false) H1) I rs hR (post_mono (post_bind.mp hp) (fun x g1 q S1 F1 H1 st1 hR1 => ?_) fun _ _ q => q)
  cases x with
  | true =>
    rw [if_pos rfl] at q ⊢
    exact hb S1 F1 O H1 σ sd g1 Q st1.inn (rs.mono st1.ss) hR1 (post_mono q (fun _ _ q => okQ_from backs_V I st1 q) fun _ _ q => erQ_from I st1 q)
  | false =>
    rw [if_neg Bool.false_ne_true] at q ⊢
    exact q _ S1 F1 H1 st1 hR1 (.bl false)
theorem eg_or (ha : EG Z X.mg rV W ta fa) (hb : EG Z X.mg rV W tb fb) : EG Z X.mg rV W (tOrV ta tb) (fOr fa fb) := fun S F O H σ sd g Q I rs hR hp => by
  have ha' := bg_test ha
  refine ha' S F O H σ sd g (fun c H1 => if c = true then Q (.bl true) H1 else tb σ H1 Q) I rs hR (post_mono (post_bind.mp hp) (fun x g1 q S1 F1 H1 st1 hR1 => ?_) fun _ _ q => q)
  cases x with
  | false =>
    rw [if_neg Bool.false_ne_true] at q ⊢
    exact hb S1 F1 O H1 σ sd g1 Q st1.inn (rs.mono st1.ss) hR1 (post_mono q (fun _ _ q => okQ_from backs_V I st1 q) fun _ _ q => erQ_from I st1 q)
  | true =>
    rw [if_pos rfl] at q ⊢
    exact q _ S1 F1 H1 st1 hR1 (.bl true)
theorem eg_not (ha : EG Z X.mg rV W ta fa) : EG Z X.mg rV W (tNotV ta) (fNot fa) := fun S F O H σ sd g Q I rs hR hp => by
  have ha' := bg_test ha
  exact ha' S F O H σ sd g (fun c H1 => Q (.bl (!c)) H1) I rs hR (post_mono (post_bind.mp hp) (fun x g1 q S1 F1 H1 st1 hR1 => q _ S1 F1 H1 st1 hR1 (.bl _)) fun _ _ q => q)
theorem de_one1 {op} (h : DE X Z W a fa) : DE X Z W (.BoolOp op [a] pos) fa := pe_one h
theorem de_and (ha : DE X Z W a fa) (hb : DE X Z W (.BoolOp .And (b :: rest) pos) fb) : DE X Z W (.BoolOp .And (a :: b :: rest) pos) (fAnd fa fb) := de_of (pe_and ha hb) (eg_and eg_t eg_t)
theorem de_or (ha : DE X Z W a fa) (hb : DE X Z W (.BoolOp .Or (b :: rest) pos) fb) : DE X Z W (.BoolOp .Or (a :: b :: rest) pos) (fOr fa fb) := de_of (pe_or ha hb) (eg_or eg_t eg_t)
theorem de_not (ha : DE X Z W a fa) : DE X Z W (.UnaryOp .Not a pos) (fNot fa) := de_of (pe_not ha) (eg_not eg_t)
def fIf {G : Type} (c : DSt → G → Out G Bool) (fa fb : DSt → G → Out G SV) : DSt → G → Out G SV := fun sd g => (c sd g).bind fun x g1 => if x = true then fa sd g1 else fb sd g1
theorem eg_if (hc : BG Z X.mg W tt gA) (ha : EG Z X.mg rV W ta fa) (hb : EG Z X.mg rV W tb fb) : EG Z X.mg rV W (tIf tt ta tb) (fIf gA fa fb) := fun S F O H σ sd g Q I rs hR hp => by
  refine hc S F O H σ sd g _ I rs hR (post_mono (post_bind.mp hp) (fun x g1 q S1 F1 H1 st1 hR1 => ?_) fun _ _ q => q)
  cases x with
  | true =>
    rw [if_pos rfl] at q ⊢
    exact ha S1 F1 O H1 σ sd g1 Q st1.inn (rs.mono st1.ss) hR1 (post_mono q (fun _ _ q => okQ_from backs_V I st1 q) fun _ _ q => erQ_from I st1 q)
  | false =>
    rw [if_neg Bool.false_ne_true] at q ⊢
    exact hb S1 F1 O H1 σ sd g1 Q st1.inn (rs.mono st1.ss) hR1 (post_mono q (fun _ _ q => okQ_from backs_V I st1 q) fun _ _ q => erQ_from I st1 q)
theorem de_if (hc : DT X Z W c gA) (ha : DE X Z W a fa) (hb : DE X Z W b fb) : DE X Z W (.IfExp c a b pos) (fIf gA fa fb) := de_of (pe_ifExp hc ha hb) (eg_if bg_t eg_t eg_t)

/-! ### items and slices -/
theorem de_ix (ha : DE X Z W a fa) (hb : DE X Z W b fb) (hs : PlainIx b := by exact fun _ _ => rfl) : DE X Z W (.Subscript a b pos) (fOp oIx (toB fa) (toB fb)) := de_of (pe_ix ix_seq ha hb hs) (eg_op os_ix (eg_b eg_t) (eg_b eg_t))
def cutL {α : Type} (xs : List α) (lo hi : Option Int) : List α := (xs.drop (HT.sIx xs.length 0 lo)).take (HT.sIx xs.length xs.length hi - HT.sIx xs.length 0 lo)
theorem RpL.cut {S : Hp} {vs : List V} {ds : List D} (r : RpL S vs ds) (lo hi : Option Int) : RpL S (cutV vs lo hi) (cutL ds lo hi) := by
  unfold cutV cutL
  rw [r.length]
  exact (r.drop _).take _
def oSl : D → Option Int → Option Int → Option SV
  | .str x, lo, hi => if x.length ≤ lim then some (.fr (.str (cutL x lo hi))) else none
  | .lst x, lo, hi => some (.ow (.lst (cutL x lo hi)))
  | .tup x, lo, hi => some (.fr (.tup (cutL x lo hi)))
  | _, _, _ => none
def rSlTA (K : PySem.W.Frag) : V → Option Int → Option Int → Hp → VK → Prop := fun x lo hi H Q => ∃ a xs, x = .ref a ∧ SqT K H a xs ∧
  ((HT.sIx xs.length 0 lo = 0 ∧ HT.sIx xs.length xs.length hi = xs.length) → Q (.ref a) H) ∧ (¬ (HT.sIx xs.length 0 lo = 0 ∧ HT.sIx xs.length xs.length hi = xs.length) → ∀ p, H p = none → Q (.ref p) (upd H p (.tup (cutV xs lo hi))))
theorem sl_tupA : SlR X (rSlTA X.K) := by
  intro pins s σ H x v vl vu lo hi sl Q I rx hs pl pu h
  obtain ⟨a, xs, rfl, hx, k1, k2⟩ := h
  by_cases hw : HT.sIx xs.length 0 lo = 0 ∧ HT.sIx xs.length xs.length hi = xs.length
  · cases rx
    obtain ⟨its, r, ht, hz⟩ := I.tuple hx
    have hlen : its.toArray.size = xs.length := by rw [List.size_toArray]; exact r.length.symm
    refine ⟨"tuple", _, PyProof.Rows.slot_tuple_getitem.lookup, ht.typeIs, ?_⟩
    exact getItem_tuple_whole ht hs pl pu (by rw [hlen]; exact hw) ⟨.ref a, H, I, rfl, k1 hw⟩
  · exact sl_tup pins s σ H (.ref a) v vl vu lo hi sl Q I rx hs pl pu ⟨a, xs, rfl, hx, hw, k2 hw⟩
def rSlA (K : PySem.W.Frag) : V → Option Int → Option Int → Hp → VK → Prop := fun x lo hi H Q => rSlS x lo hi H Q ∨ rSlL K x lo hi H Q ∨ rSlTA K x lo hi H Q
theorem sl_any : SlR X (rSlA X.K) := sl_str.or (sl_list.or sl_tupA)
theorem cut_whole {α : Type} {xs : List α} {lo hi : Option Int} (h : HT.sIx xs.length 0 lo = 0 ∧ HT.sIx xs.length xs.length hi = xs.length) : cutL xs lo hi = xs := by
  unfold cutL
  rw [h.1, h.2]
  simp
def SlS (r : V → Option Int → Option Int → Hp → VK → Prop) (op : D → Option Int → Option Int → Option SV) : Prop := ∀ (S F O H : Hp) (x : V) (dx : D) (lo hi : Option Int) (z : SV) (Q : VK), Inn S F O H → RpB S O x dx → op dx lo hi = some z →
  (∀ v S' H', Stp S F O H S' F O H' → rV H S' F O H' v z → Q v H') → r x lo hi H Q
theorem rp_tup {S F O H : Hp} {x : V} {ds : List D} (I : Inn S F O H) (r : Rp S x (.tup ds)) : ∃ p vs, x = .ref p ∧ H p = some (.tup vs) ∧ RpL S vs ds := rb_tup I (.inl r)
theorem os_sl {K : PySem.W.Frag} : SlS (rSlA K) oSl := fun S F O H x dx lo hi z Q I rx e k => by
  unfold oSl at e
  split at e
  · split at e
    · rename_i h
      cases e
      rw [rb_str rx]
      exact .inl ⟨_, rfl, by rw [len_mk, lim_eq]; exact h, k _ S H (Stp.refl I) (.str _)⟩
    · cases e
  · cases e
    obtain ⟨p, vs, rfl, hp, rp⟩ := rb_lst I rx
    exact .inr (.inl ⟨p, vs, rfl, SqL.of hp, new_lst I (rp.cut lo hi) k⟩)
  · cases e
    rcases rx with rx | ⟨p, o, e1, e2, e3⟩
    · obtain ⟨p, vs, rfl, hp, rp⟩ := rp_tup I rx
      refine .inr (.inr ⟨p, vs, rfl, SqT.of hp, fun hw => ?_, fun _ => new_tup I (rp.cut lo hi) k⟩)
      rw [rp.length] at hw
      rw [cut_whole hw] at k
      exact k _ S H (Stp.refl I) rx
    · exact absurd rfl (e3.2 _)
  · cases e
end
end DL
namespace DL
open PySem PySem.Spec PyProof.Rows L2
/-! ### slices -/
section
variable (Z : Eff) (mg : Str → Option Value)
def okO (S F O H : Hp) (Q : Option Int → Hp → Prop) : Option Int → Z.G → Prop := fun b g' => ∀ S' F' H', Stp S F O H S' F' O H' → Z.R g' S' F' → Q b H'
def tO' (W : WX) (f : DSt → Z.G → Out Z.G (Option Int)) : TO := fun σ H Q => ∃ (S F O : Hp) (sd : DSt) (g : Z.G), Inn S F O H ∧ RpS S O σ sd ∧ Z.R g S F ∧ post (okO Z S F O H Q) (erQ Z mg W σ S F O H) (f sd g)
end
def DO (X : Cx) (Z : Eff) (W : WX) (e : Option Expr) (f : DSt → Z.G → Out Z.G (Option Int)) : Prop := PO X e (tO' Z X.mg W f)
def fNo {G : Type} : DSt → G → Out G (Option Int) := fun _ g => .ok none g
def fSo {G : Type} (f : DSt → G → Out G SV) : DSt → G → Out G (Option Int) := fun sd g => (toB f sd g).bind fun x g1 => match x with
  | .int i => .ok (some i) g1
  | _ => .bad
def fSlice {G : Type} (f : DSt → G → Out G SV) (lo hi : DSt → G → Out G (Option Int)) : DSt → G → Out G SV := fun sd g => (toB f sd g).bind fun x g1 => (lo sd g1).bind fun l g2 => (hi sd g2).bind fun h g3 => Out.lift (oSl x l h) g3
section
variable {X : Cx} {Z : Eff} {W : WX} {e a b c : Expr} {es rest : List Expr} {te ta tb tc : TE} {tt tu : TT} {pos p2 : Pos} {f fa fb fc : DSt → Z.G → Out Z.G SV} {gA gB : DSt → Z.G → Out Z.G Bool}
theorem do_no : DO X Z W none fNo := ⟨fun pins s σ H Q I q => by
  obtain ⟨S, F, O, sd, g, i, r, hR, hp⟩ := q
  exact po_none.run pins s σ H Q I (hp S F H (Stp.refl i) hR)⟩
theorem do_so (h : DE X Z W e f) : DO X Z W (some e) (fSo f) := ⟨fun pins s σ H Q I q => by
  obtain ⟨S, F, O, sd, g, i, r, hR, hp⟩ := q
  have k : EG Z X.mg rB W (tE Z X.mg rV W f) (toB f) := eg_b eg_t
  refine (po_some h).run pins s σ H Q I (k S F O H σ sd g _ i r hR (post_mono (post_bind.mp hp) (fun x g' q v S' F' H' st hR' rv => ?_) fun _ _ q => q))
  split at q
  · exact ⟨_, rb_int rv, q S' F' H' st hR'⟩
  · exact q.elim⟩
theorem de_slice {lo hi : Option Expr} {fl fh : DSt → Z.G → Out Z.G (Option Int)} (he : DE X Z W e f) (hl : DO X Z W lo fl) (hh : DO X Z W hi fh) : DE X Z W (.Subscript e (.Slice lo hi none p2) pos) (fSlice f fl fh) :=
  de_of (pe_slice sl_any he hl hh) fun S F O H σ sd g Q I rs hR hp => by
    have k : EG Z X.mg rB W (tE Z X.mg rV W f) (toB f) := eg_b eg_t
    refine k S F O H σ sd g _ I rs hR (post_mono (post_bind.mp hp) (fun x g1 q1 v S1 F1 H1 st1 hR1 r1 => ?_) fun _ _ q => q)
    refine ⟨S1, F1, O, sd, g1, st1.inn, rs.mono st1.ss, hR1, post_mono (post_bind.mp q1) (fun l g2 q2 S2 F2 H2 st2 hR2 => ?_) fun _ _ q => erQ_from I st1 q⟩
    have st := st1.trans I st2
    refine ⟨S2, F2, O, sd, g2, st2.inn, rs.mono st.ss, hR2, post_mono (post_bind.mp q2) (fun h g3 q3 S3 F3 H3 st3 hR3 => ?_) fun _ _ q => erQ_from I st q⟩
    obtain ⟨z, ez, q4⟩ := post_lift.mp q3
    have st' := st.trans I st3
    refine os_sl S3 F3 O H3 v x l h z Q st3.inn ((r1.mono st2.ss).mono st3.ss) ez fun v S' H' st4 rv => ?_
    exact q4 v S' F3 H' (st'.trans I st4) (Z.mono _ _ _ _ st4.ss hR3) (backs_V _ _ _ _ _ _ _ _ (fun _ z => back_none st' z) rv)

/-! ### argument lists, displays -/
def lArgs {G : Type} : List (DSt → G → Out G D) → DSt → G → Out G (List D)
  | [], _, g => .ok [] g
  | f :: fs, sd, g => (f sd g).bind fun d g1 => (lArgs fs sd g1).bind fun ds g2 => .ok (d :: ds) g2
theorem lArgs_len {G : Type} {A : List D → G → Prop} {E : Exc → G → Prop} {sd : DSt} : ∀ (fs : List (DSt → G → Out G D)) (g : G), post A E (lArgs fs sd g) → post (fun ds g' => ds.length = fs.length ∧ A ds g') E (lArgs fs sd g)
  | [], g, h => ⟨rfl, h⟩
  | f :: fs, g, h => by
    unfold lArgs at h ⊢
    rw [post_bind] at h ⊢
    refine post_mono h (fun d g1 q => ?_) fun _ _ q => q
    rw [post_bind] at q ⊢
    refine post_mono (lArgs_len fs g1 q) (fun ds g2 q => ⟨?_, q.2⟩) fun _ _ q => q
    rw [List.length_cons, List.length_cons, q.1]
def DAs (X : Cx) (Z : Eff) (W : WX) (es : List Expr) (fs : List (DSt → Z.G → Out Z.G SV)) : Prop := PA X es (tA' Z X.mg rlD W (lArgs (fs.map toD)))
def DRs (X : Cx) (Z : Eff) (W : WX) (es : List Expr) (fs : List (DSt → Z.G → Out Z.G SV)) : Prop := PA X es (tA' Z X.mg rlB W (lArgs (fs.map toB)))
theorem okL_from {rl : RL} {S F O H S1 F1 H1 : Hp} {Q : List V → Hp → Prop} {g : Z.G} {x : List D} (I : Inn S F O H) (a : Stp S F O H S1 F1 O H1) (h : okL Z rl S F O H Q x g) : okL Z rl S1 F1 O H1 Q x g :=
  fun v S' F' H' st r q => h v S' F' H' (a.trans I st) r q
theorem da_nil : DAs X Z W [] [] := pa_of pa_nil fun S F O H σ sd g Q I r hR hp => hp [] S F H (Stp.refl I) hR .nil
theorem dr_nil : DRs X Z W [] [] := pa_of pa_nil fun S F O H σ sd g Q I r hR hp => hp [] S F H (Stp.refl I) hR .nil
theorem da_cons {fs : List (DSt → Z.G → Out Z.G SV)} (ha : DE X Z W e f) (hr : DAs X Z W es fs) (hs : starEach (e :: es) X.env = (false, eval e X.env) :: starEach es X.env := by rfl) : DAs X Z W (e :: es) (f :: fs) :=
  pa_of (pa_cons ha hr hs) fun S F O H σ sd g Q I rs hR hp => by
    have k : EG Z X.mg rD W (tE Z X.mg rV W f) (toD f) := eg_d eg_t
    refine k S F O H σ sd g _ I rs hR (post_mono (post_bind.mp hp) (fun d g1 q1 v S1 F1 H1 st1 hR1 r1 => ?_) fun _ _ q => q)
    refine ⟨S1, F1, O, sd, g1, st1.inn, rs.mono st1.ss, hR1, post_mono (post_bind.mp q1) (fun ds g2 q2 vs S2 F2 H2 st2 hR2 r2 => ?_) fun _ _ q => erQ_from I st1 q⟩
    exact q2 _ S2 F2 H2 (st1.trans I st2) hR2 (.cons (Rp.mono st2.ss r1) r2)
theorem dr_cons {fs : List (DSt → Z.G → Out Z.G SV)} (ha : DE X Z W e f) (hr : DRs X Z W es fs) (hs : starEach (e :: es) X.env = (false, eval e X.env) :: starEach es X.env := by rfl) : DRs X Z W (e :: es) (f :: fs) :=
  pa_of (pa_cons ha hr hs) fun S F O H σ sd g Q I rs hR hp => by
    have k : EG Z X.mg rB W (tE Z X.mg rV W f) (toB f) := eg_b eg_t
    refine k S F O H σ sd g _ I rs hR (post_mono (post_bind.mp hp) (fun d g1 q1 v S1 F1 H1 st1 hR1 r1 => ?_) fun _ _ q => q)
    refine ⟨S1, F1, O, sd, g1, st1.inn, rs.mono st1.ss, hR1, post_mono (post_bind.mp q1) (fun ds g2 q2 vs S2 F2 H2 st2 hR2 r2 => ?_) fun _ _ q => erQ_from I st1 q⟩
    exact q2 _ S2 F2 H2 (st1.trans I st2) hR2 (.cons (RpB.mono st2.ss r1) r2)
def fTup {G : Type} (fs : List (DSt → G → Out G SV)) : DSt → G → Out G SV := fun sd g => (lArgs (fs.map toD) sd g).bind fun ds g1 => .ok (.fr (.tup ds)) g1
def fLst {G : Type} (fs : List (DSt → G → Out G SV)) : DSt → G → Out G SV := fun sd g => (lArgs (fs.map toD) sd g).bind fun ds g1 => .ok (.ow (.lst ds)) g1
theorem de_tup {fs : List (DSt → Z.G → Out Z.G SV)} {x1} (h : DAs X Z W es fs) (hl : fs.length ≤ 1000 := by exact Nat.le_of_ble_eq_true rfl) : DE X Z W (.Tuple es x1 pos) (fTup fs) :=
  de_of (pe_tup h) fun S F O H σ sd g Q I rs hR hp => by
    refine ⟨S, F, O, sd, g, I, rs, hR, post_mono (lArgs_len _ _ (post_bind.mp hp)) (fun ds g1 q1 vs S1 F1 H1 st1 hR1 r1 => ⟨?_, ?_⟩) fun _ _ q => q⟩
    · rw [r1.length, q1.1, List.length_map, lim_eq]
      exact Nat.le_trans hl (by decide)
    · refine new_tup st1.inn r1 fun v S' H' st2 rv => ?_
      exact q1.2 v S' F1 H' (st1.trans I st2) (Z.mono _ _ _ _ st2.ss hR1) rv
theorem de_lst {fs : List (DSt → Z.G → Out Z.G SV)} (h : DAs X Z W es fs) (hl : fs.length ≤ 1000 := by exact Nat.le_of_ble_eq_true rfl) : DE X Z W (.List es pos) (fLst fs) :=
  de_of (pe_lst h) fun S F O H σ sd g Q I rs hR hp => by
    refine ⟨S, F, O, sd, g, I, rs, hR, post_mono (lArgs_len _ _ (post_bind.mp hp)) (fun ds g1 q1 vs S1 F1 H1 st1 hR1 r1 => ⟨?_, ?_⟩) fun _ _ q => q⟩
    · rw [r1.length, q1.1, List.length_map, lim_eq]
      exact Nat.le_trans hl (by decide)
    · refine new_lst st1.inn r1 fun v S' H' st2 rv => ?_
      exact q1.2 v S' F1 H' (st1.trans I st2) (Z.mono _ _ _ _ st2.ss hR1) (backs_V _ _ _ _ _ _ _ _ (fun _ z => back_none st1 z) rv)

/-! ### calls of built-ins -/
def ClS (r : List V → Hp → VK → Prop) (op : List D → Option SV) : Prop := ∀ (S F O H : Hp) (vs : List V) (ds : List D) (z : SV) (Q : VK), Inn S F O H → RpBL S O vs ds → op ds = some z →
  (∀ v S' H', Stp S F O H S' F O H' → rV H S' F O H' v z → Q v H') → r vs H Q
def fCall {G : Type} (op : List D → Option SV) (fs : List (DSt → G → Out G SV)) : DSt → G → Out G SV := fun sd g => (lArgs (fs.map toB) sd g).bind fun ds g1 => Out.lift (op ds) g1
theorem eg_callB {r : List V → Hp → VK → Prop} {op : List D → Option SV} {fs : List (DSt → Z.G → Out Z.G SV)} {t : TA} (hs : ClS r op) (ht : LG Z X.mg rlB W t (lArgs (fs.map toB))) : EG Z X.mg rV W (tCB r t) (fCall op fs) := fun S F O H σ sd g Q I rs hR hp => by
  refine ht S F O H σ sd g _ I rs hR (post_mono (post_bind.mp hp) (fun ds g1 q1 vs S1 F1 H1 st1 hR1 r1 => ?_) fun _ _ q => q)
  obtain ⟨z, ez, q2⟩ := post_lift.mp q1
  refine hs S1 F1 O H1 vs ds z Q st1.inn r1 ez fun v S' H' st2 rv => ?_
  exact q2 v S' F1 H' (st1.trans I st2) (Z.mono _ _ _ _ st2.ss hR1) (backs_V _ _ _ _ _ _ _ _ (fun _ z => back_none st1 z) rv)
theorem de_callB {x : Str} {id : String} {r : List V → Hp → VK → Prop} {op : List D → Option SV} {fs : List (DSt → Z.G → Out Z.G SV)} {p : Pos} (hc : CallR X (.builtin id) r) (hs : ClS r op) (hm : X.mg x = none) (ha : DRs X Z W (e :: es) fs) (hv : bootBuiltins x = some (.builtin id) := by decide +kernel)
    (hg : Gl X x := by rfl) (hn : x ≠ "__name__" := by decide) (hdb : (x == ("__debug__" : Str)) = false := by decide) (he : starEach (e :: es) X.env = (false, eval e X.env) :: starEach es X.env := by rfl) (hpl : (backTo pos (starEach es X.env)).any (·.1) = false := by rfl) :
    DE X Z W (.Call (.Name x p) (e :: es) [] pos) (fCall op fs) := de_of (pe_callB hc hg hm hv ha (hn := hn) (hdb := hdb) (he := he) (hpl := hpl)) (eg_callB hs lg_t)
theorem de_callTy {x : Str} {T : String} {r : List V → Hp → VK → Prop} {op : List D → Option SV} {fs : List (DSt → Z.G → Out Z.G SV)} {p : Pos} (hc : CallR X (.type T) r) (hs : ClS r op) (hm : X.mg x = none) (ha : DRs X Z W (e :: es) fs) (hv : bootBuiltins x = some (.type T) := by decide +kernel)
    (hg : Gl X x := by rfl) (hn : x ≠ "__name__" := by decide) (hdb : (x == ("__debug__" : Str)) = false := by decide) (he : starEach (e :: es) X.env = (false, eval e X.env) :: starEach es X.env := by rfl) (hpl : (backTo pos (starEach es X.env)).any (·.1) = false := by rfl) :
    DE X Z W (.Call (.Name x p) (e :: es) [] pos) (fCall op fs) := de_of (pe_callTy hc hg hm hv ha (hn := hn) (hdb := hdb) (he := he) (hpl := hpl)) (eg_callB hs lg_t)
end

/-! len, min, max, sum, int, str -/
def cLen : List D → Option SV
  | [.str x] => if x.length ≤ lim then some (.fr (.int x.length)) else none
  | [.lst x] => some (.fr (.int x.length))
  | [.tup x] => some (.fr (.int x.length))
  | [.dk x] => some (.fr (.int x.length))
  | _ => none
theorem rbl_one {S O : Hp} {vs : List V} {d : D} (r : RpBL S O vs [d]) : ∃ v, vs = [v] ∧ RpB S O v d := by
  cases r with
  | cons a b => cases b; exact ⟨_, rfl, a⟩
theorem rbl_two {S O : Hp} {vs : List V} {d e : D} (r : RpBL S O vs [d, e]) : ∃ v w, vs = [v, w] ∧ RpB S O v d ∧ RpB S O w e := by
  cases r with
  | cons a b =>
    obtain ⟨w, rfl, q⟩ := rbl_one b
    exact ⟨_, _, rfl, a, q⟩
def rLenD : List V → Hp → VK → Prop := fun xs H Q => ∃ a kvs, xs = [.ref a] ∧ Rd H a (.dK kvs) ∧ Q (.int kvs.length) H
theorem call_lenDK {X : Cx} : CallR X (.builtin "len") rLenD := by
  intro pins s σ H xs us Q I r h
  obtain ⟨a, kvs, rfl, e, q⟩ := h
  obtain ⟨u, rfl, r1⟩ := vals1 r
  cases (show u = Value.ref a from r1)
  exact d_len I e fun t s' I' => ⟨.int _, H, I', ⟨_, rfl⟩, q⟩
def rLenA (K : PySem.W.Frag) : List V → Hp → VK → Prop := fun xs H Q => (∃ x n, xs = [x] ∧ LenV K x H n ∧ Q (.int n) H) ∨ rLenD xs H Q
theorem call_lenA {X : Cx} : CallR X (.builtin "len") (rLenA X.K) := CallR.or call_len call_lenDK
theorem RpK.length {S : Hp} : ∀ {vs : List (Key × V)} {ds : List (Key × D)}, RpK S vs ds → vs.length = ds.length
  | _, _, .nil => rfl
  | _, _, .cons _ b => by rw [List.length_cons, List.length_cons, RpK.length b]
theorem RpT.length {S : Hp} : ∀ {vs : List (List Key × V)} {ds : List (List Key × D)}, RpT S vs ds → vs.length = ds.length
  | _, _, .nil => rfl
  | _, _, .cons _ b => by rw [List.length_cons, List.length_cons, RpT.length b]
theorem cs_len {K : PySem.W.Frag} : ClS (rLenA K) cLen := fun S F O H vs ds z Q I r e k => by
  unfold cLen at e
  split at e
  · split at e
    · rename_i x h
      cases e
      obtain ⟨v, rfl, r1⟩ := rbl_one r
      rw [rb_str r1]
      exact .inl ⟨_, x.length, rfl, ⟨by rw [len_mk, lim_eq]; exact h, rfl⟩, k _ S H (Stp.refl I) (.int _)⟩
    · cases e
  · cases e
    obtain ⟨v, rfl, r1⟩ := rbl_one r
    obtain ⟨p, vs, rfl, hp, rp⟩ := rb_lst I r1
    exact .inl ⟨_, _, rfl, .inl ⟨vs, SqL.of hp, rfl⟩, by rw [rp.length]; exact k _ S H (Stp.refl I) (.int _)⟩
  · cases e
    obtain ⟨v, rfl, r1⟩ := rbl_one r
    obtain ⟨p, vs, rfl, hp, rp⟩ := rb_tup I r1
    exact .inl ⟨_, _, rfl, .inr ⟨vs, SqT.of hp, rfl⟩, by rw [rp.length]; exact k _ S H (Stp.refl I) (.int _)⟩
  · cases e
    obtain ⟨v, rfl, r1⟩ := rbl_one r
    obtain ⟨p, vs, rfl, hp, rp⟩ := rb_dk I r1
    exact .inr ⟨_, vs, rfl, .inl hp, by rw [rp.length]; exact k _ S H (Stp.refl I) (.int _)⟩
  · cases e
def minI (i j : Int) : Int := if j < i then j else i
theorem minI_nat (a b : Nat) : minI (a : Int) (b : Int) = ((min a b : Nat) : Int) := by
  unfold minI
  split <;> omega
def cMin : List D → Option SV
  | [.int i, .int j] => some (.fr (.int (minI i j)))
  | _ => none
theorem cs_min : ClS (fun xs H Q => ∃ i j, xs = [.int i, .int j] ∧ Q (.int (if j < i then j else i)) H) cMin := fun S F O H vs ds z Q I r e k => by
  unfold cMin at e
  split at e
  · cases e
    obtain ⟨v, w, rfl, r1, r2⟩ := rbl_two r
    rw [rb_int r1, rb_int r2]
    exact ⟨_, _, rfl, k _ S H (Stp.refl I) (.int _)⟩
  · cases e
def cInt : List D → Option SV
  | [.int i] => some (.fr (.int i))
  | [.bl b] => some (.fr (.int (if b then 1 else 0)))
  | [.str x] => if x.length ≤ 640 then (PySem.intText? (mk x)).map fun n => .fr (.int n) else none
  | _ => none
def rIntA : List V → Hp → VK → Prop := fun xs H Q => ((∃ i, xs = [.int i] ∧ Q (.int i) H) ∨ ∃ k, xs = [.bl k] ∧ Q (.int (if k then 1 else 0)) H) ∨ ∃ a n, xs = [.str a] ∧ PySem.intText? a = some n ∧ a.length ≤ 640 ∧ Q (.int n) H
theorem call_intA {X : Cx} : CallR X (.type "int") rIntA := CallR.or call_int1 call_int_str
theorem cs_int : ClS rIntA cInt := fun S F O H vs ds z Q I r e k => by
  unfold cInt at e
  split at e
  · cases e
    obtain ⟨v, rfl, r1⟩ := rbl_one r
    rw [rb_int r1]
    exact .inl (.inl ⟨_, rfl, k _ S H (Stp.refl I) (.int _)⟩)
  · cases e
    obtain ⟨v, rfl, r1⟩ := rbl_one r
    rw [rb_bl r1]
    exact .inl (.inr ⟨_, rfl, k _ S H (Stp.refl I) (.int _)⟩)
  · split at e
    · rename_i x h
      obtain ⟨v, rfl, r1⟩ := rbl_one r
      rw [rb_str r1]
      cases q : PySem.intText? (mk x) with
      | none => rw [q] at e; cases e
      | some n =>
        rw [q] at e; cases e
        exact .inr ⟨_, n, rfl, q, by rw [len_mk]; exact h, k _ S H (Stp.refl I) (.int _)⟩
    · cases e
  · cases e
/-- str of a number -/
noncomputable def cStr : List D → Option SV
  | [.int i] => @ite _ (0 ≤ i ∧ i < 10 ^ 9) (Classical.propDecidable _) (some (.fr (.str (TL.numL i.toNat)))) none
  | _ => none
theorem cs_str : ClS (fun xs H Q => ∃ i : Int, xs = [.int i] ∧ i.natAbs.log2 < 1920 ∧ Q (.str (toString i)) H) cStr := fun S F O H vs ds z Q I r e k => by
  unfold cStr at e
  split at e
  · split at e
    · rename_i i h
      cases e
      obtain ⟨v, rfl, r1⟩ := rbl_one r
      rw [rb_int r1]
      refine ⟨i, rfl, ?_, ?_⟩
      · exact PySem.Flt.log2_lt_of (by decide) (Nat.lt_of_lt_of_le (show i.natAbs < 2 ^ 40 by have := h.2; omega) (Nat.pow_le_pow_right (n := 2) (by decide) (show 40 ≤ 1920 by decide)))
      · have e : (Str.ofString (toString i) : Str) = mk (TL.numL i.toNat) := by
          apply TL.ext_tl
          have e2 : i = ((i.toNat : Nat) : Int) := (Int.toNat_of_nonneg h.1).symm
          have e3 := TL.tl_num i.toNat
          rw [← e2] at e3
          exact e3
        rw [e]
        exact k _ S H (Stp.refl I) (Rp.str (S := S) (TL.numL i.toNat))
    · cases e
  · cases e
def allInt : List D → Option (List Int)
  | [] => some []
  | .int i :: r => (allInt r).map (i :: ·)
  | _ => none
theorem allInt_of {S : Hp} : ∀ {ds : List D} {ns : List Int} {vs : List V}, RpL S vs ds → allInt ds = some ns → vs = ns.map V.int ∧ ds = ns.map D.int
  | [], ns, _, .nil, h => by cases h; exact ⟨rfl, rfl⟩
  | d :: ds, ns, _, .cons a b, h => by
    cases d with
    | int i =>
      have h : (allInt ds).map (i :: ·) = some ns := h
      cases e : allInt ds with
      | none => rw [e] at h; cases h
      | some ms =>
        rw [e] at h; cases h
        obtain ⟨e1, e2⟩ := allInt_of b e
        have e3 := rb_int (O := S) (.inl a)
        subst e1 e2 e3
        exact ⟨rfl, rfl⟩
    | _ => cases h
theorem allInt_map : ∀ ns : List Int, allInt (ns.map D.int) = some ns
  | [] => rfl
  | n :: ns => by
    show (allInt (ns.map D.int)).map (n :: ·) = some (n :: ns)
    rw [allInt_map ns]; rfl
def cSum : List D → Option SV
  | [.lst x] => (allInt x).map fun ns => .fr (.int ns.sum)
  | _ => none
theorem cs_sum {K : PySem.W.Frag} : ClS (rSum K) cSum := fun S F O H vs ds z Q I r e k => by
  unfold cSum at e
  split at e
  · rename_i x
    obtain ⟨v, rfl, r1⟩ := rbl_one r
    obtain ⟨p, vs, rfl, hp, rp⟩ := rb_lst I r1
    cases q : allInt x with
    | none => rw [q] at e; cases e
    | some ns =>
      rw [q] at e; cases e
      obtain ⟨e1, e2⟩ := allInt_of rp q
      subst e1
      exact ⟨p, ns, rfl, SqL.of hp, k _ S H (Stp.refl I) (.int _)⟩
  · cases e
def maxL : List Int → Option Int
  | [] => none
  | x :: r => some (r.foldl max x)
theorem maxL_spec : ∀ (r : List Int) (x : Int), (r.foldl max x = x ∨ r.foldl max x ∈ r) ∧ x ≤ r.foldl max x ∧ ∀ y ∈ r, y ≤ r.foldl max x
  | [], x => ⟨.inl rfl, Int.le_refl _, fun _ h => nomatch h⟩
  | a :: r, x => by
    obtain ⟨h1, h2, h3⟩ := maxL_spec r (max x a)
    show (r.foldl max (max x a) = x ∨ r.foldl max (max x a) ∈ a :: r) ∧ x ≤ r.foldl max (max x a) ∧ ∀ y ∈ a :: r, y ≤ r.foldl max (max x a)
    refine ⟨?_, by omega, fun y hy => ?_⟩
    · rcases h1 with h1 | h1
      · rw [h1]
        by_cases q : x ≤ a
        · rw [Int.max_eq_right q]; exact .inr List.mem_cons_self
        · rw [Int.max_eq_left (by omega)]; exact .inl rfl
      · exact .inr (List.mem_cons_of_mem _ h1)
    · rcases List.mem_cons.mp hy with rfl | hy
      · omega
      · exact h3 y hy
def cMax : List D → Option SV
  | [.lst x] => ((allInt x).bind maxL).map fun n => .fr (.int n)
  | _ => none
theorem cs_max {K : PySem.W.Frag} : ClS (rMax K) cMax := fun S F O H vs ds z Q I r e k => by
  unfold cMax at e
  split at e
  · rename_i x
    obtain ⟨v, rfl, r1⟩ := rbl_one r
    obtain ⟨p, vs, rfl, hp, rp⟩ := rb_lst I r1
    cases q : allInt x with
    | none => rw [q] at e; cases e
    | some ns =>
      rw [q] at e
      obtain ⟨e1, e2⟩ := allInt_of rp q
      subst e1
      cases ns with
      | nil => cases e
      | cons a ns =>
        cases e
        refine ⟨p, a :: ns, rfl, SqL.of hp, Nat.succ_pos _, fun m hm hle => ?_⟩
        obtain ⟨h1, h2, h3⟩ := maxL_spec ns a
        have em : m = ns.foldl max a := by
          have l1 : m ≤ ns.foldl max a := by
            rcases List.mem_cons.mp hm with rfl | hm
            · exact h2
            · exact h3 m hm
          have l2 : ns.foldl max a ≤ m := by
            apply hle
            rcases h1 with h1 | h1
            · rw [h1]; exact List.mem_cons_self
            · exact List.mem_cons_of_mem _ h1
          omega
        rw [em]
        exact k _ S H (Stp.refl I) (.int _)
  · cases e
end DL
namespace DL
open PySem PySem.Spec PyProof.Rows L2
/-! ### a def's promise: it answers what run tells of its arguments' data -/
def erF (Z : Eff) (mg : Str → Option Value) (E : XK) (S F H : Hp) : Exc → Z.G → Prop := fun e g' => ∀ cls dx S' F' H', Stp S F nil H S' F' nil H' → Z.R g' S' F' → ExR mg e cls dx S' → E cls dx H'
def spD (Z : Eff) (mg : Str → Option Value) (n : Nat) (run : List D → Z.G → Out Z.G SV) : Sp := fun vs H Q E => ∃ (S F : Hp) (ds : List D) (g : Z.G), Inn S F nil H ∧ RpL S vs ds ∧ ds.length = n ∧ Z.R g S F ∧
  post (okQ Z rV S F nil H Q) (erF Z mg E S F H) (run ds g)
/-- no effect -/
def ZU : Eff where
  G := Unit
  R := fun _ _ F => F = nil
  mono := fun _ _ _ _ _ h => h
/-- a def of the text by its name: k its level, n its parameters -/
structure Cal (P : Program) (w : World) (K : PySem.W.Frag) (mg : Str → Option Value) (base : Heap) (x : Str) (k n : Nat) (Z : Eff) (run : List D → Z.G → Out Z.G SV) : Prop where
  ex : ∃ (f : Addr) (fd : FuncData) (ps : List Str), FnOk P w K mg base (L2.CX P w) k f fd ps (spD Z mg n run) ∧ mg x = some (.ref f) ∧ PySem.W.keepIn K (.ref f) = true ∧ Binds K fd ps []
section
variable {S F O H S1 F1 O1 H1 : Hp}
theorem nil_nn {a : Addr} : ¬ nil a ≠ none := fun h => h rfl
theorem Inn.low (I : Inn S F O H) : Inn S F nil H := ⟨I.s, I.f, (fun _ _ h => by cases h), I.sf, fun _ _ => rfl, fun _ _ => rfl, I.ft, fun _ _ z => nomatch z⟩
theorem Inn.low0 (I : Inn S F O H) : Inn S nil nil H := ⟨I.s, (fun _ _ h => by cases h), (fun _ _ h => by cases h), fun _ _ => rfl, fun _ _ => rfl, fun _ _ => rfl, (fun _ _ z => nomatch z), fun _ _ z => nomatch z⟩
/-- what a callee with the caller's effects did, for the caller -/
theorem Stp.back (I : Inn S F O H) (a : Stp S F nil H S1 F1 nil H1) : Stp S F O H S1 F1 O H1 := by
  have ns : ∀ x, S1 x ≠ none → S x ≠ none ∨ Fre H F x := fun x h => by
    rcases a.ns x h with z | z | z
    · exact .inl z
    · exact absurd z nil_nn
    · exact .inr z
  refine ⟨⟨a.inn.s, a.inn.f, fun x o h => a.keep x o (I.o x o h) (I.of (nn_of h)) rfl, a.inn.sf, fun x h => ?_, fun x h => ?_, a.inn.ft, I.ot⟩, a.ss, fun x o h hf ho => a.keep x o h hf rfl, a.dom, fun x h => (ns x h).elim .inl fun z => .inr (.inr z), a.nf, fun _ h => .inl h⟩
  · rcases ns x h with z | z | ⟨xs, z⟩ | z
    · exact I.so x z
    · exact I.noO z
    · exact I.tupO z
    · exact I.fo x z
  · rcases a.nf x h with z | z
    · exact I.fo x z
    · exact I.noO z
/-- what a callee without effects did, for the caller -/
theorem Stp.back0 (I : Inn S F O H) (a : Stp S nil nil H S1 nil nil H1) : Stp S F O H S1 F O H1 := by
  have ns : ∀ x, S1 x ≠ none → S x ≠ none ∨ Fre H nil x := fun x h => by
    rcases a.ns x h with z | z | z
    · exact .inl z
    · exact absurd z nil_nn
    · exact .inr z
  refine ⟨⟨a.inn.s, fun x o h => a.keep x o (I.f x o h) rfl rfl, fun x o h => a.keep x o (I.o x o h) rfl rfl, fun x h => ?_, fun x h => ?_, I.fo, I.ft, I.ot⟩, a.ss, fun x o h hf ho => a.keep x o h rfl rfl, a.dom, fun x h => (ns x h).elim .inl fun z => .inr (.inr (z.elim .inl fun z => z.elim (fun z => .inr (.inl z)) fun z => absurd z nil_nn)), fun _ h => .inl h, fun _ h => .inl h⟩
  · rcases ns x h with z | z | ⟨xs, z⟩ | z
    · exact I.sf x z
    · exact I.noF z
    · exact I.tupF z
    · exact absurd z nil_nn
  · rcases ns x h with z | z | ⟨xs, z⟩ | z
    · exact I.so x z
    · exact I.noO z
    · exact I.tupO z
    · exact absurd z nil_nn
theorem rV_back {v : V} {x : SV} (I : Inn S F O H) (a : Stp S F nil H S1 F1 nil H1) (r : rV H S1 F1 nil H1 v x) : rV H S1 F1 O H1 v x := by
  cases x with
  | fr d => exact r
  | ow d =>
    obtain ⟨p, o, e1, e2, e3, e4, e5, e6, e7⟩ := r
    exact ⟨p, o, e1, e2, e3, e4, e5, I.noO e7, e7⟩
  | bo d =>
    obtain ⟨p, o, e1, e2, e3⟩ := r
    cases e2
theorem rV_back0 {v : V} {x : SV} (I : Inn S F O H) (r : rV H S1 nil nil H1 v x) : rV H S1 F O H1 v x := by
  cases x with
  | fr d => exact r
  | ow d =>
    obtain ⟨p, o, e1, e2, e3, e4, e5, e6, e7⟩ := r
    exact ⟨p, o, e1, e2, e3, e4, I.noF e7, I.noO e7, e7⟩
  | bo d =>
    obtain ⟨p, o, e1, e2, e3⟩ := r
    cases e2
end
section
variable {X : Cx} {Z : Eff} {W : WX} {e a b c : Expr} {es rest : List Expr} {te ta tb tc : TE} {pos : Pos} {f fa fb fc : DSt → Z.G → Out Z.G SV}
def fFn {G : Type} (run : List D → G → Out G SV) (fs : List (DSt → G → Out G SV)) : DSt → G → Out G SV := fun sd g => (lArgs (fs.map toD) sd g).bind fun ds g1 => run ds g1
/-- the effect state of a def without effects -/
def up0 {G : Type} (run : List D → Unit → Out Unit SV) : List D → G → Out G SV := fun ds g => match run ds () with
  | .ok a _ => .ok a g
  | .er e _ => .er e g
  | .bad => .bad
theorem sp_in {n : Nat} {run : List D → Z.G → Out Z.G SV} {S F O H : Hp} {vs : List V} {ds : List D} {g : Z.G} {Q : VK} {σ : L2.St} (I : Inn S F O H) (r : RpL S vs ds) (hl : ds.length = n) (hR : Z.R g S F) (h : post (okQ Z rV S F O H Q) (erQ Z X.mg W σ S F O H) (run ds g)) :
    spD Z X.mg n run vs H Q (WE W σ) :=
  ⟨S, F, ds, g, I.low, r, hl, hR, post_mono h (fun x g' q v S' F' H' st hR' rv => q v S' F' H' (Stp.back I st) hR' (rV_back I st rv)) fun x g' q cls dx S' F' H' st hR' ex => q cls dx S' F' H' (Stp.back I st) hR' ex⟩
theorem sp_in0 {n : Nat} {run : List D → Unit → Out Unit SV} {S F O H : Hp} {vs : List V} {ds : List D} {g : Z.G} {Q : VK} {σ : L2.St} (I : Inn S F O H) (r : RpL S vs ds) (hl : ds.length = n) (hR : Z.R g S F) (h : post (okQ Z rV S F O H Q) (erQ Z X.mg W σ S F O H) (up0 run ds g)) :
    spD ZU X.mg n run vs H Q (WE W σ) := by
  refine ⟨S, nil, ds, (), I.low0, r, hl, rfl, ?_⟩
  unfold up0 at h
  cases e : run ds () with
  | bad => rw [e] at h; exact h.elim
  | ok x u =>
    rw [e] at h
    refine fun v S' F' H' st hR' rv => ?_
    have hF : F' = nil := hR'
    subst hF
    exact h v S' F H' (Stp.back0 I st) (Z.mono _ _ _ _ st.ss hR) (rV_back0 I rv)
  | er x u =>
    rw [e] at h
    refine fun cls dx S' F' H' st hR' ex => ?_
    have hF : F' = nil := hR'
    subst hF
    exact h cls dx S' F H' (Stp.back0 I st) (Z.mono _ _ _ _ st.ss hR) ex
theorem de_call {x : Str} {k n : Nat} {run : List D → Z.G → Out Z.G SV} {fs : List (DSt → Z.G → Out Z.G SV)} {p : Pos} (C : Cal X.prog X.w X.K X.mg X.base x k n Z run) (hr : Room k X.A) (tk : Takes X W) (ha : DAs X Z W (e :: es) fs) (hn : fs.length = n := by rfl)
    (hg : Gl X x := by rfl) (hdb : (x == ("__debug__" : Str)) = false := by decide) (he : starEach (e :: es) X.env = (false, eval e X.env) :: starEach es X.env := by rfl) (hpl : (backTo pos (starEach es X.env)).any (·.1) = false := by rfl) :
    DE X Z W (.Call (.Name x p) (e :: es) [] pos) (fFn run fs) := by
  obtain ⟨f, fd, ps, F0, hm, hk, hb⟩ := C.ex
  refine de_of (pe_callS F0 hr hg hm hk hb (fun σ => passAt tk σ) ha hdb he hpl) fun S F O H σ sd g Q I rs hR hp => ?_
  refine ⟨S, F, O, sd, g, I, rs, hR, post_mono (lArgs_len _ _ (post_bind.mp hp)) (fun ds g1 q1 vs S1 F1 H1 st1 hR1 r1 => ?_) fun _ _ q => q⟩
  refine sp_in (X := X) (W := W) (σ := σ) st1.inn r1 (by rw [q1.1, List.length_map]; exact hn) hR1 (post_mono q1.2 (fun _ _ q => okQ_from backs_V I st1 q) fun _ _ q => erQ_from I st1 q)
/-- a def without effects is called -/
theorem de_call0 {x : Str} {k n : Nat} {run : List D → Unit → Out Unit SV} {fs : List (DSt → Z.G → Out Z.G SV)} {p : Pos} (C : Cal X.prog X.w X.K X.mg X.base x k n ZU run) (hr : Room k X.A) (tk : Takes X W) (ha : DAs X Z W (e :: es) fs) (hn : fs.length = n := by rfl)
    (hg : Gl X x := by rfl) (hdb : (x == ("__debug__" : Str)) = false := by decide) (he : starEach (e :: es) X.env = (false, eval e X.env) :: starEach es X.env := by rfl) (hpl : (backTo pos (starEach es X.env)).any (·.1) = false := by rfl) :
    DE X Z W (.Call (.Name x p) (e :: es) [] pos) (fFn (up0 run) fs) := by
  obtain ⟨f, fd, ps, F0, hm, hk, hb⟩ := C.ex
  refine de_of (pe_callS F0 hr hg hm hk hb (fun σ => passAt tk σ) ha hdb he hpl) fun S F O H σ sd g Q I rs hR hp => ?_
  refine ⟨S, F, O, sd, g, I, rs, hR, post_mono (lArgs_len _ _ (post_bind.mp hp)) (fun ds g1 q1 vs S1 F1 H1 st1 hR1 r1 => ?_) fun _ _ q => q⟩
  exact sp_in0 (X := X) (W := W) (σ := σ) st1.inn r1 (by rw [q1.1, List.length_map]; exact hn) hR1 (post_mono q1.2 (fun _ _ q => okQ_from backs_V I st1 q) fun _ _ q => erQ_from I st1 q)

/-! ### texts' methods -/
/-- a text: its data is a text -/
def asStr {G : Type} (f : DSt → G → Out G SV) : DSt → G → Out G (List Nat) := fun sd g => (toB f sd g).bind fun x g1 => match x with
  | .str l => .ok l g1
  | _ => .bad
def fM1 {G : Type} (op : List Nat → D → Option SV) (fa fb : DSt → G → Out G SV) : DSt → G → Out G SV := fun sd g => (asStr fa sd g).bind fun x g1 => (toB fb sd g1).bind fun y g2 => Out.lift (op x y) g2
theorem eg_tM1 {r : V → List V → Hp → VK → Prop} {op : List Nat → D → Option SV} (hs : ∀ (S F O H : Hp) (x : List Nat) (y : V) (dy : D) (z : SV) (Q : VK), Inn S F O H → RpB S O y dy → op x dy = some z → (∀ v S' H', Stp S F O H S' F O H' → rV H S' F O H' v z → Q v H') → r (.str (mk x)) [y] H Q)
    (ha : EG Z X.mg rV W ta fa) (hb : EG Z X.mg rV W tb fb) : EG Z X.mg rV W (tM1 r ta tb) (fM1 op fa fb) := fun S F O H σ sd g Q I rs hR hp => by
  unfold fM1 asStr at hp
  refine eg_b ha S F O H σ sd g _ I rs hR (post_mono (post_bind.mp (post_bind.mp hp)) (fun dx g1 q1 x S1 F1 H1 st1 hR1 r1 => ?_) fun _ _ q => q)
  split at q1
  · rename_i l
    have q1 : post _ _ ((toB fb sd g1).bind fun y g2 => Out.lift (op l y) g2) := q1
    have ex := rb_str r1
    subst ex
    refine ⟨⟨_, rfl⟩, eg_b hb S1 F1 O H1 σ sd g1 _ st1.inn (rs.mono st1.ss) hR1 (post_mono (post_bind.mp q1) (fun dy g2 q2 y S2 F2 H2 st2 hR2 r2 => ?_) fun _ _ q => erQ_from I st1 q)⟩
    obtain ⟨z, ez, q3⟩ := post_lift.mp q2
    refine hs S2 F2 O H2 l y dy z Q st2.inn r2 ez fun v S' H' st3 rv => ?_
    have st := (st1.trans I st2).trans I st3
    exact q3 v S' F2 H' st (Z.mono _ _ _ _ st3.ss hR2) (backs_V _ _ _ _ _ _ _ _ (fun _ z => back_none (st1.trans I st2) z) rv)
  · exact q1.elim
/-- split at a sign -/
def spl1 (s : Nat) : List Nat → List (List Nat)
  | [] => [[]]
  | c :: r => if c = s then [] :: spl1 s r else match spl1 s r with
    | [] => [[c]]
    | p :: ps => (c :: p) :: ps
theorem spl1_hit (s : Nat) (r : List Nat) : spl1 s (s :: r) = [] :: spl1 s r := by
  show (if s = s then _ else _) = _
  rw [if_pos rfl]
theorem spl1_miss {s c : Nat} (h : ¬ c = s) (r : List Nat) : spl1 s (c :: r) = match spl1 s r with
    | [] => [[c]]
    | p :: ps => (c :: p) :: ps := by
  show (if c = s then _ else _) = _
  rw [if_neg h]
theorem spl1_ne (s : Nat) : ∀ l, spl1 s l ≠ []
  | [] => by simp [spl1]
  | c :: r => by
    by_cases h : c = s
    · subst h; rw [spl1_hit]; simp
    · rw [spl1_miss h]
      cases spl1 s r <;> simp
theorem spl_spl1 (s : Nat) : ∀ (l acc : List Nat), TL.spl [s] 0 acc l = match spl1 s l with
    | [] => [acc]
    | p :: ps => (acc ++ p) :: ps
  | [], acc => by rw [TL.spl_nil]; simp [spl1]
  | c :: r, acc => by
    by_cases h : c = s
    · subst h
      rw [TL.spl_hit (by simp [TL.pre]), spl1_hit]
      show acc :: TL.spl [c] 0 [] r = (acc ++ []) :: spl1 c r
      rw [spl_spl1 c r []]
      cases e : spl1 c r with
      | nil => exact absurd e (spl1_ne c r)
      | cons p ps => simp
    · rw [TL.spl_miss (TL.pre_of_head [] r h), spl_spl1 s r, spl1_miss h]
      cases e : spl1 s r with
      | nil => exact absurd e (spl1_ne s r)
      | cons p ps => simp
theorem split_eq (x : List Nat) (s : Nat) (hs : s < 256) : Txt.split (mk x) (mk [s]) = (spl1 s x).map mk := by
  have h := TL.split_spl (mk x) (mk [s]) (by intro z; cases z) (TL.kind_ok (by simp [mk, hs]))
  rw [show TL.tl (mk [s]) = [s] from rfl, show TL.tl (mk x) = x from rfl, spl_spl1] at h
  apply TL.map_tl_inj
  rw [h, List.map_map]
  cases e : spl1 s x with
  | nil => exact absurd e (spl1_ne s x)
  | cons p ps =>
    simp only [List.nil_append]
    have : (TL.tl ∘ mk) = id := funext fun l => rfl
    rw [this, List.map_id]
def mSplit (x : List Nat) : D → Option SV
  | .str [s] => if s < 256 ∧ x.length + 2 ≤ lim then some (.ow (.lst ((spl1 s x).map .str))) else none
  | _ => none
theorem rpl_strs {S : Hp} : ∀ ls : List (List Nat), RpL S ((ls.map mk).map V.str) (ls.map D.str)
  | [] => .nil
  | l :: ls => .cons (.str l) (rpl_strs ls)
theorem de_split {apos : Pos} (ho : DE X Z W a fa) (he : DE X Z W e fb) (hs : starEach [e] X.env = [(false, eval e X.env)] := by rfl) (hbase : attributeBase a "split" X.env (eval a X.env) = eval a X.env := by rfl) (hline : (apos.endLine == pos.line) = true := by rfl) :
    DE X Z W (.Call (.Attribute a "split" apos) [e] [] pos) (fM1 mSplit fa fb) :=
  de_of (pe_split ho he hs hbase hline) (eg_tM1 (fun S F O H x y dy z Q I ry e k => by
    unfold mSplit at e
    split at e
    · split at e
      · rename_i s h
        cases e
        have ey := rb_str ry
        subst ey
        refine ⟨_, _, rfl, rfl, rfl, by rw [len_mk, lim_eq]; exact h.2, ?_⟩
        rw [split_eq x s h.1]
        exact new_lst I (rpl_strs _) k
      · cases e
    · cases e) eg_t eg_t)
def allStr : List D → Option (List (List Nat))
  | [] => some []
  | .str l :: r => (allStr r).map (l :: ·)
  | _ => none
theorem allStr_of {S : Hp} : ∀ {ds : List D} {ns : List (List Nat)} {vs : List V}, RpL S vs ds → allStr ds = some ns → vs = (ns.map mk).map V.str ∧ ds = ns.map D.str
  | [], ns, _, .nil, h => by cases h; exact ⟨rfl, rfl⟩
  | d :: ds, ns, _, .cons a b, h => by
    cases d with
    | str i =>
      have h : (allStr ds).map (i :: ·) = some ns := h
      cases e : allStr ds with
      | none => rw [e] at h; cases h
      | some ms =>
        rw [e] at h; cases h
        obtain ⟨e1, e2⟩ := allStr_of b e
        have e3 := rb_str (O := S) (.inl a)
        subst e1 e2 e3
        exact ⟨rfl, rfl⟩
    | _ => cases h
theorem allStr_map : ∀ ns : List (List Nat), allStr (ns.map D.str) = some ns
  | [] => rfl
  | n :: ns => by
    show (allStr (ns.map D.str)).map (n :: ·) = some (n :: ns)
    rw [allStr_map ns]; rfl
def mJoin (x : List Nat) : D → Option SV
  | .lst ds => (allStr ds).bind fun ls => if (ls.map (·.length)).sum + ls.length * x.length ≤ lim then some (.fr (.str (TL.joinL x ls))) else none
  | _ => none
theorem de_join {apos : Pos} (ho : DE X Z W a fa) (he : DE X Z W e fb) (hs : starEach [e] X.env = [(false, eval e X.env)] := by rfl) (hbase : attributeBase a "join" X.env (eval a X.env) = eval a X.env := by rfl) (hline : (apos.endLine == pos.line) = true := by rfl) :
    DE X Z W (.Call (.Attribute a "join" apos) [e] [] pos) (fM1 mJoin fa fb) :=
  de_of (pe_join ho he hs hbase hline) (eg_tM1 (fun S F O H x y dy z Q I ry e k => by
    unfold mJoin at e
    split at e
    · rename_i ds
      cases q : allStr ds with
      | none => rw [q] at e; cases e
      | some ls =>
        rw [q] at e
        have e : (if (ls.map (·.length)).sum + ls.length * x.length ≤ lim then some (SV.fr (.str (TL.joinL x ls))) else none) = some z := e
        split at e
        · rename_i h
          cases e
          obtain ⟨p, vs, rfl, hp, rp⟩ := rb_lst I ry
          obtain ⟨e1, e2⟩ := allStr_of rp q
          subst e1
          refine ⟨_, p, ls.map mk, rfl, rfl, .inl (SqL.of hp), ?_, ?_⟩
          · rw [List.map_map, List.length_map, len_mk]
            exact h
          · have ej : Txt.join (mk x) (ls.map mk) = mk (TL.joinL x ls) := by
              apply TL.ext_tl
              rw [TL.join_eq, TL.tl_join, List.map_map]
              have : (TL.tl ∘ mk) = id := funext fun l => rfl
              rw [this, List.map_id]
            rw [ej]
            exact k _ S H (Stp.refl I) (.str _)
        · cases e
    · cases e) eg_t eg_t)
end
end DL
namespace DL
open PySem PySem.Spec PyProof.Rows L2
/-! ### what is walked: its items' data -/
structure JIt (S0 O0 : Hp) (J : It) (ds : List D) : Prop where
  go : ∀ (S F O H : Hp) (i : Nat), Inn S F O H → Same S0 S → Same O0 O → i < ds.length → J.go i H
  yld : ∀ (S F O H : Hp) (i : Nat) (x : V) (H' : Hp), Inn S F O H → Same S0 S → Same O0 O → i < ds.length → J.yld i H x H' → ∃ S' d, Stp S F O H S' F O H' ∧ ds[i]? = some d ∧ Rp S' x d
  stop : ∀ (S F O H : Hp), Inn S F O H → Same S0 S → Same O0 O → J.stop ds.length H
theorem JIt.up {S0 O0 : Hp} {J : It} {ds : List D} (h : JIt S0 nil J ds) : JIt S0 O0 J ds :=
  ⟨fun S F O H i I a _ => h.go S F O H i I a (fun _ _ z => nomatch z), fun S F O H i x H' I a _ => h.yld S F O H i x H' I a (fun _ _ z => nomatch z), fun S F O H I a _ => h.stop S F O H I a (fun _ _ z => nomatch z)⟩
section
variable (Z : Eff) (mg : Str → Option Value)
/-- c: the frame's own lists are as they are while the walk lasts -/
def ownIf (c : Bool) (O : Hp) : Hp := if c = true then O else nil
def okI (c : Bool) (S F O H : Hp) (R : It → Hp → Prop) : List D → Z.G → Prop := fun ds g' => ∀ J S' F' H', Stp S F O H S' F' O H' → Z.R g' S' F' → JIt S' (ownIf c O) J ds → R J H'
def tI (c : Bool) (W : WX) (f : DSt → Z.G → Out Z.G (List D)) : TI := fun σ H R => ∃ (S F O : Hp) (sd : DSt) (g : Z.G), Inn S F O H ∧ RpS S O σ sd ∧ Z.R g S F ∧ post (okI Z c S F O H R) (erQ Z mg W σ S F O H) (f sd g)
end
def DI (c : Bool) (X : Cx) (Z : Eff) (W : WX) (tg e : Expr) (f : DSt → Z.G → Out Z.G (List D)) : Prop := PI X tg e (tI Z X.mg c W f)
section
variable {X : Cx} {Z : Eff} {W : WX} {e a b c tg : Expr} {es rest : List Expr} {te ta tb tc : TE} {pos p : Pos} {f fa fb fc : DSt → Z.G → Out Z.G SV} {k : Bool}
theorem pi_or {wi wi' : TI} (h : PI X tg e wi) (h' : PI X tg e wi') : PI X tg e (fun σ H R => wi σ H R ∨ wi' σ H R) := ⟨fun pins s σ H R I q => q.elim (h.run pins s σ H R I) (h'.run pins s σ H R I)⟩
theorem jit_list {K : PySem.W.Frag} {S0 O0 : Hp} {p : Addr} {ds : List D} {vs : List V} (h : ∀ S F O H, Inn S F O H → Same S0 S → Same O0 O → H p = some (.lst vs)) (r : RpL S0 vs ds) : JIt S0 O0 (Itl K p) ds where
  go S F O H i I a b hi := by
    have q := h S F O H I a b
    rw [← r.length] at hi
    exact ⟨vs, vs[i], SqL.of q, List.getElem?_eq_getElem hi⟩
  yld S F O H i x H' I a b hi y := by
    have q := h S F O H I a b
    obtain ⟨e, y⟩ := y
    subst e
    obtain ⟨d, h1, h2⟩ := r.get' (y vs (SqL.of q))
    exact ⟨S, d, Stp.refl I, h1, h2.mono a⟩
  stop S F O H I a b := ⟨vs, SqL.of (h S F O H I a b), Nat.le_of_eq r.length⟩
theorem jit_tup {K : PySem.W.Frag} {S0 O0 : Hp} {p : Addr} {ds : List D} {vs : List V} (h : ∀ S F O H, Inn S F O H → Same S0 S → Same O0 O → H p = some (.tup vs)) (r : RpL S0 vs ds) : JIt S0 O0 (Itt K p) ds where
  go S F O H i I a b hi := by
    have q := h S F O H I a b
    rw [← r.length] at hi
    exact ⟨vs, vs[i], SqT.of q, List.getElem?_eq_getElem hi⟩
  yld S F O H i x H' I a b hi y := by
    have q := h S F O H I a b
    obtain ⟨e, y⟩ := y
    subst e
    obtain ⟨d, h1, h2⟩ := r.get' (y vs (SqT.of q))
    exact ⟨S, d, Stp.refl I, h1, h2.mono a⟩
  stop S F O H I a b := ⟨vs, SqT.of (h S F O H I a b), Nat.le_of_eq r.length⟩
def signs (x : List Nat) : List D := x.map fun c => .str [c]
theorem jit_str {S0 O0 : Hp} (x : List Nat) : JIt S0 O0 (Its (mk x)) (signs x) where
  go S F O H i I a b hi := by
    rw [signs, List.length_map] at hi
    exact hi
  yld S F O H i v H' I a b hi y := by
    obtain ⟨e, c, y, ev⟩ := y
    subst e ev
    refine ⟨S, .str [c], Stp.refl I, ?_, .str [c]⟩
    rw [signs, List.getElem?_map]
    have y : x[i]? = some c := by simpa [mk] using y
    rw [y]; rfl
  stop S F O H I a b := by
    show (mk x).cps.size ≤ _
    rw [signs, List.length_map]
    exact Nat.le_refl _
def rng (lo : Int) (n : Nat) : List D := (List.range n).map fun (i : Nat) => .int (lo + (i : Int))
theorem rng_len (lo : Int) (n : Nat) : (rng lo n).length = n := by rw [rng, List.length_map, List.length_range]
theorem rng_get {lo : Int} {n i : Nat} (h : i < n) : (rng lo n)[i]? = some (.int (lo + (i : Int))) := by
  rw [rng, List.getElem?_map, List.getElem?_range h]; rfl
theorem jit_rng {S0 O0 : Hp} (lo : Int) (n : Nat) : JIt S0 O0 (Itr lo n) (rng lo n) where
  go S F O H i I a b hi := by rw [rng_len] at hi; exact hi
  yld S F O H i v H' I a b hi y := by
    obtain ⟨e, ev⟩ := y
    subst e ev
    rw [rng_len] at hi
    exact ⟨S, _, Stp.refl I, rng_get hi, .int _⟩
  stop S F O H I a b := by rw [rng_len]; exact Nat.le_refl n
/-! a list, a tuple, a text -/
def seqB : D → Option (List D)
  | .lst ds => some ds
  | .tup ds => some ds
  | .str x => some (signs x)
  | _ => none
def fSeq {G : Type} (k : Bool) (f : DSt → G → Out G SV) : DSt → G → Out G (List D) := fun sd g => (if k = true then toB f sd g else toD f sd g).bind fun d g1 => Out.lift (seqB d) g1
theorem ownIf_t {O : Hp} : ownIf true O = O := rfl
theorem ownIf_f {O : Hp} : ownIf false O = nil := rfl
theorem same_nil {S : Hp} : Same nil S := fun _ _ z => nomatch z
theorem jit_of {K : PySem.W.Frag} {S F O H : Hp} {v : V} {d : D} {ds : List D} (I : Inn S F O H) (r : if k = true then RpB S O v d else Rp S v d) (h : seqB d = some ds) :
    (∃ p, v = .ref p ∧ (∃ xs, SqL K H p xs) ∧ JIt S (ownIf k O) (Itl K p) ds ∧ ∃ x, d = .lst x) ∨ (∃ p, v = .ref p ∧ (∃ xs, SqT K H p xs) ∧ JIt S (ownIf k O) (Itt K p) ds ∧ ∃ x, d = .tup x) ∨ ∃ x, v = .str (mk x) ∧ JIt S (ownIf k O) (Its (mk x)) ds ∧ d = .str x := by
  have rB : RpB S O v d := by
    cases k with
    | true => exact r
    | false => exact .inl r
  unfold seqB at h
  split at h
  · cases h
    refine .inl ?_
    cases k with
    | false =>
      have r : Rp S v (.lst ds) := r
      cases r with
      | «at» q r =>
        cases r with
        | lst r => exact ⟨_, rfl, ⟨_, SqL.of (I.s _ _ q)⟩, jit_list (fun S' F' O' H' I' a b => I'.s _ _ (a _ _ q)) r, _, rfl⟩
    | true =>
      have r : RpB S O v (.lst ds) := r
      rcases r with r | ⟨p, o, e, q, r⟩
      · cases r with
        | «at» q r =>
          cases r with
          | lst r => exact ⟨_, rfl, ⟨_, SqL.of (I.s _ _ q)⟩, jit_list (fun S' F' O' H' I' a b => I'.s _ _ (a _ _ q)) r, _, rfl⟩
      · obtain ⟨r, _⟩ := r
        cases r with
        | lst r => exact ⟨_, e, ⟨_, SqL.of (I.o _ _ q)⟩, jit_list (fun S' F' O' H' I' a b => I'.o _ _ (b _ _ q)) r, _, rfl⟩
  · cases h
    refine .inr (.inl ?_)
    rcases rB with r | ⟨p, o, e, q, r⟩
    · cases r with
      | «at» q r =>
        cases r with
        | tup r => exact ⟨_, rfl, ⟨_, SqT.of (I.s _ _ q)⟩, jit_tup (fun S' F' O' H' I' a b => I'.s _ _ (a _ _ q)) r, _, rfl⟩
    · exact absurd rfl (r.2 _)
  · cases h
    exact .inr (.inr ⟨_, rb_str rB, jit_str _, rfl⟩)
  · cases h
theorem di_seq (h : DE X Z W e f) : DI k X Z W tg e (fSeq k f) := ⟨fun pins s σ H R I q => by
  obtain ⟨S, F, O, sd, g, i, r, hR, hp⟩ := q
  refine (pi_or (pi_list h) (pi_or (pi_tup h) (pi_str h))).run pins s σ H R I ?_
  have hp := post_bind.mp hp
  have key : ∀ Q : VK, (∀ v S' F' H' d ds (g' : Z.G), Stp S F O H S' F' O H' → Z.R g' S' F' → (if k = true then RpB S' O v d else Rp S' v d) → (if k = true then toB f sd g else toD f sd g) = .ok d g' → seqB d = some ds → okI Z k S F O H R ds g' → Q v H') → tE Z X.mg rV W f σ H Q := fun Q hq => by
    cases k with
    | true =>
      have hp : post _ _ (toB f sd g) := hp
      refine (eg_b (Z := Z) (mg := X.mg) (W := W) (te := tE Z X.mg rV W f) eg_t) S F O H σ sd g Q i r hR ?_
      cases e : toB f sd g with
      | bad => rw [e] at hp; exact hp.elim
      | er x g' => rw [e] at hp; exact hp
      | ok d g' =>
        rw [e] at hp
        obtain ⟨ds, eds, q⟩ := post_lift.mp hp
        exact fun v S' F' H' st hR' rv => hq v S' F' H' d ds g' st hR' rv e eds q
    | false =>
      have hp : post _ _ (toD f sd g) := hp
      refine (eg_d (Z := Z) (mg := X.mg) (W := W) (te := tE Z X.mg rV W f) eg_t) S F O H σ sd g Q i r hR ?_
      cases e : toD f sd g with
      | bad => rw [e] at hp; exact hp.elim
      | er x g' => rw [e] at hp; exact hp
      | ok d g' =>
        rw [e] at hp
        obtain ⟨ds, eds, q⟩ := post_lift.mp hp
        exact fun v S' F' H' st hR' rv => hq v S' F' H' d ds g' st hR' rv e eds q
  -- which of the three
  cases e0 : (if k = true then toB f sd g else toD f sd g) with
  | bad => rw [e0] at hp; exact hp.elim
  | er x g' =>
    refine .inl (key _ fun v S' F' H' d ds g2 st hR' rv e1 => ?_)
    rw [e0] at e1; cases e1
  | ok d g' =>
    rw [e0] at hp
    obtain ⟨ds, eds, q⟩ := post_lift.mp hp
    have fin : ∀ d2 ds2 g2, (if k = true then toB f sd g else toD f sd g) = .ok d2 g2 → seqB d2 = some ds2 → d2 = d ∧ ds2 = ds ∧ g2 = g' := fun d2 ds2 g2 e1 e2 => by
      rw [e0] at e1
      cases e1
      rw [eds] at e2
      cases e2
      exact ⟨rfl, rfl, rfl⟩
    have hd : (∃ x, d = .lst x) ∨ (∃ x, d = .tup x) ∨ ∃ x, d = .str x := by
      cases d <;> first | exact .inl ⟨_, rfl⟩ | exact .inr (.inl ⟨_, rfl⟩) | exact .inr (.inr ⟨_, rfl⟩) | cases eds
    rcases hd with hd | hd | hd
    · refine .inl (key _ fun v S' F' H' d2 ds2 g2 st hR' rv e1 e2 q2 => ?_)
      obtain ⟨e3, e4, e5⟩ := fin d2 ds2 g2 e1 e2
      obtain ⟨y, hd⟩ := hd
      rcases jit_of (K := X.K) st.inn rv e2 with ⟨p, a1, a2, a3, x, a4⟩ | ⟨p, a1, a2, a3, x, a4⟩ | ⟨x, a1, a3, a4⟩
      · exact ⟨p, a1, a2, q2 _ _ _ _ st hR' a3⟩
      · rw [e3, hd] at a4; cases a4
      · rw [e3, hd] at a4; cases a4
    · refine .inr (.inl (key _ fun v S' F' H' d2 ds2 g2 st hR' rv e1 e2 q2 => ?_))
      obtain ⟨e3, e4, e5⟩ := fin d2 ds2 g2 e1 e2
      obtain ⟨y, hd⟩ := hd
      rcases jit_of (K := X.K) st.inn rv e2 with ⟨p, a1, a2, a3, x, a4⟩ | ⟨p, a1, a2, a3, x, a4⟩ | ⟨x, a1, a3, a4⟩
      · rw [e3, hd] at a4; cases a4
      · exact ⟨p, a1, a2, q2 _ _ _ _ st hR' a3⟩
      · rw [e3, hd] at a4; cases a4
    · refine .inr (.inr (key _ fun v S' F' H' d2 ds2 g2 st hR' rv e1 e2 q2 => ?_))
      obtain ⟨e3, e4, e5⟩ := fin d2 ds2 g2 e1 e2
      obtain ⟨y, hd⟩ := hd
      rcases jit_of (K := X.K) st.inn rv e2 with ⟨p, a1, a2, a3, x, a4⟩ | ⟨p, a1, a2, a3, x, a4⟩ | ⟨x, a1, a3, a4⟩
      · rw [e3, hd] at a4; cases a4
      · rw [e3, hd] at a4; cases a4
      · exact ⟨_, a1, q2 _ _ _ _ st hR' a3⟩⟩
/-! range -/
theorem len_two {α : Type} : ∀ {l : List α}, l.length = 2 → ∃ a b, l = [a, b]
  | [], h => nomatch h
  | [_], h => nomatch h
  | [a, b], _ => ⟨a, b, rfl⟩
  | _ :: _ :: _ :: _, h => by simp at h
noncomputable def rgB : List D → Option (List D)
  | [.int j] => @ite _ (-(2 ^ 62) ≤ j ∧ j < 2 ^ 62) (Classical.propDecidable _) (some (rng 0 j.toNat)) none
  | [.int i, .int j] => @ite _ (-(2 ^ 62) ≤ i ∧ i < 2 ^ 62 ∧ -(2 ^ 62) ≤ j ∧ j < 2 ^ 62) (Classical.propDecidable _) (some (rng i (j - i).toNat)) none
  | _ => none
noncomputable def fRng {G : Type} (fs : List (DSt → G → Out G SV)) : DSt → G → Out G (List D) := fun sd g => (lArgs (fs.map toB) sd g).bind fun ds g1 => Out.lift (rgB ds) g1
theorem di_rng1 (ha : DRs X Z W [a] [fa]) (hm : X.mg "range" = none) (hg : Gl X "range" := by rfl) (hs : starEach [a] X.env = [(false, eval a X.env)] := by rfl) : DI k X Z W tg (.Call (.Name "range" p) [a] [] pos) (fRng [fa]) := ⟨fun pins s σ H R I q => by
  obtain ⟨S, F, O, sd, g, i, r, hR, hp⟩ := q
  refine (pi_range1 hg hm ha hs).run pins s σ H R I ⟨S, F, O, sd, g, i, r, hR, post_mono (lArgs_len _ _ (post_bind.mp hp)) (fun ds g1 q1 vs S1 F1 H1 st1 hR1 r1 => ?_) fun _ _ q => q⟩
  obtain ⟨ds2, e2, q2⟩ := post_lift.mp q1.2
  obtain ⟨d, rfl⟩ : ∃ d, ds = [d] := List.length_eq_one_iff.mp q1.1
  obtain ⟨v, rfl, r2⟩ := rbl_one r1
  unfold rgB at e2
  split at e2
  · rename_i j e0
    cases e0
    split at e2
    · rename_i hj
      cases e2
      rw [rb_int r2]
      exact ⟨j, rfl, hj.1, hj.2, q2 _ _ _ _ st1 hR1 (jit_rng 0 j.toNat)⟩
    · cases e2
  · rename_i e0; cases e0
  · cases e2⟩
theorem di_rng2 (ha : DRs X Z W [a, b] [fa, fb]) (hm : X.mg "range" = none) (hg : Gl X "range" := by rfl) (hs : starEach [a, b] X.env = [(false, eval a X.env), (false, eval b X.env)] := by rfl) (hs2 : starEach [b] X.env = [(false, eval b X.env)] := by rfl) : DI k X Z W tg (.Call (.Name "range" p) [a, b] [] pos) (fRng [fa, fb]) := ⟨fun pins s σ H R I q => by
  obtain ⟨S, F, O, sd, g, i, r, hR, hp⟩ := q
  refine (pi_range2 hg hm ha hs hs2).run pins s σ H R I ⟨S, F, O, sd, g, i, r, hR, post_mono (lArgs_len _ _ (post_bind.mp hp)) (fun ds g1 q1 vs S1 F1 H1 st1 hR1 r1 => ?_) fun _ _ q => q⟩
  obtain ⟨ds2, e2, q2⟩ := post_lift.mp q1.2
  obtain ⟨d, d', rfl⟩ := len_two q1.1
  obtain ⟨v, w, rfl, r2, r3⟩ := rbl_two r1
  unfold rgB at e2
  split at e2
  · rename_i e0; cases e0
  · rename_i i' j e0
    cases e0
    split at e2
    · rename_i hj
      cases e2
      rw [rb_int r2, rb_int r3]
      exact ⟨i', j, rfl, hj, q2 _ _ _ _ st1 hR1 (jit_rng i' (j - i').toNat)⟩
    · cases e2
  · cases e2⟩
end
end DL
namespace DL
open PySem PySem.Spec PyProof.Rows L2
/-! ### enumerate -/
/-- the signs of x, each in a new pair -/
def Iteu (x : Str) : It :=
  ⟨fun i _ => i < x.cps.size, fun i H v H' => ∃ T c, v = .ref T ∧ H T = none ∧ H' = upd H T (.tup [.int (i : Nat), .str ⟨#[c]⟩]) ∧ x.cps[i]? = some c, fun i _ => i = x.cps.size⟩
theorem turn_enumU {P : Program} {w : World} {K : PySem.W.Frag} {elts : List Expr} {kk : Nat} {tpos : Pos} (x : Str) (t : Tok) (e it : Addr) :
    Turn P w K (.Tuple elts kk tpos) (Iteu x) [e, it] e (fun i h => (∃ old, IsEnum h e it ((i : Nat) : Int) old) ∧ h.IsStrIter it (strIterType x) x t i ∧ e ≠ it) where
  mem := by simp
  obj := fun i h st b hb => by
    obtain ⟨⟨old, he⟩, ⟨o, ho, hc, hd⟩, _⟩ := st
    have e' : b = e ∨ b = it := by simpa using hb
    rcases e' with z | z
    · rw [z]; exact ⟨_, he, fun v q => nomatch q⟩
    · rw [z]; exact ⟨o, ho, fun v q => by rw [hd] at q; cases q⟩
  keep := fun i h h' st k => let ⟨⟨old, he⟩, ⟨o, ho, r⟩, hne⟩ := st; ⟨⟨old, k e (by simp) _ he⟩, ⟨o, k it (by simp) o ho, r⟩, hne⟩
  item := by
    intro X hP hw hK hc i pins s σ H E I hf st hg
    subst hP hw hK
    obtain ⟨⟨old, he⟩, hit, hne⟩ := st
    have hel : e < s.heap.objs.size := Heap.lt_size he
    have hil : it < s.heap.objs.size := by obtain ⟨_, q, _⟩ := hit; exact Heap.lt_size q
    have hh : X.A.in1.handled = none := I.ok.hd hc
    refine wpAny_pyNext_enum_itemD (Draws.text hh it x t) he hit hg hne (by simpa using hne) fun u h' tk hu ho hit' hT hsz hk => ?_
    obtain ⟨c, tu, hcx, rfl⟩ := hu
    refine ⟨_, rfl, wpAny_letOwnedTupleGo_enum (s := { s with heap := h', toks := tk + 1 }) ho fun h'' he' sb => ?_⟩
    have hT2 : h''.get? s.heap.objs.size = some { cls := .type "tuple", data := .seq #[.int i tk, .str ⟨#[c]⟩ tu] } := (sb.2 _ (Nat.ne_of_gt hel)).trans hT
    have new : ObjOk X.prog X.w (upd H s.heap.objs.size (.tup [.int (i : Nat), .str ⟨#[c]⟩])) h'' s.heap.objs.size (.tup [.int (i : Nat), .str ⟨#[c]⟩]) :=
      ⟨by show 2 ≤ sizeLine; decide, [.int i tk, .str ⟨#[c]⟩ tu], .cons ⟨_, rfl⟩ (.cons ⟨_, rfl⟩ .nil), ⟨_, hT2, rfl, _, rfl⟩⟩
    have I1 : Inv X pins σ (upd H s.heap.objs.size (.tup [.int (i : Nat), .str ⟨#[c]⟩])) { s with heap := h'', toks := tk + 1 } :=
      I.turnedNew (ch := [e, it]) (fun b ob hb q => (sb.2 b (fun z => hb (by simp [z]))).trans (hk b ob (fun z => hb (by simp [z])) (fun z => hb (by simp [z])) q)) hf (Nat.le_refl _) new
    refine ⟨.ref s.heap.objs.size, _, I1, rfl, ⟨_, c, rfl, I.hok.fresh (Nat.le_refl _), rfl, hcx⟩, ⟨⟨.str ⟨#[c]⟩ tu, ?_⟩, ?_, hne⟩, fun b hb => ?_⟩
    · have e1 : ((i + 1 : Nat) : Int) = (i : Int) + 1 := by omega
      rw [e1]; exact he'
    · obtain ⟨o, q1, q2⟩ := hit'
      exact ⟨o, (sb.2 it (Ne.symm hne)).trans q1, q2⟩
    · have hb' : b < s.heap.objs.size := by
        have e' : b = e ∨ b = it := by simpa using hb
        rcases e' with z | z
        · rw [z]; exact hel
        · rw [z]; exact hil
      rw [upd_ne (Nat.ne_of_lt hb')]
      exact (hf b hb).1
  done := by
    intro X hP hw hK hc i pins s σ H E I hf st hg
    subst hP hw hK
    obtain ⟨⟨old, he⟩, hit, hne⟩ := st
    have hg : i = x.cps.size := hg
    subst hg
    have hh : X.A.in1.handled = none := I.ok.hd hc
    obtain ⟨f0, f1, f2, f3, f4, f5⟩ := hf it (by simp)
    exact wpAny_pyNext_enum_endD (Draws.text hh it x t) he hit fun h' eb => ⟨rfl, I.turned (t' := s.toks) (fun b o hb q => eb b o hb q) f0 f1 f3 f4 f5⟩
  self := fun A i s Q E st h => let ⟨⟨_, he⟩, _⟩ := st; wpAny_pyIter_enum he h
def iEnumU (ta : TA) : TI := fun σ H R => ta σ H fun vs H1 => ∃ x, vs = [.str x] ∧ R (Iteu x) H1
theorem pi_enumU {X : Cx} {e : Expr} {ta : TA} {p pos tpos : Pos} {elts : List Expr} {kk : Nat} (hg : Gl X "enumerate") (hm : X.mg "enumerate" = none) (ha : PA X [e] ta) (hs : starEach [e] X.env = [(false, eval e X.env)] := by rfl) :
    PI X (.Tuple elts kk tpos) (.Call (.Name "enumerate" p) [e] [] pos) (iEnumU ta) := by
  refine ⟨fun pins s σ H R I h => ?_⟩
  refine Call_ (ld_blt I hg hm boot_enumerate (PyProof.Rows.callWith_type1 (thn (ha.run pos pins s σ H _ I h) fun us s1 ⟨vs, H1, I1, r1, q1⟩ => ?_) hs rfl))
  obtain ⟨x, ex, q⟩ := q1
  subst ex
  obtain ⟨u, rfl, r2⟩ := vals1 r1
  obtain ⟨t, rfl⟩ := r2
  refine call_enumerate_str fun h' he hit hsz hk => wpAny_pyIter_enum he ?_
  have I2 : Inv X pins σ H1 { s1 with heap := h' } := I1.kept (t' := s1.toks) hk
  refine ⟨s1.heap.objs.size + 1, [s1.heap.objs.size + 1, s1.heap.objs.size], _, _, H1, rfl, I2, turn_enumU x t (s1.heap.objs.size + 1) s1.heap.objs.size, ⟨⟨.none, he⟩, hit, Nat.succ_ne_self _⟩, fun b hb => ?_, q⟩
  have e' : b = s1.heap.objs.size + 1 ∨ b = s1.heap.objs.size := by simpa using hb
  have hle : s1.heap.objs.size ≤ b := by
    rcases e' with z | z
    · rw [z]; exact Nat.le_add_right _ _
    · rw [z]; exact Nat.le_refl _
  exact I1.fpOk hle (I1.hok.fresh hle)
def enumF : Nat → List D → List D
  | _, [] => []
  | n, d :: ds => .tup [.int (n : Int), d] :: enumF (n + 1) ds
theorem enumF_len : ∀ (ds : List D) (n : Nat), (enumF n ds).length = ds.length
  | [], _ => rfl
  | d :: ds, n => by
    show (enumF (n + 1) ds).length + 1 = ds.length + 1
    rw [enumF_len ds]
theorem enumF_get : ∀ (ds : List D) (n i : Nat) (d : D), ds[i]? = some d → (enumF n ds)[i]? = some (.tup [.int ((n + i : Nat) : Int), d])
  | [], _, _, _, h => by simp at h
  | e :: ds, n, 0, d, h => by simp at h; subst h; rfl
  | e :: ds, n, i + 1, d, h => by
    show (enumF (n + 1) ds)[i]? = _
    rw [enumF_get ds (n + 1) i d (by simpa using h)]
    have : n + 1 + i = n + (i + 1) := by omega
    rw [this]
theorem yld_tup {S F O H : Hp} {T : Addr} {i : Int} {v : V} {d : D} (I : Inn S F O H) (hT : H T = none) (r : Rp S v d) : ∃ S', Stp S F O H S' F O (upd H T (.tup [.int i, v])) ∧ Rp S' (.ref T) (.tup [.int i, d]) := by
  refine ⟨_, Stp.new I hT, .at upd_same (.tup ?_)⟩
  exact .cons (.int i) (.cons (r.mono (same_new (I.noS hT))) .nil)
theorem jit_enumL {K : PySem.W.Frag} {S0 O0 : Hp} {p : Addr} {ds : List D} {vs : List V} (h : ∀ S F O H, Inn S F O H → Same S0 S → Same O0 O → H p = some (.lst vs)) (r : RpL S0 vs ds) : JIt S0 O0 (Ite K p) (enumF 0 ds) where
  go S F O H i I a b hi := by
    have q := h S F O H I a b
    rw [enumF_len, ← r.length] at hi
    exact ⟨vs, vs[i], SqL.of q, List.getElem?_eq_getElem hi⟩
  yld S F O H i x H' I a b hi y := by
    have q := h S F O H I a b
    obtain ⟨T, v, e1, hT, e2, y⟩ := y
    subst e1 e2
    obtain ⟨d, h1, h2⟩ := r.get' (y vs (SqL.of q))
    obtain ⟨S', st, rp⟩ := yld_tup I hT (h2.mono a)
    exact ⟨S', _, st, by have := enumF_get ds 0 i d h1; rwa [Nat.zero_add] at this, rp⟩
  stop S F O H I a b := ⟨vs, SqL.of (h S F O H I a b), by rw [enumF_len, r.length]; exact Nat.le_refl _⟩
theorem signs_get {x : List Nat} {i c : Nat} (h : x[i]? = some c) : (signs x)[i]? = some (.str [c]) := by
  rw [signs, List.getElem?_map, h]; rfl
theorem jit_enumU {S0 O0 : Hp} (x : List Nat) : JIt S0 O0 (Iteu (mk x)) (enumF 0 (signs x)) where
  go S F O H i I a b hi := by
    rw [enumF_len, signs, List.length_map] at hi
    exact hi
  yld S F O H i v H' I a b hi y := by
    obtain ⟨T, c, e1, hT, e2, y⟩ := y
    subst e1 e2
    have y : x[i]? = some c := by simpa [mk] using y
    obtain ⟨S', st, rp⟩ := yld_tup (i := (i : Int)) I hT (Rp.str (S := S) [c])
    exact ⟨S', _, st, by have := enumF_get (signs x) 0 i _ (signs_get y); rwa [Nat.zero_add] at this, rp⟩
  stop S F O H I a b := by
    show _ = (mk x).cps.size
    rw [enumF_len, signs, List.length_map]
    rfl
def enumB : D → Option (List D)
  | .lst ds => some (enumF 0 ds)
  | .str x => some (enumF 0 (signs x))
  | _ => none
section
variable {X : Cx} {Z : Eff} {W : WX} {e a b c tg : Expr} {es rest : List Expr} {te ta tb tc : TE} {pos p : Pos} {f fa fb fc : DSt → Z.G → Out Z.G SV} {k : Bool}
/-- arguments that are read, or kept -/
def rlK (k : Bool) : RL := if k = true then rlB else rlD
def toK {G : Type} (k : Bool) : (DSt → G → Out G SV) → DSt → G → Out G D := if k = true then toB else toD
def DKs (k : Bool) (X : Cx) (Z : Eff) (W : WX) (es : List Expr) (fs : List (DSt → Z.G → Out Z.G SV)) : Prop := PA X es (tA' Z X.mg (rlK k) W (lArgs (fs.map (toK k))))
theorem dk_r {fs : List (DSt → Z.G → Out Z.G SV)} (h : DRs X Z W es fs) : DKs true X Z W es fs := h
theorem dk_a {fs : List (DSt → Z.G → Out Z.G SV)} (h : DAs X Z W es fs) : DKs false X Z W es fs := h
def fEnum {G : Type} (k : Bool) (f : DSt → G → Out G SV) : DSt → G → Out G (List D) := fun sd g => (lArgs ([f].map (toK k)) sd g).bind fun ds g1 => Out.lift (match ds with
  | [d] => enumB d
  | _ => none) g1
theorem rlk_one {S O : Hp} {vs : List V} {d : D} (r : rlK k S O vs [d]) : ∃ v, vs = [v] ∧ if k = true then RpB S O v d else Rp S v d := by
  cases k with
  | true => exact rbl_one r
  | false =>
    have r : RpL S vs [d] := r
    cases r with
    | cons a b => cases b; exact ⟨_, rfl, a⟩
theorem rp_seq {S F O H : Hp} {v : V} {ds : List D} (I : Inn S F O H) (r : if k = true then RpB S O v (.lst ds) else Rp S v (.lst ds)) :
    ∃ p vs, v = .ref p ∧ H p = some (.lst vs) ∧ RpL S vs ds ∧ ∀ S' F' O' H', Inn S' F' O' H' → Same S S' → Same (ownIf k O) O' → H' p = some (.lst vs) := by
  cases k with
  | false =>
    have r : Rp S v (.lst ds) := r
    cases r with
    | «at» q r =>
      cases r with
      | lst r => exact ⟨_, _, rfl, I.s _ _ q, r, fun S' F' O' H' I' a b => I'.s _ _ (a _ _ q)⟩
  | true =>
    have r : RpB S O v (.lst ds) := r
    rcases r with r | ⟨p, o, e, q, r⟩
    · cases r with
      | «at» q r =>
        cases r with
        | lst r => exact ⟨_, _, rfl, I.s _ _ q, r, fun S' F' O' H' I' a b => I'.s _ _ (a _ _ q)⟩
    · obtain ⟨r, _⟩ := r
      cases r with
      | lst r => exact ⟨_, _, e, I.o _ _ q, r, fun S' F' O' H' I' a b => I'.o _ _ (b _ _ q)⟩
theorem kb_of {S O : Hp} {v : V} {d : D} (r : if k = true then RpB S O v d else Rp S v d) : RpB S O v d := by
  cases k with
  | true => exact r
  | false => exact .inl r
theorem di_enum {elts : List Expr} {kk : Nat} {tpos : Pos} (ha : DKs k X Z W [e] [f]) (hm : X.mg "enumerate" = none) (hg : Gl X "enumerate" := by rfl) (hs : starEach [e] X.env = [(false, eval e X.env)] := by rfl) :
    DI k X Z W (.Tuple elts kk tpos) (.Call (.Name "enumerate" p) [e] [] pos) (fEnum k f) := ⟨fun pins s σ H R I q => by
  obtain ⟨S, F, O, sd, g, i, r, hR, hp⟩ := q
  refine (pi_or (pi_enum hg hm ha hs) (pi_enumU hg hm ha hs)).run pins s σ H R I ?_
  have hp := post_bind.mp hp
  cases e0 : lArgs ([f].map (toK k)) sd g with
  | bad => rw [e0] at hp; exact hp.elim
  | er x g' =>
    rw [e0] at hp
    exact .inl ⟨S, F, O, sd, g, i, r, hR, by rw [e0]; exact hp⟩
  | ok ds g' =>
    rw [e0] at hp
    obtain ⟨ds2, e2, q2⟩ := post_lift.mp hp
    split at e2
    · rename_i d
      unfold enumB at e2
      split at e2
      · cases e2
        refine .inl ⟨S, F, O, sd, g, i, r, hR, ?_⟩
        rw [e0]
        intro vs S1 F1 H1 st1 hR1 r1
        obtain ⟨v, rfl, r2⟩ := rlk_one r1
        obtain ⟨p, xs, rfl, h1, h2, h3⟩ := rp_seq st1.inn r2
        exact ⟨p, xs, rfl, SqL.of h1, q2 _ _ _ _ st1 hR1 (jit_enumL h3 h2)⟩
      · cases e2
        refine .inr ⟨S, F, O, sd, g, i, r, hR, ?_⟩
        rw [e0]
        intro vs S1 F1 H1 st1 hR1 r1
        obtain ⟨v, rfl, r2⟩ := rlk_one r1
        rw [rb_str (kb_of r2)]
        exact ⟨_, rfl, q2 _ _ _ _ st1 hR1 (jit_enumU _)⟩
      · cases e2
    · cases e2⟩
end
end DL
namespace DL
open PySem PySem.Spec PyProof.Rows L2
/-! ### the slots change -/
section
variable {S F O H : Hp} {σ : L2.St} {sd : DSt} {i : Nat} {d : D} {v : V}
theorem RpS.setFr (r : RpS S O σ sd) (q : Rp S v d) : RpS S O (σ.set i (some v)) (sd.set i (some (.fr d))) := by
  have len := r.len
  refine ⟨by rw [List.length_set, List.length_set, len], fun j e h => ?_, fun j e h => ?_, fun j l e e' p h1 h2 h3 h4 => ?_, fun j e h => ?_⟩
  · by_cases hj : i = j
    · subst hj
      have hi : i < sd.length := Nat.lt_of_not_le fun z => by rw [List.getElem?_eq_none (by rw [List.length_set]; exact z)] at h; cases h
      rw [List.getElem?_set_self hi] at h
      cases h
      exact ⟨v, List.getElem?_set_self (by rw [len]; exact hi), q⟩
    · rw [List.getElem?_set_ne hj] at h
      obtain ⟨w, a, b⟩ := r.fr j e h
      exact ⟨w, by rw [List.getElem?_set_ne hj]; exact a, b⟩
  · by_cases hj : i = j
    · subst hj
      have hi : i < sd.length := Nat.lt_of_not_le fun z => by rw [List.getElem?_eq_none (by rw [List.length_set]; exact z)] at h; cases h
      rw [List.getElem?_set_self hi] at h
      cases h
    · rw [List.getElem?_set_ne hj] at h
      obtain ⟨p, o, a, b, c⟩ := r.ow j e h
      exact ⟨p, o, by rw [List.getElem?_set_ne hj]; exact a, b, c⟩
  · have nj : ∀ {j e}, (sd.set i (some (.fr d)))[j]? = some (some (SV.ow e)) → i ≠ j := fun {j e} h z => by
      subst z
      have hi : i < sd.length := Nat.lt_of_not_le fun z => by rw [List.getElem?_eq_none (by rw [List.length_set]; exact z)] at h; cases h
      rw [List.getElem?_set_self hi] at h
      cases h
    have a := nj h1
    have b := nj h2
    rw [List.getElem?_set_ne a] at h1 h3
    rw [List.getElem?_set_ne b] at h2 h4
    exact r.ne j l e e' p h1 h2 h3 h4
  · by_cases hj : i = j
    · subst hj
      have hi : i < sd.length := Nat.lt_of_not_le fun z => by rw [List.getElem?_eq_none (by rw [List.length_set]; exact z)] at h; cases h
      rw [List.getElem?_set_self hi] at h
      cases h
    · rw [List.getElem?_set_ne hj] at h
      exact r.nb j e h
theorem RpS.clear (r : RpS S O σ sd) : RpS S O (σ.set i none) (sd.set i none) := by
  have len := r.len
  have nj : ∀ {j : Nat} {x : SV}, (sd.set i none)[j]? = some (some x) → i ≠ j := fun {j x} h z => by
    subst z
    have hi : i < sd.length := Nat.lt_of_not_le fun z => by rw [List.getElem?_eq_none (by rw [List.length_set]; exact z)] at h; cases h
    rw [List.getElem?_set_self hi] at h
    cases h
  refine ⟨by rw [List.length_set, List.length_set, len], fun j e h => ?_, fun j e h => ?_, fun j l e e' p h1 h2 h3 h4 => ?_, fun j e h => ?_⟩
  · have hj := nj h
    rw [List.getElem?_set_ne hj] at h ⊢
    exact r.fr j e h
  · have hj := nj h
    rw [List.getElem?_set_ne hj] at h ⊢
    exact r.ow j e h
  · have a := nj h1
    have b := nj h2
    rw [List.getElem?_set_ne a] at h1 h3
    rw [List.getElem?_set_ne b] at h2 h4
    exact r.ne j l e e' p h1 h2 h3 h4
  · rw [List.getElem?_set_ne (nj h)] at h
    exact r.nb j e h
def wipeD (sd : DSt) : List Nat → DSt
  | [] => sd
  | v :: vs => (wipeD sd vs).set v none
theorem RpS.wipe (r : RpS S O σ sd) : ∀ vs : List Nat, RpS S O (wipe σ vs) (wipeD sd vs)
  | [] => r
  | v :: vs => (RpS.wipe r vs).clear
/-- a new list or dict in a slot -/
theorem RpS.setOw {p : Addr} {o : HO} (r : RpS S O σ sd) (hp : O p = none) (q : RpW S o d) : RpS S (upd O p o) (σ.set i (some (.ref p))) (sd.set i (some (.ow d))) := by
  have len := r.len
  have old : ∀ {j e}, (sd.set i (some (.ow d)))[j]? = some (some (SV.ow e)) → i ≠ j → ∃ p' o', σ[j]? = some (some (V.ref p')) ∧ O p' = some o' ∧ RpW S o' e ∧ p' ≠ p := fun {j e} h hj => by
    rw [List.getElem?_set_ne hj] at h
    obtain ⟨p', o', a, b, c⟩ := r.ow j e h
    exact ⟨p', o', a, b, c, fun z => by rw [z, hp] at b; cases b⟩
  refine ⟨by rw [List.length_set, List.length_set, len], fun j e h => ?_, fun j e h => ?_, fun j l e e' p2 h1 h2 h3 h4 => ?_, fun j e h => ?_⟩
  · by_cases hj : i = j
    · subst hj
      have hi : i < sd.length := Nat.lt_of_not_le fun z => by rw [List.getElem?_eq_none (by rw [List.length_set]; exact z)] at h; cases h
      rw [List.getElem?_set_self hi] at h
      cases h
    · rw [List.getElem?_set_ne hj] at h
      obtain ⟨w, a, b⟩ := r.fr j e h
      exact ⟨w, by rw [List.getElem?_set_ne hj]; exact a, b⟩
  · by_cases hj : i = j
    · subst hj
      have hi : i < sd.length := Nat.lt_of_not_le fun z => by rw [List.getElem?_eq_none (by rw [List.length_set]; exact z)] at h; cases h
      rw [List.getElem?_set_self hi] at h
      cases h
      exact ⟨p, o, List.getElem?_set_self (by rw [len]; exact hi), upd_same, q⟩
    · obtain ⟨p', o', a, b, c, n⟩ := old h hj
      exact ⟨p', o', by rw [List.getElem?_set_ne hj]; exact a, by rw [upd_ne n]; exact b, c⟩
  · by_cases hj : i = j
    · by_cases hl : i = l
      · rw [← hj, ← hl]
      · subst hj
        have hi : i < sd.length := Nat.lt_of_not_le fun z => by rw [List.getElem?_eq_none (by rw [List.length_set]; exact z)] at h1; cases h1
        rw [List.getElem?_set_self (by rw [len]; exact hi)] at h3
        cases h3
        obtain ⟨p', o', a, b, c, n⟩ := old h2 hl
        rw [List.getElem?_set_ne hl, a] at h4
        cases h4
        exact absurd rfl n
    · by_cases hl : i = l
      · subst hl
        have hi : i < sd.length := Nat.lt_of_not_le fun z => by rw [List.getElem?_eq_none (by rw [List.length_set]; exact z)] at h2; cases h2
        rw [List.getElem?_set_self (by rw [len]; exact hi)] at h4
        cases h4
        obtain ⟨p', o', a, b, c, n⟩ := old h1 hj
        rw [List.getElem?_set_ne hj, a] at h3
        cases h3
        exact absurd rfl n
      · rw [List.getElem?_set_ne hj] at h1 h3
        rw [List.getElem?_set_ne hl] at h2 h4
        exact r.ne j l e e' p2 h1 h2 h3 h4
  · by_cases hj : i = j
    · subst hj
      have hi : i < sd.length := Nat.lt_of_not_le fun z => by rw [List.getElem?_eq_none (by rw [List.length_set]; exact z)] at h; cases h
      rw [List.getElem?_set_self hi] at h
      cases h
    · rw [List.getElem?_set_ne hj] at h
      exact r.nb j e h
end

/-! ### targets -/
/-- the slots at is may change -/
def Oth (is : List Nat) (σ σ' : L2.St) : Prop := σ'.length = σ.length ∧ ∀ j, j ∉ is → σ'[j]? = σ[j]?
theorem Oth.refl {is : List Nat} {σ : L2.St} : Oth is σ σ := ⟨rfl, fun _ _ => rfl⟩
theorem Oth.wipe {is : List Nat} {σ σ' : L2.St} (h : Oth is σ σ') : L2.wipe σ' is = L2.wipe σ is := by
  have key : ∀ (vs : List Nat) (τ : L2.St) (j : Nat), (L2.wipe τ vs)[j]? = if j ∈ vs then (if j < τ.length then some none else none) else τ[j]? := fun vs => by
    induction vs with
    | nil => intro τ j; rw [if_neg (by simp)]; rfl
    | cons v vs ih =>
      intro τ j
      show ((L2.wipe τ vs).set v none)[j]? = _
      by_cases hj : v = j
      · subst hj
        rw [if_pos (by simp)]
        by_cases hl : v < τ.length
        · rw [if_pos hl, List.getElem?_set_self (by rw [wipe_length]; exact hl)]
        · rw [if_neg hl, List.getElem?_eq_none (by rw [List.length_set, wipe_length]; omega)]
      · rw [List.getElem?_set_ne hj, ih τ j]
        by_cases hm : j ∈ vs
        · rw [if_pos hm, if_pos (List.mem_cons_of_mem _ hm)]
        · rw [if_neg hm, if_neg (by simp only [List.mem_cons, not_or]; exact ⟨fun e => hj e.symm, hm⟩)]
  apply List.ext_getElem?
  intro j
  rw [key, key, h.1]
  by_cases hm : j ∈ is
  · rw [if_pos hm, if_pos hm]
  · rw [if_neg hm, if_neg hm, h.2 j hm]
def tG (is : List Nat) (f : D → DSt → Option DSt) : TG := fun v σ H Q => ∃ (S F O : Hp) (sd sd' : DSt) (d : D), Inn S F O H ∧ RpS S O σ sd ∧ Rp S v d ∧ f d sd = some sd' ∧ ∀ σ', RpS S O σ' sd' → Oth is σ σ' → Q σ' H
def tGs (is : List Nat) (f : List D → DSt → Option DSt) : TGs := fun vs σ H Q => ∃ (S F O : Hp) (sd sd' : DSt) (ds : List D), Inn S F O H ∧ RpS S O σ sd ∧ RpL S vs ds ∧ f ds sd = some sd' ∧ ∀ σ', RpS S O σ' sd' → Oth is σ σ' → Q σ' H
def DG (X : Cx) (tg : Expr) (is : List Nat) (f : D → DSt → Option DSt) : Prop := PG X tg (tG is f)
def DGs (X : Cx) (tgs : List Expr) (is : List Nat) (f : List D → DSt → Option DSt) : Prop := PGs X tgs (tGs is f)
def gNm (i : Nat) : D → DSt → Option DSt := fun d sd => some (sd.set i (some (.fr d)))
def gNo : List D → DSt → Option DSt
  | [], sd => some sd
  | _, _ => none
def gCo (f : D → DSt → Option DSt) (fs : List D → DSt → Option DSt) : List D → DSt → Option DSt
  | d :: ds, sd => (f d sd).bind (fs ds)
  | _, _ => none
def gTp (fs : List D → DSt → Option DSt) : D → DSt → Option DSt
  | .tup ds, sd => fs ds sd
  | _, _ => none
section
variable {X : Cx} {pos : Pos} {e : Expr} {es : List Expr} {is js : List Nat} {f : D → DSt → Option DSt} {fs : List D → DSt → Option DSt}
theorem dg_nm {i : Nat} {x : Str} (hN : X.N.Nodup) (hi : X.N[i]? = some x := by rfl) (hx : Loc X.env.scope x := by first | exact Or.inl rfl | exact Or.inr rfl) (hf : X.fn x = true ∨ X.env.scope.names.lookup x = some .local := by first | exact .inl rfl | exact .inr rfl | assumption) : DG X (.Name x pos) [i] (gNm i) := ⟨fun pins s σ H v u Q I r h => by
  obtain ⟨S, F, O, sd, sd', d, i1, rs, rv, e, k⟩ := h
  cases e
  refine (pg_name hN hi hx hf).run pins s σ H v u Q I r (k _ (rs.setFr rv) ⟨List.length_set, fun j hj => ?_⟩)
  rw [List.getElem?_set_ne (fun z => hj (by simp [z]))]⟩
theorem dgs_nil : DGs X [] [] gNo := ⟨fun pins s σ H vs us Q I r h => by
  obtain ⟨S, F, O, sd, sd', ds, i1, rs, rv, e, k⟩ := h
  cases rv with
  | nil => cases e; exact pgs_nil.run pins s σ H [] us Q I r ⟨rfl, k _ rs Oth.refl⟩
  | cons a b => cases e⟩
theorem Oth.trans {σ1 σ2 σ3 : L2.St} (a : Oth is σ1 σ2) (b : Oth js σ2 σ3) : Oth (is ++ js) σ1 σ3 := ⟨b.1.trans a.1, fun j hj => by
  rw [List.mem_append, not_or] at hj
  exact (b.2 j hj.2).trans (a.2 j hj.1)⟩
theorem dgs_cons (h1 : DG X e is f) (h2 : DGs X es js fs) (hs : (assignEach (e :: es) X.env).map (·.2) = assign e X.env :: (assignEach es X.env).map (·.2) := by rfl) : DGs X (e :: es) (is ++ js) (gCo f fs) := ⟨fun pins s σ H vs us Q I r h => by
  obtain ⟨S, F, O, sd, sd', ds, i1, rs, rv, e, k⟩ := h
  cases rv with
  | nil => cases e
  | @cons v d vs ds a b =>
    have e : (f d sd).bind (fs ds) = some sd' := e
    cases e1 : f d sd with
    | none => rw [e1] at e; cases e
    | some sd1 =>
      rw [e1] at e
      exact (pgs_cons h1 h2 hs).run pins s σ H (v :: vs) us Q I r ⟨v, vs, rfl, S, F, O, sd, sd1, d, i1, rs, a, e1, fun σ1 rs1 o1 => ⟨S, F, O, sd1, sd', ds, i1, rs1, b, e, fun σ2 rs2 o2 => k σ2 rs2 (o1.trans o2)⟩⟩⟩
theorem dg_tup {k n : Nat} (hc : X.calm = true) (h : DGs X es is fs) (hl : ∀ ds sd sd', fs ds sd = some sd' → ds.length = n) (hn : (assignEach es X.env).length = n := by rfl) (hst : (assignEach es X.env).findIdx? (·.1) = none := by rfl) : DG X (.Tuple es k pos) is (gTp fs) := ⟨fun pins s σ H v u Q I r h' => by
  obtain ⟨S, F, O, sd, sd', d, i1, rs, rv, e, k⟩ := h'
  unfold gTp at e
  split at e
  · obtain ⟨p, vs, rfl, hp, rp⟩ := rp_tup i1 rv
    refine (pg_tup hc h hn hst).run pins s σ H _ u Q I r ⟨p, vs, rfl, SqT.of hp, ?_, S, F, O, sd, sd', _, i1, rs, rp, e, k⟩
    rw [rp.length]
    exact hl _ _ _ e
  · cases e⟩
theorem gl_nil : ∀ ds sd sd', gNo ds sd = some sd' → ds.length = 0 := fun ds sd sd' h => by
  cases ds with
  | nil => rfl
  | cons => cases h
theorem gl_cons {n : Nat} (h : ∀ ds sd sd', fs ds sd = some sd' → ds.length = n) : ∀ ds sd sd', gCo f fs ds sd = some sd' → ds.length = n + 1 := fun ds sd sd' e => by
  cases ds with
  | nil => cases e
  | cons d ds =>
    have e : (f d sd).bind (fs ds) = some sd' := e
    cases e1 : f d sd with
    | none => rw [e1] at e; cases e
    | some sd1 => rw [e1] at e; rw [List.length_cons, h _ _ _ e]
end

/-! ### list comprehensions -/
/-- in a block nothing may be raised -/
def WF : WX := fun _ _ _ _ => False
def noEr {G α : Type} : Out G α → Out G α
  | .ok a g => .ok a g
  | .er _ _ => .bad
  | .bad => .bad
theorem noEr_post {G α : Type} {A : α → G → Prop} {E E' : Exc → G → Prop} {o : Out G α} (h : post A E (noEr o)) : post A E' o := by
  cases o with
  | ok => exact h
  | er => exact h.elim
  | bad => exact h
def DTs (X : Cx) (Z : Eff) (W : WX) (ifs : List Expr) (f : DSt → Z.G → Out Z.G Bool) : Prop := PTs X ifs (tT Z X.mg W f)
def gYes {G : Type} : DSt → G → Out G Bool := fun _ g => .ok true g
def lcGo {G : Type} (gf : D → DSt → Option DSt) (ft : DSt → G → Out G Bool) (fe : DSt → G → Out G SV) (sd : DSt) : List D → G → Out G (List D)
  | [], g => .ok [] g
  | d :: r, g => match gf d sd with
    | none => .bad
    | some sd' => (noEr (ft sd' g)).bind fun b g1 => if b = true then (noEr (toD fe sd' g1)).bind fun x g2 => (lcGo gf ft fe sd r g2).bind fun l g3 => .ok (x :: l) g3 else lcGo gf ft fe sd r g1
theorem noEr_any {G α : Type} {A : α → G → Prop} {E E' : Exc → G → Prop} {o : Out G α} (h : post A E (noEr o)) : post A E' (noEr o) := by
  cases o with
  | ok => exact h
  | er => exact h.elim
  | bad => exact h
theorem lcGo_any {G : Type} {gf : D → DSt → Option DSt} {ft : DSt → G → Out G Bool} {fe : DSt → G → Out G SV} {sd : DSt} {A : List D → G → Prop} {E E' : Exc → G → Prop} : ∀ (r : List D) (g : G), post A E (lcGo gf ft fe sd r g) → post A E' (lcGo gf ft fe sd r g)
  | [], g, h => h
  | d :: r, g, h => by
    unfold lcGo at h ⊢
    split at h
    · exact h.elim
    · rw [post_bind] at h ⊢
      refine noEr_any (E := fun _ _ => False) (post_mono (noEr_any (E' := fun _ _ => False) h) (fun b g1 q => ?_) fun _ _ q => q)
      split at q
      · rename_i hb
        rw [if_pos hb]
        rw [post_bind] at q ⊢
        refine noEr_any (E := fun _ _ => False) (post_mono (noEr_any (E' := fun _ _ => False) q) (fun x g2 q => ?_) fun _ _ q => q)
        rw [post_bind] at q ⊢
        exact lcGo_any r g2 q
      · rename_i hb
        rw [if_neg hb]
        exact lcGo_any r g1 q
def fLc {G : Type} (is : List Nat) (fi : DSt → G → Out G (List D)) (gf : D → DSt → Option DSt) (ft : DSt → G → Out G Bool) (fe : DSt → G → Out G SV) : DSt → G → Out G SV := fun sd g =>
  (fi sd g).bind fun ds g1 => if ds.length ≤ lim then (lcGo gf ft fe (wipeD sd is) ds g1).bind fun l g2 => .ok (.ow (.lst l)) g2 else .bad
section
variable {Z : Eff} {mg : Str → Option Value} {S F O H S1 F1 O1 H1 : Hp} {D0 : Addr} {o : HO}
theorem Stp.tempW (a : Stp S F O H S1 F1 O1 H1) (h : H D0 = none) (hs : S1 D0 = none) (hf : F1 D0 = none) (ho : O1 D0 = none) : Stp S F O H S1 F1 O1 (upd H1 D0 o) :=
  ⟨⟨same_updO a.inn.s hs, same_updO a.inn.f hf, same_updO a.inn.o ho, a.inn.sf, a.inn.so, a.inn.fo, a.inn.ft, a.inn.ot⟩, a.ss, fun x u q hf ho => by
    rw [upd_ne (ne_of_none q h)]; exact a.keep x u q hf ho, fun x q => by
    by_cases e : x = D0
    · rw [e, upd_same]; intro z; cases z
    · rw [upd_ne e]; exact a.dom x q, a.ns, a.nf, a.no⟩
theorem Stp.none_s (a : Stp S F O H S1 F1 O1 H1) (h : H D0 = some o) (hs : S D0 = none) (hF : F D0 = none) (ho : O D0 = none) (nt : ∀ xs, o ≠ .tup xs := by intro _ z; cases z) : S1 D0 = none := no_of_nn fun z => by
  rcases a.ns D0 z with q | q | q
  · exact q hs
  · exact q ho
  · rcases q with q | ⟨xs, q⟩ | q
    · rw [h] at q; cases q
    · rw [h] at q; cases q; exact nt xs rfl
    · exact q hF
theorem Stp.none_f (a : Stp S F O H S1 F1 O1 H1) (h : H D0 = some o) (hs : F D0 = none) : F1 D0 = none := no_of_nn fun z => by
  rcases a.nf D0 z with q | q
  · exact q hs
  · rw [h] at q; cases q
end
section
variable {X : Cx} {Z : Eff} {W : WX}
theorem dts_nil : DTs X Z W [] gYes := ⟨fun pins s σ H Q I h => by
  obtain ⟨S, F, O, sd, g, i, r, hR, hp⟩ := h
  exact pts_nil.run pins s σ H Q I (hp S F H (Stp.refl i) hR)⟩
theorem dts_one {c : Expr} {f : DSt → Z.G → Out Z.G Bool} (h : DT X Z W c f) : DTs X Z W [c] f := pts_one h
theorem lc_read {wi : TI} {g : TG} {tt : TT} {te : TE} {is : List Nat} {fi : DSt → Z.G → Out Z.G (List D)} {gf : D → DSt → Option DSt} {ft : DSt → Z.G → Out Z.G Bool} {fe : DSt → Z.G → Out Z.G SV} (hi : wi = tI Z X.mg true W fi) (hg : g = tG is gf) (ht : tt = tT Z X.mg WF ft) (he : te = tE Z X.mg rV WF fe) :
    EG Z X.mg rV W (tLc wi g tt te is) (fLc is fi gf ft fe) := fun S F O H σ sd g0 Q I rs hR hp => by
  subst hi hg ht he
  refine ⟨S, F, O, sd, g0, I, rs, hR, post_mono (post_bind.mp hp) (fun ds g1 q1 J S1 F1 H1 st1 hR1 jt D0 hD => ?_) fun _ _ q => q⟩
  split at q1
  case isFalse => exact q1.elim
  rename_i hlim
  have hlim : ds.length ≤ 16777216 := hlim
  have q1 := post_bind.mp q1
  refine ⟨fun i m H' => m = ds.length - i ∧ i ≤ ds.length ∧ ∃ (S2 F2 : Hp) (g2 : Z.G) (vs : List V) (xs : List D), Stp S1 F1 O H1 S2 F2 O H' ∧ Z.R g2 S2 F2 ∧ S2 D0 = none ∧ F2 D0 = none ∧ O D0 = none ∧ H' D0 = some (.lst vs) ∧ RpL S2 vs xs ∧ vs.length ≤ i ∧
    post (fun l g' => okQ Z rV S F O H Q (.ow (.lst (xs ++ l))) g') (fun _ _ => False) (lcGo gf ft fe (wipeD sd is) (ds.drop i) g2), ⟨ds.length, by simp, Nat.zero_le _, S1, F1, g1, [], [], Stp.temp st1.inn hD, hR1, st1.inn.noS hD, st1.inn.noF hD, st1.inn.noO hD, upd_same, .nil, Nat.le_refl _, ?_⟩, ?_⟩
  · rw [List.drop_zero]
    exact lcGo_any ds g1 q1
  · rintro i m H' ⟨rfl, hi, S2, F2, g2, vs, xs, st2, hR2, hs2, hf2, ho2, hd2, r2, hl2, q2⟩
    by_cases hlt : i < ds.length
    · refine .inr ⟨jt.go S2 F2 O H' i st2.inn st2.ss (Same.refl O) hlt, fun H'' => ∃ (S2 F2 : Hp) (g2 : Z.G) (vs : List V) (xs : List D), Stp S1 F1 O H1 S2 F2 O H'' ∧ Z.R g2 S2 F2 ∧ S2 D0 = none ∧ F2 D0 = none ∧ O D0 = none ∧ H'' D0 = some (.lst vs) ∧ RpL S2 vs xs ∧ vs.length ≤ i + 1 ∧
        post (fun l g' => okQ Z rV S F O H Q (.ow (.lst (xs ++ l))) g') (fun _ _ => False) (lcGo gf ft fe (wipeD sd is) (ds.drop (i + 1)) g2), fun H'' z => ⟨ds.length - (i + 1), by omega, rfl, hlt, z⟩, fun x H3 y => ?_⟩
      obtain ⟨S3, d, st3, hd, rx⟩ := jt.yld S2 F2 O H' i x H3 st2.inn st2.ss (Same.refl O) hlt y
      have e : ds.drop i = d :: ds.drop (i + 1) := by
        rw [List.drop_eq_getElem_cons hlt]
        have := List.getElem?_eq_getElem hlt
        rw [hd] at this
        cases this
        rfl
      rw [e] at q2
      unfold lcGo at q2
      split at q2
      · exact q2.elim
      · rename_i sd' egf
        have st23 := st2.trans st1.inn st3
        have rs3 : RpS S3 O (L2.wipe σ is) (wipeD sd is) := ((rs.wipe is).mono st1.ss).mono st23.ss
        refine ⟨S3, F2, O, wipeD sd is, sd', d, st3.inn, rs3, rx, egf, fun σ2 rs4 oth => ⟨?_, ?_⟩⟩
        · have h1 := oth.wipe
          rw [h1]
          -- wiping twice
          have h2 : Oth is σ (L2.wipe σ is) := ⟨wipe_length _ _, fun j hj => by
            have : ∀ vs : List Nat, j ∉ vs → (L2.wipe σ vs)[j]? = σ[j]? := fun vs => by
              induction vs with
              | nil => intro _; rfl
              | cons v vs ih =>
                intro hj
                rw [List.mem_cons, not_or] at hj
                show ((L2.wipe σ vs).set v none)[j]? = _
                rw [List.getElem?_set_ne (fun z => hj.1 z.symm), ih hj.2]
            exact this is hj⟩
          exact h2.wipe
        · have hd3 : H3 D0 = some (.lst vs) := st3.keep D0 _ hd2 hf2 ho2
          have hs3 : S3 D0 = none := st3.none_s hd2 hs2 hf2 ho2
          have hf3 : F2 D0 = none := hf2
          refine ⟨S3, F2, O, sd', g2, st3.inn, rs4, Z.mono _ _ _ _ st3.ss hR2, post_mono (noEr_post (E' := erQ Z X.mg WF σ2 S3 F2 O H3) (post_bind.mp q2)) (fun b g3 q3 S4 F4 H4 st4 hR4 => ?_) fun _ _ q => q⟩
          have st24 := st23.trans st1.inn st4
          have hd4 : H4 D0 = some (.lst vs) := st4.keep D0 _ hd3 hf3 ho2
          have hs4 : S4 D0 = none := st4.none_s hd3 hs3 hf2 ho2
          have hf4 : F4 D0 = none := st4.none_f hd3 hf3
          split at q3
          · rename_i hb
            show ite (b = true) _ _
            rw [if_pos hb]
            have k : EG Z X.mg rD WF (tE Z X.mg rV WF fe) (toD fe) := eg_d eg_t
            refine k S4 F4 O H4 σ2 sd' g3 _ st4.inn (rs4.mono st4.ss) hR4 (post_mono (noEr_post (E' := erQ Z X.mg WF σ2 S4 F4 O H4) (post_bind.mp q3)) (fun x' g4 q4 v S5 F5 H5 st5 hR5 rv => ?_) fun _ _ q => q)
            have hd5 : H5 D0 = some (.lst vs) := st5.keep D0 _ hd4 hf4 ho2
            have hs5 : S5 D0 = none := st5.none_s hd4 hs4 hf4 ho2
            have hf5 : F5 D0 = none := st5.none_f hd4 hf4
            have st25 := st24.trans st1.inn st5
            refine ⟨vs, hd5, Nat.lt_of_lt_of_le (Nat.lt_of_le_of_lt hl2 hlt) (Nat.le_trans hlim (Nat.le_of_eq lim_eq.symm)), S5, F5, g4, vs ++ [v], xs ++ [x'], st25.tempW hD hs5 hf5 ho2, hR5, hs5, hf5, ho2, upd_same, ?_, ?_, ?_⟩
            · exact (((r2.mono st3.ss).mono st4.ss).mono st5.ss).snoc rv
            · rw [List.length_append]; exact Nat.succ_le_succ hl2
            · refine post_mono (post_bind.mp q4) (fun l g' q => ?_) fun _ _ q => q
              have q : okQ Z rV S F O H Q (.ow (.lst (xs ++ x' :: l))) g' := q
              rw [List.append_assoc]
              exact q
          · rename_i hb
            show ite (b = true) _ _
            rw [if_neg hb]
            exact ⟨S4, F4, g3, vs, xs, st24, hR4, hs4, hf4, ho2, hd4, (r2.mono st3.ss).mono st4.ss, Nat.le_succ_of_le hl2, q3⟩
    · have e : i = ds.length := by omega
      subst e
      refine .inl ⟨jt.stop S2 F2 O H' st2.inn st2.ss (Same.refl O), ?_⟩
      rw [List.drop_length] at q2
      have q2 : okQ Z rV S F O H Q (.ow (.lst (xs ++ []))) g2 := q2
      rw [List.append_nil] at q2
      exact q2 _ S2 F2 H' (st1.trans I st2) hR2 ⟨D0, _, rfl, hd2, ⟨.lst r2, fun xs z => nomatch z⟩, hs2, hf2, ho2, no_of_nn fun z => st1.dom D0 z hD⟩
variable {fi : DSt → Z.G → Out Z.G (List D)} {gf : D → DSt → Option DSt} {ft : DSt → Z.G → Out Z.G Bool} {fe : DSt → Z.G → Out Z.G SV}
theorem de_lc {elt tg iter : Expr} {ifs : List Expr} {scope : Scope} {own : List (Str × Nat)} {pos : Pos} {is : List Nat} (hc : X.calm = true) (hN : X.N.Nodup) (hi : DI true X Z W tg iter fi) (ok : BlkOk X.N X.env.scope scope own)
    (hg : ∀ (s : Shared) (H : Hp) (C : Addr) (cl : List (Str × Addr)) (fp : List Addr), DG (X.blk s H scope (compEnvC scope cl C X.env) fp) tg is gf) (ht : ∀ (s : Shared) (H : Hp) (C : Addr) (cl : List (Str × Addr)) (fp : List Addr), DTs (X.blk s H scope (compEnvC scope cl C X.env) fp) Z WF ifs ft)
    (he : ∀ (s : Shared) (H : Hp) (C : Addr) (cl : List (Str × Addr)) (fp : List Addr), DE (X.blk s H scope (compEnvC scope cl C X.env) fp) Z WF elt fe) (hs : ∀ x, foldedSetIterable iter X.env x = pure x := by intro _; rfl) (hiso : is = own.map (·.2) := by rfl) :
    DE X Z W (.ListComp elt [⟨tg, iter, ifs, 0⟩] scope pos) (fLc is fi gf ft fe) := by
  subst hiso
  exact de_of (pe_lc (wi := tI Z X.mg true W fi) (g := tG (List.map (fun (x : Str × Nat) => x.2) own) gf) (tt := tT Z X.mg WF ft) (te := tE Z X.mg rV WF fe) hc hN hi ok hg ht he hs) (lc_read rfl rfl rfl rfl)
end
end DL
namespace DL
open PySem PySem.Spec PyProof.Rows L2
/-! ### statements -/
inductive OutS (G : Type) where
  | nx (sd : DSt) (g : G)
  | rt (x : SV) (g : G)
  | bk (sd : DSt) (g : G)
  | ct (sd : DSt) (g : G)
  | er (e : Exc) (sd : DSt) (g : G)
  | bad
section
variable (Z : Eff) (mg : Str → Option Value)
def nxQ (S F O H : Hp) (N : L2.St → Hp → Prop) (sd : DSt) (g : Z.G) : Prop := ∀ σ' S' F' O' H', Stp S F O H S' F' O' H' → RpS S' O' σ' sd → Z.R g S' F' → N σ' H'
def endQ (W : WX) (D : Ends) (S F O H : Hp) : OutS Z.G → Prop
  | .nx sd g => nxQ Z S F O H D.nx sd g
  | .rt x g => ∀ v S' F' O' H', Stp S F O H S' F' O' H' → Z.R g S' F' → rV H S' F' O' H' v x → D.rt v H'
  | .bk sd g => nxQ Z S F O H D.bk sd g
  | .ct sd g => nxQ Z S F O H D.ct sd g
  | .er e sd g => ∀ cls dx σ' S' F' O' H', Stp S F O H S' F' O' H' → RpS S' O' σ' sd → Z.R g S' F' → ExR mg e cls dx S' → W cls dx σ' H'
  | .bad => False
/-- the reading of a statement that f tells -/
def tS (W : WX) (f : DSt → Z.G → OutS Z.G) : TS := fun D σ H => ∃ (S F O : Hp) (sd : DSt) (g : Z.G), Inn S F O H ∧ RpS S O σ sd ∧ Z.R g S F ∧ endQ Z mg W D S F O H (f sd g)
end
def DS (X : Cx) (Z : Eff) (W : WX) (st : Stmt) (f : DSt → Z.G → OutS Z.G) : Prop := PS X st (tS Z X.mg W f)
def DSs (X : Cx) (Z : Eff) (W : WX) (sts : List Stmt) (f : DSt → Z.G → OutS Z.G) : Prop := PSs X sts (tS Z X.mg W f)
def sSeq {G : Type} (f k : DSt → G → OutS G) : DSt → G → OutS G := fun sd g => match f sd g with
  | .nx sd g => k sd g
  | o => o
def sNx {G : Type} : DSt → G → OutS G := fun sd g => .nx sd g
/-- an expression's answer goes on -/
def OutS.of {G α : Type} (sd : DSt) : Out G α → (α → G → OutS G) → OutS G
  | .ok a g, k => k a g
  | .er e g, _ => .er e sd g
  | .bad, _ => .bad
section
variable {X : Cx} {Z : Eff} {W : WX} {st : Stmt} {sts rest : List Stmt} {e a b c : Expr} {es : List Expr} {pos p : Pos} {f k : DSt → Z.G → OutS Z.G} {D : Ends} {S F O H S1 F1 O1 H1 : Hp} {σ : L2.St} {sd : DSt} {g : Z.G}
theorem ds_of {t : TS} (h : PS X st t) (k : ∀ (S F O H : Hp) (σ : L2.St) (sd : DSt) (g : Z.G) (D : Ends), Inn S F O H → RpS S O σ sd → Z.R g S F → endQ Z X.mg W D S F O H (f sd g) → t D σ H) : DS X Z W st f := ⟨fun pins s σ H D I q => by
  obtain ⟨S, F, O, sd, g, i, r, hR, hp⟩ := q
  exact h.run pins s σ H D I (k S F O H σ sd g D i r hR hp)⟩
theorem dss_of {t : TS} (h : PSs X sts t) (k : ∀ (S F O H : Hp) (σ : L2.St) (sd : DSt) (g : Z.G) (D : Ends), Inn S F O H → RpS S O σ sd → Z.R g S F → endQ Z X.mg W D S F O H (f sd g) → t D σ H) : DSs X Z W sts f := ⟨fun pins s σ H D I q => by
  obtain ⟨S, F, O, sd, g, i, r, hR, hp⟩ := q
  exact h.run pins s σ H D I (k S F O H σ sd g D i r hR hp)⟩
theorem nxQ_from {N : L2.St → Hp → Prop} (I : Inn S F O H) (a : Stp S F O H S1 F1 O1 H1) (h : nxQ Z S F O H N sd g) : nxQ Z S1 F1 O1 H1 N sd g := fun σ' S' F' O' H' st r q => h σ' S' F' O' H' (a.trans I st) r q
theorem endQ_from {mg : Str → Option Value} {o : OutS Z.G} (I : Inn S F O H) (a : Stp S F O H S1 F1 O1 H1) (h : endQ Z mg W D S F O H o) : endQ Z mg W D S1 F1 O1 H1 o := by
  cases o with
  | nx sd g => exact nxQ_from I a h
  | bk sd g => exact nxQ_from I a h
  | ct sd g => exact nxQ_from I a h
  | rt x g => exact fun v S' F' O' H' st hR rv => h v S' F' O' H' (a.trans I st) hR (backs_V _ _ _ _ _ _ _ _ (fun _ z => back_none a z) rv)
  | er e sd g => exact fun cls dx σ' S' F' O' H' st r hR x => h cls dx σ' S' F' O' H' (a.trans I st) r hR x
  | bad => exact h
/-- the reading of an expression first -/
theorem of_eg {α : Type} {rd : RD α} {mg : Str → Option Value} {te : TE} {fe : DSt → Z.G → Out Z.G α} {Q : VK} {kk : α → Z.G → OutS Z.G} (h : EG Z mg rd W te fe) (I : Inn S F O H) (rs : RpS S O σ sd) (hR : Z.R g S F) (hp : endQ Z mg W D S F O H (OutS.of sd (fe sd g) kk))
    (k : ∀ (x : α) (g' : Z.G) (v : V) (S' F' H' : Hp), Stp S F O H S' F' O H' → Z.R g' S' F' → rd H S' F' O H' v x → RpS S' O σ sd → endQ Z mg W D S F O H (kk x g') → Q v H') : te σ H Q := by
  refine h S F O H σ sd g Q I rs hR ?_
  cases e : fe sd g with
  | bad => rw [e] at hp; exact hp.elim
  | er x g' =>
    rw [e] at hp
    exact fun cls dx S' F' H' st hR' ex => hp cls dx σ S' F' O H' st (rs.mono st.ss) hR' ex
  | ok x g' =>
    rw [e] at hp
    exact fun v S' F' H' st hR' rv => k x g' v S' F' H' st hR' rv (rs.mono st.ss) hp
theorem of_bg {mg : Str → Option Value} {tt : TT} {fe : DSt → Z.G → Out Z.G Bool} {Q : Bool → Hp → Prop} {kk : Bool → Z.G → OutS Z.G} (h : BG Z mg W tt fe) (I : Inn S F O H) (rs : RpS S O σ sd) (hR : Z.R g S F) (hp : endQ Z mg W D S F O H (OutS.of sd (fe sd g) kk))
    (k : ∀ (x : Bool) (g' : Z.G) (S' F' H' : Hp), Stp S F O H S' F' O H' → Z.R g' S' F' → RpS S' O σ sd → endQ Z mg W D S F O H (kk x g') → Q x H') : tt σ H Q := by
  refine h S F O H σ sd g Q I rs hR ?_
  cases e : fe sd g with
  | bad => rw [e] at hp; exact hp.elim
  | er x g' =>
    rw [e] at hp
    exact fun cls dx S' F' H' st hR' ex => hp cls dx σ S' F' O H' st (rs.mono st.ss) hR' ex
  | ok x g' =>
    rw [e] at hp
    exact fun S' F' H' st hR' => k x g' S' F' H' st hR' (rs.mono st.ss) hp
theorem of_lg {mg : Str → Option Value} {rl : RL} {ta : TA} {fe : DSt → Z.G → Out Z.G (List DL.D)} {Q : List V → Hp → Prop} {kk : List DL.D → Z.G → OutS Z.G} (h : LG Z mg rl W ta fe) (I : Inn S F O H) (rs : RpS S O σ sd) (hR : Z.R g S F) (hp : endQ Z mg W D S F O H (OutS.of sd (fe sd g) kk))
    (k : ∀ (x : List DL.D) (g' : Z.G) (vs : List V) (S' F' H' : Hp), Stp S F O H S' F' O H' → Z.R g' S' F' → rl S' O vs x → RpS S' O σ sd → endQ Z mg W D S F O H (kk x g') → Q vs H') : ta σ H Q := by
  refine h S F O H σ sd g Q I rs hR ?_
  cases e : fe sd g with
  | bad => rw [e] at hp; exact hp.elim
  | er x g' =>
    rw [e] at hp
    exact fun cls dx S' F' H' st hR' ex => hp cls dx σ S' F' O H' st (rs.mono st.ss) hR' ex
  | ok x g' =>
    rw [e] at hp
    exact fun vs S' F' H' st hR' rv => k x g' vs S' F' H' st hR' rv (rs.mono st.ss) hp
theorem dss_nil : DSs X Z W [] sNx := dss_of pss_nil fun S F O H σ sd g D I rs hR hp => hp σ S F O H (Stp.refl I) rs hR
theorem dss_one (h : DS X Z W st f) : DSs X Z W [st] f := pss_one h
theorem dss_cons (h1 : DS X Z W st f) (h2 : DSs X Z W rest k) : DSs X Z W (st :: rest) (sSeq f k) := dss_of (pss_cons h1 h2) fun S F O H σ sd g D I rs hR hp => by
  refine ⟨S, F, O, sd, g, I, rs, hR, ?_⟩
  unfold sSeq at hp
  cases e : f sd g with
  | nx sd' g' =>
    rw [e] at hp
    exact fun σ' S' F' O' H' st r hR' => ⟨S', F', O', sd', g', st.inn, r, hR', endQ_from I st hp⟩
  | rt x g' => rw [e] at hp; exact hp
  | bk sd' g' => rw [e] at hp; exact hp
  | ct sd' g' => rw [e] at hp; exact hp
  | er x sd' g' => rw [e] at hp; exact hp
  | bad => rw [e] at hp; exact hp
/-- code that isn't come to -/
def sBad {G : Type} : DSt → G → OutS G := fun _ _ => .bad
theorem ds_bad : DS X Z W st sBad := ⟨fun pins s σ H D I q => by
  obtain ⟨S, F, O, sd, g, i, r, hR, hp⟩ := q
  exact hp.elim⟩
theorem dss_bad : DSs X Z W sts sBad := ⟨fun pins s σ H D I q => by
  obtain ⟨S, F, O, sd, g, i, r, hR, hp⟩ := q
  exact hp.elim⟩
/-! one's own list or dict from now on stands for good -/
theorem RpS.freeze {i : Nat} {d : DL.D} {q : Addr} {o : HO} (r : RpS S O σ sd) (h : sd[i]? = some (some (.ow d))) (hv : σ[i]? = some (some (.ref q))) (ho : O q = some o) (rw' : RpW S o d) (I : Inn S F O H) : RpS (upd S q o) (off O q) σ (sd.set i (some (.fr d))) := by
  have hi : i < sd.length := Nat.lt_of_not_le fun z => by rw [List.getElem?_eq_none z] at h; cases h
  have ss : Same S (upd S q o) := same_new (I.os (nn_of ho))
  refine ⟨by rw [List.length_set]; exact r.len, fun j e h1 => ?_, fun j e h1 => ?_, fun j l e e' p2 h1 h2 h3 h4 => ?_, fun j e h1 => ?_⟩
  · by_cases hj : i = j
    · subst hj
      rw [List.getElem?_set_self hi] at h1
      cases h1
      exact ⟨_, hv, .at upd_same (rw'.1.mono ss)⟩
    · rw [List.getElem?_set_ne hj] at h1
      obtain ⟨w, a, b⟩ := r.fr j e h1
      exact ⟨w, a, b.mono ss⟩
  · by_cases hj : i = j
    · subst hj
      rw [List.getElem?_set_self hi] at h1
      cases h1
    · rw [List.getElem?_set_ne hj] at h1
      obtain ⟨p', o', a, b, c⟩ := r.ow j e h1
      refine ⟨p', o', a, ?_, c.mono ss⟩
      rw [off_ne]
      · exact b
      · intro z
        subst z
        exact hj (r.ne i j _ _ _ h h1 hv a)
  · have nj : ∀ {j e}, (sd.set i (some (.fr d)))[j]? = some (some (SV.ow e)) → i ≠ j := fun {j e} h z => by
      subst z
      rw [List.getElem?_set_self hi] at h
      cases h
    have a := nj h1
    have b := nj h2
    rw [List.getElem?_set_ne a] at h1
    rw [List.getElem?_set_ne b] at h2
    exact r.ne j l e e' p2 h1 h2 h3 h4
  · by_cases hj : i = j
    · subst hj
      rw [List.getElem?_set_self hi] at h1
      cases h1
    · rw [List.getElem?_set_ne hj] at h1
      exact r.nb j e h1
def frz (i : Nat) (sd : DSt) : DSt := match sd[i]? with
  | some (some (.ow d)) => sd.set i (some (.fr d))
  | _ => sd
def sFrz {G : Type} (i : Nat) (f : DSt → G → OutS G) : DSt → G → OutS G := fun sd g => f (frz i sd) g
theorem frz_in {i : Nat} (I : Inn S F O H) (rs : RpS S O σ sd) (hR : Z.R g S F) : ∃ S' O', Stp S F O H S' F O' H ∧ RpS S' O' σ (frz i sd) ∧ Z.R g S' F := by
  unfold frz
  split
  · rename_i d h
    obtain ⟨q, o, a, b, c⟩ := rs.ow i d h
    have st := Stp.give I b
    exact ⟨_, _, st, rs.freeze h a b c I, Z.mono _ _ _ _ st.ss hR⟩
  · exact ⟨S, O, Stp.refl I, rs, hR⟩
theorem ds_frz {i : Nat} (h : DS X Z W st f) : DS X Z W st (sFrz i f) := ds_of h fun S F O H σ sd g D I rs hR hp => by
  obtain ⟨S', O', st, rs', hR'⟩ := frz_in (i := i) I rs hR
  exact ⟨S', F, O', frz i sd, g, st.inn, rs', hR', endQ_from I st hp⟩
theorem dss_frz {i : Nat} (h : DSs X Z W sts f) : DSs X Z W sts (sFrz i f) := dss_of h fun S F O H σ sd g D I rs hR hp => by
  obtain ⟨S', O', st, rs', hR'⟩ := frz_in (i := i) I rs hR
  exact ⟨S', F, O', frz i sd, g, st.inn, rs', hR', endQ_from I st hp⟩
/-! name = value -/
def setSV (i : Nat) (sd : DSt) : SV → Option DSt
  | .fr d => some (sd.set i (some (.fr d)))
  | .ow d => some (sd.set i (some (.ow d)))
  | .bo _ => none
def OutS.ofO {G : Type} (o : Option DSt) (g : G) : OutS G := match o with
  | some sd => .nx sd g
  | none => .bad
def sSet {G : Type} (i : Nat) (f : DSt → G → Out G SV) : DSt → G → OutS G := fun sd g => OutS.of sd (f sd g) fun x g1 => .ofO (setSV i sd x) g1
theorem Stp.own {q : Addr} {o : HO} (a : Stp S F O H S1 F1 O H1) (h : H1 q = some o) (hs : S1 q = none) (hf : F1 q = none) (h0 : H q = none) (nt : ∀ xs, o ≠ .tup xs) : Stp S F O H S1 F1 (upd O q o) H1 :=
  ⟨a.inn.own h hs hf nt, a.ss, a.keep, a.dom, a.ns, a.nf, fun x z => by
    rcases upd_nn z with e | e
    · exact .inr (by rw [e]; exact h0)
    · exact .inl e⟩
theorem set_in {i : Nat} {x : SV} {v : V} {sd' : DSt} (I : Inn S F O H) (st : Stp S F O H S1 F1 O H1) (rs : RpS S1 O σ sd) (hR : Z.R g S1 F1) (rv : rV H S1 F1 O H1 v x) (e : setSV i sd x = some sd') : ∃ O', Stp S F O H S1 F1 O' H1 ∧ RpS S1 O' (σ.set i (some v)) sd' := by
  cases x with
  | fr d => cases e; exact ⟨O, st, rs.setFr rv⟩
  | bo d => cases e
  | ow d =>
    cases e
    obtain ⟨q, o, e1, e2, e3, e4, e5, e6, e7⟩ := rv
    subst e1
    exact ⟨_, st.own e2 e4 e5 e7 e3.nt, rs.setOw e6 e3⟩
theorem ds_set {x : Str} {i : Nat} {fe : DSt → Z.G → Out Z.G SV} {pos' : Pos} (he : DE X Z W e fe) (hN : X.N.Nodup) (hi : X.N[i]? = some x := by rfl) (hx : Loc X.env.scope x := by first | exact Or.inl rfl | exact Or.inr rfl) (hs : swapsWith e (some (.Name x pos')) pos.line X.env = pure false := by rfl) (hf : X.fn x = true ∨ X.env.scope.names.lookup x = some .local := by first | exact .inl rfl | exact .inr rfl | assumption) :
    DS X Z W (.Assign [.Name x pos'] e pos) (sSet i fe) := ds_of (ps_set hN hi hx he hs hf) fun S F O H σ sd g D I rs hR hp => by
  refine of_eg (Q := fun v H1 => D.nx (σ.set i (some v)) H1) (eg_t (f := fe)) I rs hR hp fun x g' v S' F' H' st hR' rv rs' q => ?_
  cases e0 : setSV i sd x with
  | none => rw [e0] at q; exact q.elim
  | some sd' =>
    rw [e0] at q
    obtain ⟨O', st', rs2⟩ := set_in I st rs' hR' rv e0
    exact q _ S' F' O' H' st' rs2 hR'
/-! target = value, any target -/
def sAsg {G : Type} (gf : DL.D → DSt → Option DSt) (f : DSt → G → Out G SV) : DSt → G → OutS G := fun sd g => OutS.of sd (toD f sd g) fun d g1 => .ofO (gf d sd) g1
theorem ds_asg {tg : Expr} {is : List Nat} {gf : DL.D → DSt → Option DSt} {fe : DSt → Z.G → Out Z.G SV} (he : DE X Z W e fe) (hg : DG X tg is gf) (hs : swapsWithSole [tg] e pos.line X.env = pure false := by rfl) (hw : swappedStores [tg] e X.env = pure none := by rfl)
    (h1 : (assignEach [tg] X.env).map (·.2) = [assign tg X.env] := by rfl) : DS X Z W (.Assign [tg] e pos) (sAsg gf fe) := ds_of (ps_asg he hg hs hw h1) fun S F O H σ sd g D I rs hR hp => by
  have kk : EG Z X.mg rD W (tE Z X.mg rV W fe) (toD fe) := eg_d eg_t
  refine of_eg kk I rs hR hp fun x g' v S' F' H' st hR' rv rs' q => ?_
  cases e0 : gf x sd with
  | none => rw [e0] at q; exact q.elim
  | some sd' =>
    rw [e0] at q
    exact ⟨S', F', O, sd, sd', x, st.inn, rs', rv, e0, fun σ' rs2 _ => q σ' S' F' O H' st rs2 hR'⟩
/-! a, b = x, y -/
def sPar {G : Type} (i j : Nat) (fs : List (DSt → G → Out G SV)) : DSt → G → OutS G := fun sd g => OutS.of sd (lArgs (fs.map toD) sd g) fun ds g1 => match ds with
  | [x, y] => .nx ((sd.set i (some (.fr x))).set j (some (.fr y))) g1
  | _ => .bad
theorem ds_par {i j : Nat} {x y : Str} {px py pt pt2 : Pos} {kt k2} {fs : List (DSt → Z.G → Out Z.G SV)} (ha : DAs X Z W [a, b] fs) (hc : X.calm = true) (hN : X.N.Nodup) (hi : X.N[i]? = some x := by rfl) (hj : X.N[j]? = some y := by rfl) (hij : i ≠ j := by decide)
    (hx : X.env.scope.names.lookup x = some .local := by rfl) (hy : X.env.scope.names.lookup y = some .local := by rfl)
    (hw : swappedStores [.Tuple [.Name x px, .Name y py] kt pt] (.Tuple [a, b] k2 pt2) X.env = pure (some [x, y]) := by rfl)
    (hs : swapsWithSole [.Tuple [.Name x px, .Name y py] kt pt] (.Tuple [a, b] k2 pt2) pos.line X.env = pure false := by rfl) :
    DS X Z W (.Assign [.Tuple [.Name x px, .Name y py] kt pt] (.Tuple [a, b] k2 pt2) pos) (sPar i j fs) := ds_of (ps_par hc hN hi hj hij hx hy ha hw hs) fun S F O H σ sd g D I rs hR hp => by
  refine of_lg lg_t I rs hR hp fun ds g' vs S' F' H' st hR' rv rs' q => ?_
  split at q
  · rename_i d1 d2
    cases rv with
    | cons r1 r2 =>
      cases r2 with
      | cons r2 r3 =>
        cases r3
        exact ⟨_, _, rfl, q _ S' F' O H' st ((rs'.setFr r1).setFr r2) hR'⟩
  · exact q.elim
/-! return, expression, if, pass, break, continue -/
def sRet {G : Type} (f : DSt → G → Out G SV) : DSt → G → OutS G := fun sd g => OutS.of sd (f sd g) fun x g1 => .rt x g1
theorem ds_ret {fe : DSt → Z.G → Out Z.G SV} (he : DE X Z W e fe) : DS X Z W (.Return (some e) pos) (sRet fe) := ds_of (ps_ret he) fun S F O H σ sd g D I rs hR hp =>
  of_eg eg_t I rs hR hp fun x g' v S' F' H' st hR' rv rs' q => q v S' F' O H' st hR' rv
def sRetN {G : Type} : DSt → G → OutS G := fun _ g => .rt (.fr .non) g
theorem ds_retN : DS X Z W (.Return none pos) sRetN := ds_of ps_retN fun S F O H σ sd g D I rs hR hp => hp _ S F O H (Stp.refl I) hR .non
def sExpr {G : Type} (f : DSt → G → Out G SV) : DSt → G → OutS G := fun sd g => OutS.of sd (f sd g) fun _ g1 => .nx sd g1
theorem ds_expr {fe : DSt → Z.G → Out Z.G SV} (he : DE X Z W e fe) (hs : swapsWith e none pos.line X.env = pure false := by rfl) : DS X Z W (.Expr e pos) (sExpr fe) := ds_of (ps_expr he hs) fun S F O H σ sd g D I rs hR hp =>
  of_eg eg_t I rs hR hp fun x g' v S' F' H' st hR' rv rs' q => q σ S' F' O H' st rs' hR'
def sIf {G : Type} (c : DSt → G → Out G Bool) (f k : DSt → G → OutS G) : DSt → G → OutS G := fun sd g => OutS.of sd (c sd g) fun b g1 => if b = true then f sd g1 else k sd g1
theorem ds_if {xs ys : List Stmt} {fc : DSt → Z.G → Out Z.G Bool} (hc : DT X Z W c fc) (ha : DSs X Z W xs f) (hb : DSs X Z W ys k) : DS X Z W (.If c xs ys pos) (sIf fc f k) := ds_of (ps_if hc ha hb) fun S F O H σ sd g D I rs hR hp => by
  refine of_bg bg_t I rs hR hp fun x g' S' F' H' st hR' rs' q => ?_
  cases x with
  | true =>
    rw [if_pos rfl] at q ⊢
    exact ⟨S', F', O, sd, g', st.inn, rs', hR', endQ_from I st q⟩
  | false =>
    rw [if_neg Bool.false_ne_true] at q ⊢
    exact ⟨S', F', O, sd, g', st.inn, rs', hR', endQ_from I st q⟩
def sBk {G : Type} : DSt → G → OutS G := fun sd g => .bk sd g
def sCt {G : Type} : DSt → G → OutS G := fun sd g => .ct sd g
theorem ds_pass : DS X Z W (.Pass pos) sNx := ds_of ps_pass fun S F O H σ sd g D I rs hR hp => hp σ S F O H (Stp.refl I) rs hR
theorem ds_break : DS X Z W (.Break pos) sBk := ds_of ps_break fun S F O H σ sd g D I rs hR hp => hp σ S F O H (Stp.refl I) rs hR
theorem ds_continue : DS X Z W (.Continue pos) sCt := ds_of ps_continue fun S F O H σ sd g D I rs hR hp => hp σ S F O H (Stp.refl I) rs hR
theorem ds_doc {x j} : DS X Z W (.Expr (.Constant (.str x) j pos) p) sNx := ds_of ps_doc fun S F O H σ sd g D I rs hR hp => hp σ S F O H (Stp.refl I) rs hR
end
end DL
namespace DL
open PySem PySem.Spec PyProof.Rows L2
section
variable {X : Cx} {Z : Eff} {W : WX} {st : Stmt} {sts rest : List Stmt} {e a b c : Expr} {es : List Expr} {pos p : Pos} {f k : DSt → Z.G → OutS Z.G} {D : Ends} {S F O H S1 F1 O1 H1 : Hp} {σ : L2.St} {sd : DSt} {g : Z.G}
/-! ### one's own is written -/
theorem RpS.write {i : Nat} {d0 d : DL.D} {q : Addr} {o : HO} (r : RpS S O σ sd) (h : sd[i]? = some (some (.ow d0))) (hv : σ[i]? = some (some (.ref q))) (rw' : RpW S o d) : RpS S (upd O q o) σ (sd.set i (some (.ow d))) := by
  have hi : i < sd.length := Nat.lt_of_not_le fun z => by rw [List.getElem?_eq_none z] at h; cases h
  have other : ∀ {j e}, i ≠ j → sd[j]? = some (some (SV.ow e)) → σ[j]? ≠ some (some (.ref q)) := fun {j e} hj h1 z => hj (r.ne i j _ _ _ h h1 hv z)
  refine ⟨by rw [List.length_set]; exact r.len, fun j e h1 => ?_, fun j e h1 => ?_, fun j l e e' p2 h1 h2 h3 h4 => ?_, fun j e h1 => ?_⟩
  · by_cases hj : i = j
    · subst hj
      rw [List.getElem?_set_self hi] at h1
      cases h1
    · rw [List.getElem?_set_ne hj] at h1
      exact r.fr j e h1
  · by_cases hj : i = j
    · subst hj
      rw [List.getElem?_set_self hi] at h1
      cases h1
      exact ⟨q, o, hv, upd_same, rw'⟩
    · rw [List.getElem?_set_ne hj] at h1
      obtain ⟨p', o', a, b, c⟩ := r.ow j e h1
      refine ⟨p', o', a, ?_, c⟩
      rw [upd_ne]
      · exact b
      · intro z
        subst z
        exact other hj h1 a
  · have pre : ∀ {j e}, (sd.set i (some (.ow d)))[j]? = some (some (SV.ow e)) → ∃ e', sd[j]? = some (some (SV.ow e')) := fun {j e} h1 => by
      by_cases hj : i = j
      · subst hj; exact ⟨d0, h⟩
      · rw [List.getElem?_set_ne hj] at h1; exact ⟨e, h1⟩
    obtain ⟨a, ha⟩ := pre h1
    obtain ⟨b, hb⟩ := pre h2
    exact r.ne j l a b p2 ha hb h3 h4
  · by_cases hj : i = j
    · subst hj
      rw [List.getElem?_set_self hi] at h1
      cases h1
    · rw [List.getElem?_set_ne hj] at h1
      exact r.nb j e h1
/-- the list in the i-th slot -/
def ownL (i : Nat) (sd : DSt) : Option (List DL.D) := match sd[i]? with
  | some (some (.ow (.lst ds))) => some ds
  | _ => none
theorem ownL_get {i : Nat} {ds : List DL.D} (h : ownL i sd = some ds) : sd[i]? = some (some (.ow (.lst ds))) := by
  unfold ownL at h
  split at h
  · rename_i q; cases h; exact q
  · cases h
theorem RpS.ownL {i : Nat} {ds : List DL.D} (r : RpS S O σ sd) (h : ownL i sd = some ds) : ∃ q vs, σ[i]? = some (some (.ref q)) ∧ O q = some (.lst vs) ∧ RpL S vs ds := by
  obtain ⟨q, o, a, b, c⟩ := r.ow i _ (ownL_get h)
  obtain ⟨c, _⟩ := c
  cases c with
  | lst c => exact ⟨q, _, a, b, c⟩
theorem rw_lst {vs : List V} {ds : List DL.D} (r : RpL S vs ds) : RpW S (.lst vs) (.lst ds) := ⟨.lst r, fun xs z => nomatch z⟩
/-- xs.append(e) -/
def sApp {G : Type} (i : Nat) (f : DSt → G → Out G SV) : DSt → G → OutS G := fun sd g => match ownL i sd with
  | some ds => OutS.of sd (toD f sd g) fun d g1 => if ds.length < lim then .nx (sd.set i (some (.ow (.lst (ds ++ [d]))))) g1 else .bad
  | none => .bad
theorem ds_app {i : Nat} {x : Str} {apos cpos p1 : Pos} {fe : DSt → Z.G → Out Z.G SV} (he : DE X Z W e fe) (hN : X.N[i]? = some x := by rfl) (hv : Vis X.env.scope x := by first | exact Or.inl rfl | exact Or.inr (Or.inl rfl) | exact Or.inr (Or.inr rfl)) (hd : (x == ("__debug__" : Str)) = false := by decide)
    (hcd : (x == ("__classdict__" : Str)) = false := by decide) (hs : swapsWith (.Call (.Attribute (.Name x p1) "append" apos) [e] [] cpos) none pos.line X.env = pure false := by rfl)
    (hbase : attributeBase (.Name x p1) "append" X.env (eval (.Name x p1) X.env) = eval (.Name x p1) X.env := by rfl)
    (hfew : ((backTo cpos (starEach [e] X.env)).all (fun x => !x.1) && (backToKw cpos (keywordEach [] X.env)).all (fun x => x.1.isSome)
      && decide ([e].length + ([] : List Keyword).length + (if ([] : List Keyword).isEmpty then 0 else 1) < 30)) = true := by rfl)
    (hline : (apos.endLine == cpos.line) = true := by rfl) (hse : starEach [e] X.env = (false, eval e X.env) :: starEach [] X.env := by rfl) (hplain : (backTo cpos (starEach [] X.env)).any (·.1) = false := by rfl) :
    DS X Z W (.Expr (.Call (.Attribute (.Name x p1) "append" apos) [e] [] cpos) pos) (sApp i fe) :=
  ds_of (ps_expr (pe_bm PySem.F.plainAttrs_list PySem.F.slot_list_append PySem.F.type_list_append mt_append (pe_var hN hv hd hcd) (pa_cons he pa_nil hse) hbase hfew hline hse hplain) hs) fun S F O H σ sd g D I rs hR hp => by
    have kk : EG Z X.mg rD W (tE Z X.mg rV W fe) (toD fe) := eg_d eg_t
    unfold sApp at hp
    cases e0 : ownL i sd with
    | none => rw [e0] at hp; exact hp.elim
    | some ds =>
      rw [e0] at hp
      obtain ⟨q, vs, a, b, c⟩ := rs.ownL e0
      refine ⟨_, a, .inl ⟨rfl, _, SqL.of (I.o _ _ b)⟩, ?_⟩
      refine of_eg kk I rs hR hp fun d g' v S' F' H' st hR' rv rs' hq => ?_
      split at hq
      · rename_i hlt
        have b' : H' q = some (.lst vs) := st.inn.o _ _ b
        refine ⟨q, vs, v, rfl, rfl, b', by rw [c.length, lim_eq]; exact hlt, ?_⟩
        have w := Stp.write (o' := .lst (vs ++ [v])) st.inn b
        exact hq σ S' F' (upd O q (.lst (vs ++ [v]))) _ (st.trans I w) (rs'.write (ownL_get e0) a (rw_lst ((c.mono st.ss).snoc rv))) hR'
      · exact hq.elim
/-! ### xs[i] = v -/
def putL (ds : List DL.D) (i d : DL.D) : Option (List DL.D) := match i with
  | .int k => (ixN ds.length k).map fun j => ds.set j d
  | _ => none
def sPut {G : Type} (i : Nat) (fi fv : DSt → G → Out G SV) : DSt → G → OutS G := fun sd g => OutS.of sd (toD fv sd g) fun d g1 => match ownL i sd with
  | some ds => OutS.of sd (toB fi sd g1) fun k g2 => match putL ds k d with
    | some ds' => .nx (sd.set i (some (.ow (.lst ds')))) g2
    | none => .bad
  | none => .bad
theorem ds_put {i : Nat} {x : Str} {ix : Expr} {p1 p2 : Pos} {fi fv : DSt → Z.G → Out Z.G SV} (hi : DE X Z W ix fi) (hv : DE X Z W e fv) (hN : X.N[i]? = some x := by rfl) (hvs : Vis X.env.scope x := by first | exact Or.inl rfl | exact Or.inr (Or.inl rfl) | exact Or.inr (Or.inr rfl)) (hd : (x == ("__debug__" : Str)) = false := by decide)
    (hcd : (x == ("__classdict__" : Str)) = false := by decide) (ha : ∀ v, assign (.Subscript (.Name x p1) ix p2) X.env v = (do
      let ov ← holding [v] (eval (.Name x p1) X.env)
      let iv ← holding [v, ov] (eval ix X.env)
      standAt p2
      holding [v, ov, iv] (setItem ov iv v)
      release [v, ov, iv] []) := by intro _; rfl) (hs : swapsWithSole [.Subscript (.Name x p1) ix p2] e pos.line X.env = pure false := by rfl) (hw : swappedStores [.Subscript (.Name x p1) ix p2] e X.env = pure none := by rfl)
    (h1 : (assignEach [.Subscript (.Name x p1) ix p2] X.env).map (·.2) = [assign (.Subscript (.Name x p1) ix p2) X.env] := by rfl) :
    DS X Z W (.Assign [.Subscript (.Name x p1) ix p2] e pos) (sPut i fi fv) :=
  ds_of (ps_asg hv (pg_sub (pe_var hN hvs hd hcd) hi set_list ha) hs hw h1) fun S F O H σ sd g D I rs hR hp => by
    have kv : EG Z X.mg rD W (tE Z X.mg rV W fv) (toD fv) := eg_d eg_t
    have ki : EG Z X.mg rB W (tE Z X.mg rV W fi) (toB fi) := eg_b eg_t
    refine of_eg kv I rs hR hp fun d g1 v S1 F1 H1 st1 hR1 rv rs1 q1 => ?_
    cases e0 : ownL i sd with
    | none => rw [e0] at q1; exact q1.elim
    | some ds =>
      rw [e0] at q1
      obtain ⟨q, vs, a, b, c⟩ := rs1.ownL e0
      refine ⟨_, a, ?_⟩
      refine of_eg ki st1.inn rs1 hR1 (endQ_from I st1 q1) fun k g2 u S2 F2 H2 st2 hR2 ru rs2 q2 => ?_
      cases e1 : putL ds k d with
      | none => rw [e1] at q2; exact q2.elim
      | some ds' =>
        rw [e1] at q2
        unfold putL at e1
        split at e1
        · rename_i kk
          cases e2 : ixN ds.length kk with
          | none => rw [e2] at e1; cases e1
          | some j =>
            rw [e2] at e1
            cases e1
            rw [rb_int ru]
            have b' : H2 q = some (.lst vs) := st2.inn.o _ _ b
            have w := Stp.write (o' := .lst (vs.set j v)) st2.inn b
            refine ⟨q, vs, kk, j, rfl, rfl, b', by rw [c.length]; exact e2, ?_⟩
            exact q2 σ S2 F2 _ _ (st2.trans st1.inn w) (rs2.write (ownL_get e0) a (rw_lst (RpL.set (Rp.mono st2.ss rv) j (c.mono st2.ss)))) hR2
        · cases e1

/-! ### dicts -/
def valD {κ : Type} [DecidableEq κ] (kvs : List (κ × DL.D)) (k : κ) : Option DL.D := (kvs.find? fun kv => decide (kv.1 = k)).map (·.2)
def putD {κ : Type} [DecidableEq κ] (kvs : List (κ × DL.D)) (k : κ) (v : DL.D) : List (κ × DL.D) :=
  if (kvs.any fun kv => decide (kv.1 = k)) = true then kvs.map (fun kv => if kv.1 = k then (kv.1, v) else kv) else kvs ++ [(k, v)]
def asKey : DL.D → Option Key
  | .int i => some (.inl i)
  | .str x => some (.inr (mk x))
  | _ => none
def asKeys : List DL.D → Option (List Key)
  | [] => some []
  | d :: ds => (asKey d).bind fun k => (asKeys ds).map (k :: ·)
theorem RpK.val {kvs : List (Key × V)} {kds : List (Key × DL.D)} (k : Key) (r : RpK S kvs kds) : match valD kds k with
    | some d => ∃ v, valV kvs k = some v ∧ Rp S v d
    | none => valV kvs k = none := by
  induction kds generalizing kvs with
  | nil => cases r; exact rfl
  | cons p kds ih =>
    cases r with
    | @cons k' v d vs _ a b =>
      have h := ih b
      by_cases e : k' = k
      · have e1 : valD ((k', d) :: kds) k = some d := by simp [valD, List.find?_cons, e]
        rw [e1]
        exact ⟨v, valV_pos e, a⟩
      · have e1 : valD ((k', d) :: kds) k = valD kds k := by simp [valD, List.find?_cons, e]
        rw [e1, valV_neg e]
        exact h
theorem RpT.val {kvs : List (List Key × V)} {kds : List (List Key × DL.D)} (k : List Key) (r : RpT S kvs kds) : match valD kds k with
    | some d => ∃ v, valV kvs k = some v ∧ Rp S v d
    | none => valV kvs k = none := by
  induction kds generalizing kvs with
  | nil => cases r; exact rfl
  | cons p kds ih =>
    cases r with
    | @cons k' v d vs _ a b =>
      have h := ih b
      by_cases e : k' = k
      · have e1 : valD ((k', d) :: kds) k = some d := by simp [valD, List.find?_cons, e]
        rw [e1]
        exact ⟨v, valV_pos e, a⟩
      · have e1 : valD ((k', d) :: kds) k = valD kds k := by simp [valD, List.find?_cons, e]
        rw [e1, valV_neg e]
        exact h
theorem RpK.app {kvs kws : List (Key × V)} {kds kes : List (Key × DL.D)} (r : RpK S kvs kds) (q : RpK S kws kes) : RpK S (kvs ++ kws) (kds ++ kes) := by
  induction kds generalizing kvs with
  | nil => cases r; exact q
  | cons p kds ih =>
    cases r with
    | cons a b => exact .cons a (ih b)
theorem RpT.app {kvs kws : List (List Key × V)} {kds kes : List (List Key × DL.D)} (r : RpT S kvs kds) (q : RpT S kws kes) : RpT S (kvs ++ kws) (kds ++ kes) := by
  induction kds generalizing kvs with
  | nil => cases r; exact q
  | cons p kds ih =>
    cases r with
    | cons a b => exact .cons a (ih b)
theorem RpK.any {kvs : List (Key × V)} {kds : List (Key × DL.D)} (k : Key) (r : RpK S kvs kds) : (kvs.any fun kv => decide (kv.1 = k)) = kds.any fun kv => decide (kv.1 = k) := by
  induction kds generalizing kvs with
  | nil => cases r; rfl
  | cons p kds ih =>
    cases r with
    | cons a b => rw [List.any_cons, List.any_cons, ih b]
theorem RpT.any {kvs : List (List Key × V)} {kds : List (List Key × DL.D)} (k : List Key) (r : RpT S kvs kds) : (kvs.any fun kv => decide (kv.1 = k)) = kds.any fun kv => decide (kv.1 = k) := by
  induction kds generalizing kvs with
  | nil => cases r; rfl
  | cons p kds ih =>
    cases r with
    | cons a b => rw [List.any_cons, List.any_cons, ih b]
theorem RpK.repl {kvs : List (Key × V)} {kds : List (Key × DL.D)} {k : Key} {v : V} {d : DL.D} (r : RpK S kvs kds) (rv : Rp S v d) : RpK S (kvs.map fun kv => if kv.1 = k then (kv.1, v) else kv) (kds.map fun kv => if kv.1 = k then (kv.1, d) else kv) := by
  induction kds generalizing kvs with
  | nil => cases r; exact .nil
  | cons q kds ih =>
    cases r with
    | @cons k2 v2 d2 vs2 _ a b =>
      rw [List.map_cons, List.map_cons]
      by_cases e : k2 = k
      · rw [if_pos e, if_pos e]; exact .cons rv (ih b)
      · rw [if_neg e, if_neg e]; exact .cons a (ih b)
theorem RpT.repl {kvs : List (List Key × V)} {kds : List (List Key × DL.D)} {k : List Key} {v : V} {d : DL.D} (r : RpT S kvs kds) (rv : Rp S v d) : RpT S (kvs.map fun kv => if kv.1 = k then (kv.1, v) else kv) (kds.map fun kv => if kv.1 = k then (kv.1, d) else kv) := by
  induction kds generalizing kvs with
  | nil => cases r; exact .nil
  | cons q kds ih =>
    cases r with
    | @cons k2 v2 d2 vs2 _ a b =>
      rw [List.map_cons, List.map_cons]
      by_cases e : k2 = k
      · rw [if_pos e, if_pos e]; exact .cons rv (ih b)
      · rw [if_neg e, if_neg e]; exact .cons a (ih b)
theorem RpK.put {kvs : List (Key × V)} {kds : List (Key × DL.D)} {k : Key} {v : V} {d : DL.D} (r : RpK S kvs kds) (rv : Rp S v d) : RpK S (putK kvs k v) (putD kds k d) := by
  unfold putK putD
  rw [r.any k]
  split
  · exact r.repl rv
  · exact r.app (.cons rv .nil)
theorem RpT.put {kvs : List (List Key × V)} {kds : List (List Key × DL.D)} {k : List Key} {v : V} {d : DL.D} (r : RpT S kvs kds) (rv : Rp S v d) : RpT S (putK kvs k v) (putD kds k d) := by
  unfold putK putD
  rw [r.any k]
  split
  · exact r.repl rv
  · exact r.app (.cons rv .nil)
theorem key_val {v : V} {d : DL.D} {k : Key} (r : RpB S O v d) (h : asKey d = some k) : v = kV k := by
  cases d with
  | int i => cases h; exact rb_int r
  | str x => cases h; exact rb_str r
  | _ => cases h
theorem keys_val {vs : List V} {ds : List DL.D} {ks : List Key} (r : RpL S vs ds) (h : asKeys ds = some ks) : vs = ks.map kV := by
  induction ds generalizing vs ks with
  | nil => cases r; cases h; rfl
  | cons d ds ih =>
    cases r with
    | cons a b =>
      have h : (asKey d).bind (fun k => (asKeys ds).map (k :: ·)) = some ks := h
      cases e : asKey d with
      | none => rw [e] at h; cases h
      | some k =>
        rw [e] at h
        cases e2 : asKeys ds with
        | none => rw [e2] at h; cases h
        | some ks2 =>
          rw [e2] at h
          cases h
          rw [key_val (O := nil) (.inl a) e, ih b e2]
          rfl
def ORl (S : Hp) : Option V → Option DL.D → Prop
  | some v, some d => Rp S v d
  | none, none => True
  | _, _ => False
theorem ORl.isSome {ov : Option V} {r : Option DL.D} (h : ORl S ov r) : ov.isSome = r.isSome := by
  cases ov <;> cases r <;> first | rfl | exact h.elim
/-- what stands in the dict there -/
def getD : DL.D → DL.D → Option (Option DL.D)
  | .dk kvs, d => (asKey d).map fun k => valD kvs k
  | .dt kvs, .tup ds => (asKeys ds).map fun k => valD kvs k
  | .ft kvs, .tup ds => (asKeys ds).map fun k => valD kvs k
  | _, _ => none
theorem dget_of {H : Hp} {x y : V} {dx dy : DL.D} {r : Option DL.D} (I : Inn S F O H) (rx : RpB S O x dx) (ry : RpB S O y dy) (h : getD dx dy = some r) :
    ∃ a ov, x = .ref a ∧ DGet H a y ov ∧ ORl S ov r := by
  unfold getD at h
  split at h
  · rename_i kds
    cases e : asKey dy with
    | none => rw [e] at h; cases h
    | some k =>
      rw [e] at h
      cases h
      obtain ⟨p, kvs, rfl, hp, rp⟩ := rb_dk I rx
      rw [key_val ry e]
      refine ⟨p, _, rfl, .k hp, ?_⟩
      have := RpK.val k rp
      show ORl S _ (valD kds k)
      cases e2 : valD kds k with
      | none => rw [e2] at this; rw [this]; exact True.intro
      | some d => rw [e2] at this; obtain ⟨v, e3, rv⟩ := this; rw [e3]; exact rv
  · rename_i kds ds
    cases e : asKeys ds with
    | none => rw [e] at h; cases h
    | some k =>
      rw [e] at h
      cases h
      obtain ⟨p, kvs, rfl, hp, rp⟩ := rb_dt I rx
      obtain ⟨q, vs, rfl, hq, rq⟩ := rb_tup I ry
      rw [keys_val rq e] at hq
      refine ⟨p, _, rfl, .t hp hq, ?_⟩
      have := RpT.val k rp
      show ORl S _ (valD kds k)
      cases e2 : valD kds k with
      | none => rw [e2] at this; rw [this]; exact True.intro
      | some d => rw [e2] at this; obtain ⟨v, e3, rv⟩ := this; rw [e3]; exact rv
  · rename_i kds ds
    cases e : asKeys ds with
    | none => rw [e] at h; cases h
    | some k =>
      rw [e] at h
      cases h
      have rf : ∃ p o kvs, x = .ref p ∧ S p = some (.frz o (.dT kvs)) ∧ RpT S kvs kds := by
        rcases rx with rx | ⟨p, o, _, _, w, _⟩
        · cases rx with
          | ft h1 h2 => exact ⟨_, _, _, rfl, h1, h2⟩
          | «at» h1 h2 => cases h2
        · cases w
      obtain ⟨p, o, kvs, rfl, hp, rp⟩ := rf
      obtain ⟨q, vs, rfl, hq, rq⟩ := rb_tup I ry
      rw [keys_val rq e] at hq
      refine ⟨p, _, rfl, .inr ⟨kvs, k, q, .inr ⟨o, I.s _ _ hp⟩, rfl, hq, rfl⟩, ?_⟩
      have := RpT.val k rp
      show ORl S _ (valD kds k)
      cases e2 : valD kds k with
      | none => rw [e2] at this; rw [this]; exact True.intro
      | some d => rw [e2] at this; obtain ⟨v, e3, rv⟩ := this; rw [e3]; exact rv
  · cases h
/-- d[k], there -/
def fDGet {G : Type} (fo fi : DSt → G → Out G SV) : DSt → G → Out G SV := fun sd g => (toB fo sd g).bind fun x g1 => (toB fi sd g1).bind fun y g2 => match getD x y with
  | some (some d) => .ok (.fr d) g2
  | _ => .bad
theorem de_dget {o i : Expr} {fo fi : DSt → Z.G → Out Z.G SV} {j : Nat} (ho : DE X Z W o fo) (hi : DE X Z W i fi) (hr : Room (j + 1) X.A) (hs : NoSl i := by exact fun _ _ => rfl) : DE X Z W (.Subscript o i pos) (fDGet fo fi) :=
  de_of (pe_dget (by have := units1 hr; omega) ho hi hs) fun S F O H σ sd g Q I rs hR hp => by
    have ko : EG Z X.mg rB W (tE Z X.mg rV W fo) (toB fo) := eg_b eg_t
    have ki : EG Z X.mg rB W (tE Z X.mg rV W fi) (toB fi) := eg_b eg_t
    refine ko S F O H σ sd g _ I rs hR (post_mono (post_bind.mp hp) (fun dx g1 q1 x S1 F1 H1 st1 hR1 rx => ?_) fun _ _ q => q)
    refine ki S1 F1 O H1 σ sd g1 _ st1.inn (rs.mono st1.ss) hR1 (post_mono (post_bind.mp q1) (fun dy g2 q2 y S2 F2 H2 st2 hR2 ry => ?_) fun _ _ q => erQ_from I st1 q)
    split at q2
    · rename_i d e
      obtain ⟨a, ov, e1, dg, h3⟩ := dget_of st2.inn (rx.mono st2.ss) ry e
      cases ov with
      | none => exact h3.elim
      | some v => exact ⟨a, v, e1, dg, q2 v S2 F2 H2 (st1.trans I st2) hR2 h3⟩
    · exact q2.elim
/-- k in d -/
def fDIn {G : Type} (n : Bool) (fi fo : DSt → G → Out G SV) : DSt → G → Out G SV := fun sd g => (toB fi sd g).bind fun y g1 => (toB fo sd g1).bind fun x g2 => match getD x y with
  | some r => .ok (.fr (.bl (if n = true then !r.isSome else r.isSome))) g2
  | none => .bad
theorem eg_din {o i : Expr} {fo fi : DSt → Z.G → Out Z.G SV} : EG Z X.mg rV W (tDIn (tE Z X.mg rV W fi) (tE Z X.mg rV W fo)) (fDIn false fi fo) := fun S F O H σ sd g Q I rs hR hp => by
    have ko : EG Z X.mg rB W (tE Z X.mg rV W fo) (toB fo) := eg_b eg_t
    have ki : EG Z X.mg rB W (tE Z X.mg rV W fi) (toB fi) := eg_b eg_t
    refine ki S F O H σ sd g _ I rs hR (post_mono (post_bind.mp hp) (fun dy g1 q1 y S1 F1 H1 st1 hR1 ry => ?_) fun _ _ q => q)
    refine ko S1 F1 O H1 σ sd g1 _ st1.inn (rs.mono st1.ss) hR1 (post_mono (post_bind.mp q1) (fun dx g2 q2 x S2 F2 H2 st2 hR2 rx => ?_) fun _ _ q => erQ_from I st1 q)
    split at q2
    · rename_i r e
      obtain ⟨a, ov, e1, dg, h3⟩ := dget_of st2.inn rx (ry.mono st2.ss) e
      refine ⟨a, ov, e1, dg, ?_⟩
      rw [h3.isSome]
      exact q2 _ S2 F2 H2 (st1.trans I st2) hR2 (.bl _)
    · exact q2.elim
theorem eg_dnotin {o i : Expr} {fo fi : DSt → Z.G → Out Z.G SV} : EG Z X.mg rV W (tDNotIn (tE Z X.mg rV W fi) (tE Z X.mg rV W fo)) (fDIn true fi fo) := fun S F O H σ sd g Q I rs hR hp => by
    have ko : EG Z X.mg rB W (tE Z X.mg rV W fo) (toB fo) := eg_b eg_t
    have ki : EG Z X.mg rB W (tE Z X.mg rV W fi) (toB fi) := eg_b eg_t
    refine ki S F O H σ sd g _ I rs hR (post_mono (post_bind.mp hp) (fun dy g1 q1 y S1 F1 H1 st1 hR1 ry => ?_) fun _ _ q => q)
    refine ko S1 F1 O H1 σ sd g1 _ st1.inn (rs.mono st1.ss) hR1 (post_mono (post_bind.mp q1) (fun dx g2 q2 x S2 F2 H2 st2 hR2 rx => ?_) fun _ _ q => erQ_from I st1 q)
    split at q2
    · rename_i r e
      obtain ⟨a, ov, e1, dg, h3⟩ := dget_of st2.inn rx (ry.mono st2.ss) e
      refine ⟨a, ov, e1, dg, ?_⟩
      rw [h3.isSome]
      exact q2 _ S2 F2 H2 (st1.trans I st2) hR2 (.bl _)
    · exact q2.elim
theorem de_din {o i : Expr} {fo fi : DSt → Z.G → Out Z.G SV} {j : Nat} (hi : DE X Z W i fi) (ho : DE X Z W o fo) (hr : Room (j + 1) X.A) (hm : behindInMarks .In o = false := by rfl) : DE X Z W (.Compare i [.In] [o] pos) (fDIn false fi fo) := de_of (pe_cmp (pc_din (by have := units1 hr; omega) hi ho) hm) (eg_din (o := o) (i := i))
theorem dt_din {o i : Expr} {fo fi : DSt → Z.G → Out Z.G SV} {j : Nat} (hi : DE X Z W i fi) (ho : DE X Z W o fo) (hr : Room (j + 1) X.A) (hm : behindInMarks .In o = false := by rfl) : DT X Z W (.Compare i [.In] [o] pos) (asB (fDIn false fi fo)) := dt_of (pt_cmp (pc_din (by have := units1 hr; omega) hi ho) hm) (bg_B (eg_din (o := o) (i := i)))
theorem de_dnotin {o i : Expr} {fo fi : DSt → Z.G → Out Z.G SV} {j : Nat} (hi : DE X Z W i fi) (ho : DE X Z W o fo) (hr : Room (j + 1) X.A) (hm : behindInMarks .NotIn o = false := by rfl) : DE X Z W (.Compare i [.NotIn] [o] pos) (fDIn true fi fo) := de_of (pe_cmp (pc_dnotin (by have := units1 hr; omega) hi ho) hm) (eg_dnotin (o := o) (i := i))
theorem dt_dnotin {o i : Expr} {fo fi : DSt → Z.G → Out Z.G SV} {j : Nat} (hi : DE X Z W i fi) (ho : DE X Z W o fo) (hr : Room (j + 1) X.A) (hm : behindInMarks .NotIn o = false := by rfl) : DT X Z W (.Compare i [.NotIn] [o] pos) (asB (fDIn true fi fo)) := dt_of (pt_cmp (pc_dnotin (by have := units1 hr; omega) hi ho) hm) (bg_B (eg_dnotin (o := o) (i := i)))
/-- d[k] = v, d one's own -/
def putO : DL.D → DL.D → DL.D → Option DL.D
  | .dk kvs, d, x => if kvs.length < lim then (asKey d).map fun k => .dk (putD kvs k x) else none
  | .dt kvs, .tup ds, x => if kvs.length < lim then (asKeys ds).map fun k => .dt (putD kvs k x) else none
  | _, _, _ => none
def ownD (i : Nat) (sd : DSt) : Option DL.D := match sd[i]? with
  | some (some (.ow d)) => some d
  | _ => none
def sDPutF {G : Type} (i : Nat) (fi fv : DSt → G → Out G SV) : DSt → G → OutS G := fun sd g => OutS.of sd (toD fv sd g) fun d g1 => match ownD i sd with
  | some x => OutS.of sd (toB fi sd g1) fun y g2 => match putO x y d with
    | some x' => .nx (sd.set i (some (.ow x'))) g2
    | none => .bad
  | none => .bad
theorem put_of {H : Hp} {q : Addr} {o : HO} {v y : V} {x dy d x' : DL.D} (I : Inn S F O H) (hq : H q = some o) (rx : RpW S o x) (ry : RpB S O y dy) (rv : Rp S v d) (h : putO x dy d = some x') : ∃ o', DPut H q y v (upd H q o') ∧ RpW S o' x' := by
  unfold putO at h
  split at h
  · rename_i kds
    split at h
    · rename_i hlt
      cases e : asKey dy with
      | none => rw [e] at h; cases h
      | some k =>
        rw [e] at h
        cases h
        obtain ⟨r, _⟩ := rx
        cases r with
        | dk r =>
          rw [key_val ry e]
          exact ⟨_, .k hq (by rw [r.length, lim_eq]; exact hlt), .dk (r.put rv), fun xs z => nomatch z⟩
    · cases h
  · rename_i kds ds
    split at h
    · rename_i hlt
      cases e : asKeys ds with
      | none => rw [e] at h; cases h
      | some k =>
        rw [e] at h
        cases h
        obtain ⟨r, _⟩ := rx
        cases r with
        | dt r =>
          obtain ⟨b, vs, rfl, hb, rq⟩ := rb_tup I ry
          rw [keys_val rq e] at hb
          exact ⟨_, .t hq hb (by rw [r.length, lim_eq]; exact hlt), .dt (r.put rv), fun xs z => nomatch z⟩
    · cases h
  · cases h
theorem ds_dput {i j : Nat} {x : Str} {ix : Expr} {p1 p2 : Pos} {fi fv : DSt → Z.G → Out Z.G SV} (hi : DE X Z W ix fi) (hv : DE X Z W e fv) (hr : Room (j + 1) X.A) (hN : X.N[i]? = some x := by rfl) (hvs : Vis X.env.scope x := by first | exact Or.inl rfl | exact Or.inr (Or.inl rfl) | exact Or.inr (Or.inr rfl)) (hd : (x == ("__debug__" : Str)) = false := by decide)
    (hcd : (x == ("__classdict__" : Str)) = false := by decide) (hs : swapsWith e (some (.Subscript (.Name x p1) ix p2)) pos.line X.env = pure false := by rfl) :
    DS X Z W (.Assign [.Subscript (.Name x p1) ix p2] e pos) (sDPutF i fi fv) :=
  ds_of (ps_dput (by have := units1 hr; omega) (pe_var hN hvs hd hcd) hi hv hs) fun S F O H σ sd g D I rs hR hp => by
    have kv : EG Z X.mg rD W (tE Z X.mg rV W fv) (toD fv) := eg_d eg_t
    have ki : EG Z X.mg rB W (tE Z X.mg rV W fi) (toB fi) := eg_b eg_t
    refine of_eg kv I rs hR hp fun d g1 v S1 F1 H1 st1 hR1 rv rs1 q1 => ?_
    cases e0 : ownD i sd with
    | none => rw [e0] at q1; exact q1.elim
    | some x0 =>
      rw [e0] at q1
      have e0' : sd[i]? = some (some (.ow x0)) := by
        unfold ownD at e0
        split at e0
        · rename_i q; cases e0; exact q
        · cases e0
      obtain ⟨q, o, a, b, c⟩ := rs1.ow i _ e0'
      refine ⟨_, a, ?_⟩
      refine of_eg ki st1.inn rs1 hR1 (endQ_from I st1 q1) fun dy g2 y S2 F2 H2 st2 hR2 ry rs2 q2 => ?_
      cases e1 : putO x0 dy d with
      | none => rw [e1] at q2; exact q2.elim
      | some x' =>
        rw [e1] at q2
        have b' : H2 q = some o := st2.inn.o _ _ b
        obtain ⟨o', dp, rw'⟩ := put_of st2.inn b' (c.mono st2.ss) ry (Rp.mono st2.ss rv) e1
        have w := Stp.write (o' := o') st2.inn b rw'.nt
        exact ⟨q, _, rfl, dp, q2 σ S2 F2 _ _ (st2.trans st1.inn w) (rs2.write e0' a rw') hR2⟩
end
end DL
namespace DL
open PySem PySem.Spec PyProof.Rows L2
/-! ### for, while -/
def forGo {G : Type} (gf : D → DSt → Option DSt) (body : DSt → G → OutS G) : List D → DSt → G → OutS G
  | [], sd, g => .nx sd g
  | d :: r, sd, g => match gf d sd with
    | none => .bad
    | some sd' => match body sd' g with
      | .nx s g1 => forGo gf body r s g1
      | .ct s g1 => forGo gf body r s g1
      | .bk s g1 => .nx s g1
      | .rt x g1 => .rt x g1
      | .er e s g1 => .er e s g1
      | .bad => .bad
def sFor {G : Type} (fi : DSt → G → Out G (List D)) (gf : D → DSt → Option DSt) (body : DSt → G → OutS G) : DSt → G → OutS G := fun sd g => OutS.of sd (fi sd g) fun ds g1 => forGo gf body ds sd g1
def whGo {G : Type} (c : DSt → G → Out G Bool) (body : DSt → G → OutS G) : Nat → DSt → G → OutS G
  | 0, _, _ => .bad
  | n + 1, sd, g => OutS.of sd (c sd g) fun b g1 => if b = true then match body sd g1 with
      | .nx s g2 => whGo c body n s g2
      | .ct s g2 => whGo c body n s g2
      | .bk s g2 => .nx s g2
      | .rt x g2 => .rt x g2
      | .er e s g2 => .er e s g2
      | .bad => .bad
    else .nx sd g1
/-- n turns at most -/
def sWhile {G : Type} (n : Nat) (c : DSt → G → Out G Bool) (body : DSt → G → OutS G) : DSt → G → OutS G := fun sd g => whGo c body n sd g
section
variable {X : Cx} {Z : Eff} {W : WX} {st : Stmt} {sts rest : List Stmt} {e a b c : Expr} {es : List Expr} {pos p : Pos} {f k : DSt → Z.G → OutS Z.G} {S F O H S1 F1 O1 H1 : Hp} {σ : L2.St} {sd : DSt} {g : Z.G}
theorem ds_for {iter tg : Expr} {body : List Stmt} {fi : DSt → Z.G → Out Z.G (List DL.D)} {is : List Nat} {gf : DL.D → DSt → Option DSt} (hi : DI false X Z W tg iter fi) (hg : DG X tg is gf) (hb : DSs X Z W body f) (hp : PassesOwn (model X.prog X.w) X.A X.env X.xe) (hc : X.calm = true)
    (hs : ∀ x, foldedSetIterable iter X.env x = pure x := by intro _; rfl) : DS X Z W (.For tg iter body [] pos) (sFor fi gf f) := ds_of (ps_for hp hc hi hg hb hs) fun S F O H σ sd g D I rs hR hp => by
  refine ⟨S, F, O, sd, g, I, rs, hR, ?_⟩
  unfold sFor at hp
  cases e0 : fi sd g with
  | bad => rw [e0] at hp; exact hp.elim
  | er x g' =>
    rw [e0] at hp
    exact fun cls dx S' F' H' st hR' ex => hp cls dx σ S' F' O H' st (rs.mono st.ss) hR' ex
  | ok ds g1 =>
    rw [e0] at hp
    have hp : endQ Z X.mg W D S F O H (forGo gf f ds sd g1) := hp
    intro J S1 F1 H1 st1 hR1 jt
    refine ⟨fun i m σ' H' => m = ds.length - i ∧ i ≤ ds.length ∧ ∃ (S2 F2 O2 : Hp) (sd2 : DSt) (g2 : Z.G), Stp S1 F1 O H1 S2 F2 O2 H' ∧ RpS S2 O2 σ' sd2 ∧ Z.R g2 S2 F2 ∧ endQ Z X.mg W D S1 F1 O H1 (forGo gf f (ds.drop i) sd2 g2),
      ⟨ds.length, by simp, Nat.zero_le _, S1, F1, O, sd, g1, Stp.refl st1.inn, rs.mono st1.ss, hR1, by rw [List.drop_zero]; exact endQ_from I st1 hp⟩, ?_⟩
    rintro i m σ' H' ⟨rfl, hi, S2, F2, O2, sd2, g2, st2, rs2, hR2, q2⟩
    by_cases hlt : i < ds.length
    · refine .inr ⟨jt.go S2 F2 O2 H' i st2.inn st2.ss same_nil hlt, fun σ'' H'' => ∃ (S2 F2 O2 : Hp) (sd2 : DSt) (g2 : Z.G), Stp S1 F1 O H1 S2 F2 O2 H'' ∧ RpS S2 O2 σ'' sd2 ∧ Z.R g2 S2 F2 ∧ endQ Z X.mg W D S1 F1 O H1 (forGo gf f (ds.drop (i + 1)) sd2 g2), fun σ'' H'' z => ⟨ds.length - (i + 1), by omega, rfl, hlt, z⟩, fun x H3 y => ?_⟩
      obtain ⟨S3, d, st3, hd, rx⟩ := jt.yld S2 F2 O2 H' i x H3 st2.inn st2.ss same_nil hlt y
      have e : ds.drop i = d :: ds.drop (i + 1) := by
        rw [List.drop_eq_getElem_cons hlt]
        have := List.getElem?_eq_getElem hlt
        rw [hd] at this
        cases this
        rfl
      rw [e] at q2
      unfold forGo at q2
      split at q2
      · exact q2.elim
      · rename_i sd' egf
        have st23 := st2.trans st1.inn st3
        refine ⟨S3, F2, O2, sd2, sd', d, st3.inn, rs2.mono st3.ss, rx, egf, fun σ3 rs3 _ => ?_⟩
        refine ⟨S3, F2, O2, sd', g2, st3.inn, rs3, Z.mono _ _ _ _ st3.ss hR2, ?_⟩
        cases e1 : f sd' g2 with
        | bad => rw [e1] at q2; exact q2.elim
        | nx s g3 =>
          rw [e1] at q2
          exact fun σ4 S4 F4 O4 H4 st4 rs4 hR4 => ⟨S4, F4, O4, s, g3, st23.trans st1.inn st4, rs4, hR4, q2⟩
        | ct s g3 =>
          rw [e1] at q2
          exact fun σ4 S4 F4 O4 H4 st4 rs4 hR4 => ⟨S4, F4, O4, s, g3, st23.trans st1.inn st4, rs4, hR4, q2⟩
        | bk s g3 =>
          rw [e1] at q2
          exact fun σ4 S4 F4 O4 H4 st4 rs4 hR4 => q2 σ4 S4 F4 O4 H4 (st23.trans st1.inn st4) rs4 hR4
        | rt x g3 =>
          rw [e1] at q2
          exact fun v S4 F4 O4 H4 st4 hR4 rv => q2 v S4 F4 O4 H4 (st23.trans st1.inn st4) hR4 (backs_V _ _ _ _ _ _ _ _ (fun _ z => back_none st23 z) rv)
        | er x s g3 =>
          rw [e1] at q2
          exact fun cls dx σ4 S4 F4 O4 H4 st4 rs4 hR4 ex => q2 cls dx σ4 S4 F4 O4 H4 (st23.trans st1.inn st4) rs4 hR4 ex
    · have e : i = ds.length := by omega
      subst e
      rw [List.drop_length] at q2
      exact .inl ⟨jt.stop S2 F2 O2 H' st2.inn st2.ss same_nil, q2 σ' S2 F2 O2 H' st2 rs2 hR2⟩
theorem ds_while {body : List Stmt} {fc : DSt → Z.G → Out Z.G Bool} (n : Nat) (hc : DT X Z W c fc) (hb : DSs X Z W body f) (hp : PassesOwn (model X.prog X.w) X.A X.env X.xe) : DS X Z W (.While c body [] pos) (sWhile n fc f) := ds_of (ps_while hp hc hb) fun S F O H σ sd g D I rs hR hp => by
  refine ⟨fun m σ' H' => ∃ (S2 F2 O2 : Hp) (sd2 : DSt) (g2 : Z.G), Inn S2 F2 O2 H' ∧ RpS S2 O2 σ' sd2 ∧ Z.R g2 S2 F2 ∧ endQ Z X.mg W D S2 F2 O2 H' (whGo fc f m sd2 g2), ⟨n, S, F, O, sd, g, I, rs, hR, hp⟩, ?_⟩
  rintro m σ' H' ⟨S2, F2, O2, sd2, g2, I2, rs2, hR2, q2⟩
  cases m with
  | zero => exact q2.elim
  | succ m =>
    unfold whGo at q2
    refine of_bg bg_t I2 rs2 hR2 q2 fun b g3 S3 F3 H3 st3 hR3 rs3 q3 => ?_
    cases b with
    | false =>
      rw [if_neg Bool.false_ne_true] at q3 ⊢
      exact q3 σ' S3 F3 O2 H3 st3 rs3 hR3
    | true =>
      rw [if_pos rfl] at q3 ⊢
      refine ⟨fun σ'' H'' => ∃ (S2 F2 O2 : Hp) (sd2 : DSt) (g2 : Z.G), Inn S2 F2 O2 H'' ∧ RpS S2 O2 σ'' sd2 ∧ Z.R g2 S2 F2 ∧ endQ Z X.mg W D S2 F2 O2 H'' (whGo fc f m sd2 g2), fun σ'' H'' z => ⟨m, Nat.lt_succ_self _, z⟩, ?_⟩
      refine ⟨S3, F3, O2, sd2, g3, st3.inn, rs3, hR3, ?_⟩
      cases e1 : f sd2 g3 with
      | bad => rw [e1] at q3; exact q3.elim
      | nx s g3 =>
        rw [e1] at q3
        exact fun σ4 S4 F4 O4 H4 st4 rs4 hR4 => ⟨S4, F4, O4, s, g3, st4.inn, rs4, hR4, endQ_from I2 (st3.trans I2 st4) q3⟩
      | ct s g3 =>
        rw [e1] at q3
        exact fun σ4 S4 F4 O4 H4 st4 rs4 hR4 => ⟨S4, F4, O4, s, g3, st4.inn, rs4, hR4, endQ_from I2 (st3.trans I2 st4) q3⟩
      | bk s g3 =>
        rw [e1] at q3
        exact fun σ4 S4 F4 O4 H4 st4 rs4 hR4 => q3 σ4 S4 F4 O4 H4 (st3.trans I2 st4) rs4 hR4
      | rt x g3 =>
        rw [e1] at q3
        exact fun v S4 F4 O4 H4 st4 hR4 rv => q3 v S4 F4 O4 H4 (st3.trans I2 st4) hR4 (backs_V _ _ _ _ _ _ _ _ (fun _ z => back_none st3 z) rv)
      | er x s g3 =>
        rw [e1] at q3
        exact fun cls dx σ4 S4 F4 O4 H4 st4 rs4 hR4 ex => q3 cls dx σ4 S4 F4 O4 H4 (st3.trans I2 st4) rs4 hR4 ex
end
end DL
namespace DL
open PySem PySem.Spec PyProof.Rows L2
/-! ### a def -/
/-- its exceptions are its caller's -/
def WD (E : XK) : WX := fun cls d _ H => E cls d H
/-- its slots at the start -/
def startD (n : Nat) (ds : List D) : DSt := ds.map (fun d => some (.fr d)) ++ List.replicate (n - ds.length) none
def ownR : SV → SV
  | .fr d => .fr d
  | .ow d => .ow d
  | .bo d => .ow d
def OutS.out {G : Type} : OutS G → Out G SV
  | .nx _ g => .ok (.fr .non) g
  | .rt x g => .ok (ownR x) g
  | .er e _ g => .er e g
  | .bk _ _ => .bad
  | .ct _ _ => .bad
  | .bad => .bad
/-- what a def of n slots and this body answers -/
def runD {G : Type} (n : Nat) (f : DSt → G → OutS G) : List D → G → Out G SV := fun ds g => (f (startD n ds) g).out
section
variable {P : Program} {w : World} {K : PySem.W.Frag} {mg : Str → Option Value} {base : Heap} {N ps : List Str} {qual x : Str} {scope : Scope} {fa : Addr} {cdv : Value} {A : Around} {outer : List Env} {s : Shared} {H : Hp} {E : XK}
theorem tkD : Takes (cxOf (L2.CX P w) P w K mg base N qual scope fa cdv A outer s H E) (WD E) := takes_of rfl rfl rfl rfl
theorem psD : PassesOwn (model P w) (A.deeper (envOfC qual scope s.heap.objs.size fa cdv)) (envOfC qual scope s.heap.objs.size fa cdv) (cxOf (L2.CX P w) P w K mg base N qual scope fa cdv A outer s H E).xe :=
  passes_of (X := cxOf (L2.CX P w) P w K mg base N qual scope fa cdv A outer s H E) rfl
/-- a block lets nothing out -/
theorem tkB {X : Cx} : Takes X WF := takes0
theorem start_rps {S : Hp} : ∀ {vs : List V} {ds : List D} (m : Nat), RpL S vs ds → RpS S nil (vs.map some ++ List.replicate m none) (ds.map (fun d => some (SV.fr d)) ++ List.replicate m none) := fun {vs ds} m r => by
  have hl := r.length
  have no : ∀ {i : Nat} {y : SV}, (ds.map (fun d => some (SV.fr d)) ++ List.replicate m none)[i]? = some (some y) → ∃ d, ds[i]? = some d ∧ y = .fr d := fun {i y} h => by
    by_cases hi : i < ds.length
    · rw [List.getElem?_append_left (by rw [List.length_map]; exact hi), List.getElem?_map] at h
      cases e : ds[i]? with
      | none => rw [e] at h; cases h
      | some d => rw [e] at h; cases h; exact ⟨d, rfl, rfl⟩
    · rw [List.getElem?_append_right (by rw [List.length_map]; omega), List.getElem?_replicate] at h
      split at h <;> cases h
  refine ⟨by rw [List.length_append, List.length_append, List.length_map, List.length_map, hl, List.length_replicate, List.length_replicate], fun i d h => ?_, fun i d h => ?_, fun i j d e p h _ _ _ => ?_, fun i d h => ?_⟩
  · obtain ⟨d', e1, e2⟩ := no h
    cases e2
    obtain ⟨v, a, b⟩ := r.get e1
    refine ⟨v, ?_, b⟩
    have hi : i < vs.length := by rw [hl]; exact (List.getElem?_eq_some_iff.mp e1).1
    rw [List.getElem?_append_left (by rw [List.length_map]; exact hi), List.getElem?_map, a]; rfl
  · obtain ⟨d', e1, e2⟩ := no h; cases e2
  · obtain ⟨d', e1, e2⟩ := no h; cases e2
  · obtain ⟨d', e1, e2⟩ := no h; cases e2
theorem Stp.drop {S F H S1 F1 O1 H1 : Hp} (a : Stp S F nil H S1 F1 O1 H1) : Stp S F nil H S1 F1 nil H1 :=
  ⟨a.inn.low, a.ss, a.keep, a.dom, a.ns, a.nf, fun _ z => absurd rfl z⟩
theorem rV_ret {S F H S1 F1 O1 H1 : Hp} {v : V} {x : SV} (a : Stp S F nil H S1 F1 O1 H1) (r : rV H S1 F1 O1 H1 v x) : rV H S1 F1 nil H1 v (ownR x) := by
  cases x with
  | fr d => exact r
  | ow d =>
    obtain ⟨p, o, e1, e2, e3, e4, e5, e6, e7⟩ := r
    exact ⟨p, o, e1, e2, e3, e4, e5, rfl, e7⟩
  | bo d =>
    obtain ⟨p, o, e1, e2, e3⟩ := r
    refine ⟨p, o, e1, a.inn.o _ _ e2, e3, a.inn.os (nn_of e2), a.inn.of (nn_of e2), rfl, ?_⟩
    rcases a.no p (nn_of e2) with z | z
    · exact absurd rfl z
    · exact z
variable {Z : Eff} {params : Arguments} {body : List Stmt} {fd : FuncData} {k : Nat} {f : DSt → Z.G → OutS Z.G}
theorem fnOk_of (F : FunD K x qual params body scope [] [] fa fd) (S : FnScope N ps scope)
    (hb : ∀ (cdv : Value) (A : Around) (outer : List Env) (s : Shared) (H : Hp) (E : XK), Room k (A.deeper (envOfC qual scope s.heap.objs.size fa cdv)) → DSs (cxOf (L2.CX P w) P w K mg base N qual scope fa cdv A outer s H E) Z (WD E) body f) :
    FnOk P w K mg base (L2.CX P w) (k + 1) fa fd ps (spD Z mg ps.length (runD N.length f)) := by
  refine F.ok S (fun vs H Q E h => ?_) fun cdv A outer s H vs Q E hr h => ⟨_, hb cdv A outer s H E hr, ?_⟩
  · obtain ⟨S1, F1, ds, g, i, r, hl, hR, hp⟩ := h
    rw [r.length, hl]
  · obtain ⟨S1, F1, ds, g, i, r, hl, hR, hp⟩ := h
    refine ⟨S1, F1, nil, startD N.length ds, g, i, ?_, hR, ?_⟩
    · unfold L2.start startD
      rw [r.length]
      exact start_rps _ r
    · have hp : post (okQ Z rV S1 F1 nil H Q) (erF Z mg E S1 F1 H) ((f (startD N.length ds) g).out) := hp
      cases e : f (startD N.length ds) g with
      | nx sd g1 =>
        rw [e] at hp
        exact fun σ' S' F' O' H' st _ hR' => hp .non S' F' H' st.drop hR' .non
      | rt y g1 =>
        rw [e] at hp
        exact fun v S' F' O' H' st hR' rv => hp v S' F' H' st.drop hR' (rV_ret st rv)
      | bk sd g1 => rw [e] at hp; exact hp.elim
      | ct sd g1 => rw [e] at hp; exact hp.elim
      | er y sd g1 =>
        rw [e] at hp
        exact fun cls dx σ' S' F' O' H' st _ hR' ex => hp cls dx S' F' H' st.drop hR' ex
      | bad => rw [e] at hp; exact hp.elim
theorem cal_of (F : FunD K x x params body scope [] [] fa fd) (hm : mg x = some (.ref fa)) (S : FnScope N ps scope)
    (hbi : ∀ (kV doc pm : Value) (an : Option Addr) (cdv ct : Value) (us : List Value), us.length = ps.length → bindArgs (PySem.W.fnOf x x params body scope .none kV doc pm an cdv ct) ⟨us, []⟩ = pure (ps.zip us))
    (hb : ∀ (cdv : Value) (A : Around) (outer : List Env) (s : Shared) (H : Hp) (E : XK), Room k (A.deeper (envOfC x scope s.heap.objs.size fa cdv)) → DSs (cxOf (L2.CX P w) P w K mg base N x scope fa cdv A outer s H E) Z (WD E) body f) :
    Cal P w K mg base x (k + 1) ps.length Z (runD N.length f) := ⟨fa, fd, ps, fnOk_of F S hb, hm, F.kp, F.bindsN hbi⟩
/-- nothing is told: a def's promise may always be given -/
theorem cal_bad (F : FunD K x x params body scope [] [] fa fd) (hm : mg x = some (.ref fa)) (S : FnScope N ps scope)
    (hbi : ∀ (kV doc pm : Value) (an : Option Addr) (cdv ct : Value) (us : List Value), us.length = ps.length → bindArgs (PySem.W.fnOf x x params body scope .none kV doc pm an cdv ct) ⟨us, []⟩ = pure (ps.zip us)) {k : Nat} :
    Cal P w K mg base x (k + 1) ps.length Z (fun _ _ => .bad) := ⟨fa, fd, ps, by
      refine F.ok S (fun vs H Q E h => ?_) fun cdv A outer s H vs Q E hr h => ?_
      · obtain ⟨S1, F1, ds, g, i, r, hl, hR, hp⟩ := h
        exact hp.elim
      · obtain ⟨S1, F1, ds, g, i, r, hl, hR, hp⟩ := h
        exact hp.elim, hm, F.kp, F.bindsN hbi⟩
end
theorem Cal.up {P : Program} {w : World} {K : PySem.W.Frag} {mg : Str → Option Value} {base : Heap} {x : Str} {j k n : Nat} {Z : Eff} {run : List D → Z.G → Out Z.G SV} (C : Cal P w K mg base x j n Z run) (h : j ≤ k) : Cal P w K mg base x k n Z run := by
  obtain ⟨f, fd, ps, F, a, b, c⟩ := C.ex
  exact ⟨f, fd, ps, F.mono h, a, b, c⟩
end DL
namespace DL
open PySem PySem.Spec PyProof.Rows L2
/-! ### the law's row of drawn numbers -/
/-- how many numbers were read, the mixed number, what is left of a long one -/
structure Gs where
  i : Nat
  m : Int
  l : Int
def one (p : Addr) (o : HO) : Hp := upd nil p o
theorem one_nt {p : Addr} {o : HO} (nt : ∀ xs, o ≠ .tup xs) : ∀ a xs, one p o a ≠ some (.tup xs) := fun a xs z => by
  unfold one upd at z
  split at z
  · exact nt xs (Option.some.inj z)
  · cases z
theorem one_same {p : Addr} {o : HO} : one p o p = some o := upd_same
theorem one_nn {p a : Addr} {o : HO} (h : one p o a ≠ none) : a = p := by
  rcases upd_nn h with e | e
  · exact e
  · exact absurd rfl e
def stL (a : Addr) (g : Gs) : HO := .lst [.ref a, .int g.i, .int g.m, .int g.l]
/-- the state list at p, the script ns at a -/
def genZ (K : PySem.W.Frag) (a : Addr) (ns : List Int) (p : Addr) : Eff where
  G := Gs
  R := fun g S F => F = one p (stL a g) ∧ SqL K S a (ns.map V.int)
  mono := fun g S S' F e h => ⟨h.1, Same.seq e h.2⟩
/-- the next number below n -/
def draw (ns : List Int) (n : Int) (g : Gs) : Int × Gs :=
  if 0 < g.l then (g.l % n, ⟨g.i, g.m, g.l / n⟩)
  else match ns[g.i]? with
    | some c => (c % n, ⟨g.i + 1, g.m, if 10 ^ 18 ≤ c then c / n else 0⟩)
    | none => ((g.m * 48271 + 11) % 2147483647 / 7 % n, ⟨g.i + 1, (g.m * 48271 + 11) % 2147483647, g.l⟩)
theorem draw_range {ns : List Int} {n : Int} {g : Gs} (h : 0 < n) : 0 ≤ (draw ns n g).1 ∧ (draw ns n g).1 < n := by
  unfold draw
  split
  · exact ⟨Int.emod_nonneg _ (by omega), Int.emod_lt_of_pos _ h⟩
  · split
    · exact ⟨Int.emod_nonneg _ (by omega), Int.emod_lt_of_pos _ h⟩
    · exact ⟨Int.emod_nonneg _ (by omega), Int.emod_lt_of_pos _ h⟩
open Classical in
noncomputable def drawR (p : Addr) (ns : List Int) : List D → Gs → Out Gs SV
  | [.obj v, .int n], g => if v = .ref p ∧ 0 < n ∧ n < 2 ^ 200 then .ok (.fr (.int (draw ns n g).1)) (draw ns n g).2 else .bad
  | _, _ => .bad
/-- .. of HandS's kind -/
def spDraw (K : PySem.W.Frag) : Sp := fun vs H Q _ => ∃ (p a : Addr) (ns : List Int) (g : Gs) (n : Int), vs = [.ref p, .int n] ∧ H p = some (stL a g) ∧ SqL K H a (ns.map V.int) ∧ 0 < n ∧ n < 2 ^ 200 ∧ Q (.int (draw ns n g).1) (upd H p (stL a (draw ns n g).2))
section
variable {P : Program} {w : World} {K : PySem.W.Frag} {mg : Str → Option Value} {base : Heap} {S F O H S1 F1 O1 H1 : Hp}
theorem Stp.writeF {p : Addr} {o o' : HO} (I : Inn S F O H) (h : F p = some o) (nt : ∀ xs, o' ≠ .tup xs := by intro _ z; cases z) : Stp S F O H S (upd F p o') O (upd H p o') := by
  have hs := I.fs (nn_of h)
  have ho : O p = none := I.fo p (nn_of h)
  refine ⟨⟨same_updO I.s hs, same_upd2 I.f, same_updO I.o ho, fun a z => ?_, I.so, fun a z => ?_, fun a xs z => ?_, I.ot⟩, Same.refl S, fun a u q hf _ => ?_, fun a z => ?_, fun _ z => .inl z, fun a z => ?_, fun _ z => .inl z⟩
  · rw [upd_ne (fun e => by rw [e] at z; exact z hs)]; exact I.sf a z
  · rcases upd_nn z with e | e
    · rw [e]; exact ho
    · exact I.fo a e
  · by_cases e : a = p
    · rw [e, upd_same] at z; exact nt xs (Option.some.inj z)
    · rw [upd_ne e] at z; exact I.ft a xs z
  · rw [upd_ne (fun e => by rw [e, h] at hf; cases hf)]; exact q
  · by_cases e : a = p
    · rw [e, upd_same]; intro q; cases q
    · rw [upd_ne e]; exact z
  · rcases upd_nn z with e | e
    · exact .inl (by rw [e]; exact nn_of h)
    · exact .inl e
theorem upd_one {p : Addr} {o o' : HO} : upd (one p o) p o' = one p o' := by
  funext a
  unfold one upd
  by_cases e : a = p
  · simp [e]
  · simp [e]
theorem draw_sp {a p : Addr} {ns : List Int} {vs : List V} {Q : VK} {E : XK} (h : spD (genZ K a ns p) mg 2 (drawR p ns) vs H Q E) : spDraw K vs H Q E := by
  obtain ⟨S, F, ds, g, I, r, hl, ⟨hF, hS⟩, hp⟩ := h
  obtain ⟨d, d', rfl⟩ := len_two hl
  cases r with
  | cons r1 r2 =>
    cases r2 with
    | cons r2 r3 =>
      cases r3
      cases d with
      | obj v =>
        cases d' with
        | int n =>
          unfold drawR at hp
          dsimp only at hp
          split at hp
          · rename_i hc
            obtain ⟨rfl, h0, h1⟩ := hc
            have e1 := rb_obj (O := nil) (.inl r1)
            have e2 := rb_int (O := nil) (.inl r2)
            subst e1 e2 hF
            refine ⟨p, a, ns, g, n, rfl, I.f _ _ one_same, Same.seq I.s hS, h0, h1, ?_⟩
            have st := Stp.writeF (o' := stL a (draw ns n g).2) I one_same
            rw [upd_one] at st
            exact hp (.int _) S _ _ st ⟨rfl, hS⟩ (.int _)
          · exact hp.elim
        | _ => exact hp.elim
      | _ => exact hp.elim
theorem cal_draw {fa : Addr} {fd : FuncData} {a p : Addr} {ns : List Int} {ps : List Str} {k : Nat} (F : FnOk P w K mg base (L2.CX P w) k fa fd ps (spDraw K)) (hm : mg "_law_drawn" = some (.ref fa)) (hk : PySem.W.keepIn K (.ref fa) = true) (hb : Binds K fd ps []) :
    Cal P w K mg base "_law_drawn" k 2 (genZ K a ns p) (drawR p ns) := ⟨fa, fd, ps, F.imp fun _ _ _ _ h => draw_sp h, hm, hk, hb⟩
end
/-! ### its defs -/
/-- the first mixed number -/
def mixI (ns : List Int) : Int := ns.foldl (fun m c => (m * 48271 + c + 7) % 2147483647) 1
def spStart (K : PySem.W.Frag) : Sp := fun vs H Q _ => ∃ (a : Addr) (ns : List Int), vs = [.ref a] ∧ SqL K H a (ns.map V.int) ∧ ∀ p, H p = none → Q (.ref p) (upd H p (stL a ⟨0, mixI ns, 0⟩))
theorem atI_st (a : Addr) (g : Gs) (k : Nat) (h : k < 4) : ∃ v, L2.atI [V.ref a, .int g.i, .int g.m, .int g.l] (k : Int) = some v ∧ [V.ref a, .int g.i, .int g.m, .int g.l][k]? = some v := by
  match k, h with
  | 0, _ => exact ⟨_, rfl, rfl⟩
  | 1, _ => exact ⟨_, rfl, rfl⟩
  | 2, _ => exact ⟨_, rfl, rfl⟩
  | 3, _ => exact ⟨_, rfl, rfl⟩
end DL
namespace DL
open PySem PySem.Spec PyProof.Rows L2
section
variable (K : PySem.W.Frag)
def sg (k : Int) : TE := tOp (rIx K) (tVar 0) (tC (.int k))
def sgS (k : Int) (te : TE) : TS := tAsg te (gSub (tVar 0) (tC (.int k)) rSetL)
abbrev rGtI : R2 := rI0 fun i j => .bl (decide (j < i))
abbrev rGeI : R2 := rI0 fun i j => .bl (decide (j ≤ i))
abbrev rLeI : R2 := rI0 fun i j => .bl (decide (i ≤ j))
abbrev rAddI : R2 := rI0 fun i j => .int (i + j)
abbrev rMulI : R2 := rI CMul fun i j => .int (i * j)
def tDraw1 : TS := tSeq (tAsg (tOp rModA (sg K 3) (tVar 1)) (gName 2)) (tSeq (sgS 3 (tOp rDivA (sg K 3) (tVar 1))) (tRet (tVar 2)))
def tDraw2 : TS := tSeq (tAsg (tOp (rIx K) (sg K 0) (tOp rSubA (sg K 1) (tC (.int 1)))) (gName 3)) (tSeq (sgS 3 (tIf (tTest (tOp rGeI (tVar 3) (tOp rPowA (tC (.int 10)) (tC (.int 18))))) (tOp rDivA (tVar 3) (tVar 1)) (tC (.int 0)))) (tRet (tOp rModA (tVar 3) (tVar 1))))
def tDraw3 : TS := tSeq (sgS 2 (tOp rModA (tOp rAddI (tOp rMulI (sg K 2) (tC (.int 48271))) (tC (.int 11))) (tC (.int 2147483647)))) (tRet (tOp rModA (tOp rDivA (sg K 2) (tC (.int 7))) (tVar 1)))
def tDraw : TS := tSeq (tIfS (tTest (tOp rGtI (sg K 3) (tC (.int 0)))) (tDraw1 K) tNext) (tSeq (sgS 1 (tOp rAddI (sg K 1) (tC (.int 1)))) (tSeq (tIfS (tTest (tOp rLeI (sg K 1) (tCB (rLen K) (tCons (sg K 0) tNil)))) (tDraw2 K) tNext) (tDraw3 K)))
end
section
variable {K : PySem.W.Frag} {σ : L2.St} {H : Hp} {p a : Addr} {i m l : Int} {Q : VK}
def stV (a : Addr) (i m l : Int) : HO := .lst [.ref a, .int i, .int m, .int l]
theorem sg0 (h0 : σ[0]? = some (some (.ref p))) (h : H p = some (stV a i m l)) (q : Q (.ref a) H) : sg K 0 σ H Q := ⟨_, h0, .inl ⟨p, _, 0, _, rfl, rfl, SqL.of h, rfl, q⟩⟩
theorem sg1 (h0 : σ[0]? = some (some (.ref p))) (h : H p = some (stV a i m l)) (q : Q (.int i) H) : sg K 1 σ H Q := ⟨_, h0, .inl ⟨p, _, 1, _, rfl, rfl, SqL.of h, rfl, q⟩⟩
theorem sg2 (h0 : σ[0]? = some (some (.ref p))) (h : H p = some (stV a i m l)) (q : Q (.int m) H) : sg K 2 σ H Q := ⟨_, h0, .inl ⟨p, _, 2, _, rfl, rfl, SqL.of h, rfl, q⟩⟩
theorem sg3 (h0 : σ[0]? = some (some (.ref p))) (h : H p = some (stV a i m l)) (q : Q (.int l) H) : sg K 3 σ H Q := ⟨_, h0, .inl ⟨p, _, 3, _, rfl, rfl, SqL.of h, rfl, q⟩⟩
theorem ss1 {te : TE} {D : Ends} {x : Int} (h0 : σ[0]? = some (some (.ref p))) (h : H p = some (stV a i m l)) (he : ∀ Q : VK, Q (.int x) H → te σ H Q) (q : D.nx σ (upd H p (stV a x m l))) : sgS 1 te D σ H := he _ ⟨_, h0, p, _, 1, 1, rfl, rfl, h, rfl, q⟩
theorem ss2 {te : TE} {D : Ends} {x : Int} (h0 : σ[0]? = some (some (.ref p))) (h : H p = some (stV a i m l)) (he : ∀ Q : VK, Q (.int x) H → te σ H Q) (q : D.nx σ (upd H p (stV a i x l))) : sgS 2 te D σ H := he _ ⟨_, h0, p, _, 2, 2, rfl, rfl, h, rfl, q⟩
theorem ss3 {te : TE} {D : Ends} {x : Int} (h0 : σ[0]? = some (some (.ref p))) (h : H p = some (stV a i m l)) (he : ∀ Q : VK, Q (.int x) H → te σ H Q) (q : D.nx σ (upd H p (stV a i m x))) : sgS 3 te D σ H := he _ ⟨_, h0, p, _, 3, 3, rfl, rfl, h, rfl, q⟩
theorem nd {c : Prop} [Decidable c] (h : ¬ c) : ¬ decide c = true := by rw [decide_eq_false h]; exact Bool.false_ne_true
theorem ite1 {c A B : Prop} [Decidable c] (hc : c) (h : A) : if decide c = true then A else B := by rw [if_pos (decide_eq_true hc)]; exact h
theorem ite0 {c A B : Prop} [Decidable c] (hc : ¬ c) (h : B) : if decide c = true then A else B := by rw [if_neg (nd hc)]; exact h
theorem top_ {r : R2} {ta tb : TE} (h : ta σ H fun x H1 => tb σ H1 fun y H2 => r x y H2 Q) : tOp r ta tb σ H Q := h
theorem div_ok {n : Int} (h0 : 0 < n) (h1 : n < 2 ^ 200) : CDivW i n := wide_div (b := 200) h0 (by omega) (by decide) (by decide)
theorem div7 : CDivW i 7 := wide_div (b := 200) (by decide) (by decide) (by decide) (by decide)
theorem updupd {p : Addr} {o o' : HO} : upd (upd H p o) p o' = upd H p o' := by
  funext b
  unfold upd
  by_cases e : b = p
  · simp [e]
  · simp [e]
theorem draw_run {vs : List V} {D : Ends} {E : XK} (h : spDraw K vs H D.rt E) : tDraw K D (L2.start ["_law_state", "_law_many", "_law_found", "_law_cell"] vs) H := by
  obtain ⟨p, a, ns, g, n, rfl, hp, hS, h0, h1, q⟩ := h
  obtain ⟨gi, gm, gl⟩ := g
  have hp : H p = some (stV a gi gm gl) := hp
  have s0 : (L2.start ["_law_state", "_law_many", "_law_found", "_law_cell"] [V.ref p, .int n])[0]? = some (some (.ref p)) := rfl
  have s1 : (L2.start ["_law_state", "_law_many", "_law_found", "_law_cell"] [V.ref p, .int n])[1]? = some (some (.int n)) := rfl
  generalize hσ : L2.start ["_law_state", "_law_many", "_law_found", "_law_cell"] [V.ref p, .int n] = σ at s0 s1
  have hl : 4 = σ.length := by rw [← hσ]; rfl
  refine sg3 s0 hp ⟨_, _, rfl, rfl, _, rfl, ?_⟩
  by_cases c1 : 0 < gl
  · refine ite1 c1 ?_
    have e : draw ns n ⟨gi, gm, gl⟩ = (gl % n, ⟨gi, gm, gl / n⟩) := by unfold draw; exact if_pos c1
    rw [e] at q
    have s0' : (σ.set 2 (some (.int (gl % n))))[0]? = some (some (.ref p)) := by rw [List.getElem?_set_ne (by decide)]; exact s0
    have s1' : (σ.set 2 (some (.int (gl % n))))[1]? = some (some (.int n)) := by rw [List.getElem?_set_ne (by decide)]; exact s1
    refine sg3 s0 hp ⟨_, s1, _, _, rfl, rfl, h0, ?_⟩
    refine ss3 s0' hp (fun Q' q' => top_ (sg3 s0' hp ⟨_, s1', _, _, rfl, rfl, div_ok h0 h1, q'⟩)) ?_
    exact ⟨_, List.getElem?_set_self (by omega), q⟩
  · refine ite0 c1 ?_
    refine ss1 s0 hp (fun Q' q' => top_ (sg1 s0 hp ⟨_, _, rfl, rfl, q'⟩)) ?_
    have hp1 : upd H p (stV a (gi + 1) gm gl) p = some (stV a (gi + 1) gm gl) := upd_same
    have hS1 : SqL K (upd H p (stV a (gi + 1) gm gl)) a (ns.map V.int) := by
      rcases hS with (h | ⟨o, h⟩) | h
      · have ha : a ≠ p := fun z => by
          subst z
          rw [hp] at h
          cases ns <;> cases h
        exact .inl (.inl (by rw [upd_ne ha]; exact h))
      · have ha : a ≠ p := fun z => by
          subst z
          rw [hp] at h
          cases h
        exact .inl (.inr ⟨o, by rw [upd_ne ha]; exact h⟩)
      · exact .inr h
    refine sg1 s0 hp1 (sg0 s0 hp1 ⟨V.ref a, ns.length, rfl, .inl ⟨_, hS1, by rw [List.length_map]⟩, ⟨_, _, rfl, rfl, _, rfl, ?_⟩⟩)
    by_cases c2 : gi < ns.length
    · have c4 : (gi : Int) + 1 ≤ (ns.length : Int) := by omega
      refine ite1 c4 ?_
      have ec : ns[gi]? = some ns[gi] := List.getElem?_eq_getElem c2
      have e : draw ns n ⟨gi, gm, gl⟩ = (ns[gi] % n, ⟨gi + 1, gm, if 10 ^ 18 ≤ ns[gi] then ns[gi] / n else 0⟩) := by
        unfold draw
        rw [if_neg c1]
        dsimp only
        rw [ec]
      rw [e] at q
      generalize ns[gi] = c at ec q
      refine sg0 s0 hp1 (sg1 s0 hp1 ⟨_, _, rfl, rfl, .inl ⟨a, _, _, V.int c, rfl, rfl, hS1, ?_, ?_⟩⟩)
      · have e2 : (gi : Int) + 1 - 1 = (gi : Int) := by omega
        rw [e2]
        unfold L2.atI
        have e3 : ixN (ns.map V.int).length (gi : Int) = some gi := by
          unfold ixN
          rw [List.length_map, if_pos (by omega), if_pos (by omega)]
          rfl
        rw [e3]
        show (ns.map V.int)[gi]? = _
        rw [List.getElem?_map, ec]; rfl
      · have s0' : (σ.set 3 (some (.int c)))[0]? = some (some (.ref p)) := by rw [List.getElem?_set_ne (by decide)]; exact s0
        have s1' : (σ.set 3 (some (.int c)))[1]? = some (some (.int n)) := by rw [List.getElem?_set_ne (by decide)]; exact s1
        have s3' : (σ.set 3 (some (.int c)))[3]? = some (some (.int c)) := List.getElem?_set_self (by omega)
        dsimp only [gName, tSeq]
        refine ss3 (x := if 10 ^ 18 ≤ c then c / n else 0) s0' hp1 (fun Q' q' => ?_) ?_
        · refine ⟨_, s3', _, _, rfl, rfl, ⟨by decide, by decide, by decide⟩, ⟨_, _, rfl, rfl, _, rfl, ?_⟩⟩
          have e18 : (10 : Int) ^ (18 : Int).toNat = 10 ^ 18 := rfl
          rw [e18]
          by_cases c3 : (10 : Int) ^ 18 ≤ c
          · refine ite1 c3 ?_
            rw [if_pos c3] at q'
            exact ⟨_, s3', _, s1', _, _, rfl, rfl, div_ok h0 h1, q'⟩
          · refine ite0 c3 ?_
            rw [if_neg c3] at q'
            exact q'
        · refine ⟨_, s3', _, s1', _, _, rfl, rfl, h0, ?_⟩
          rw [updupd]
          exact q
    · have c4 : ¬ ((gi : Int) + 1 ≤ (ns.length : Int)) := by omega
      refine ite0 c4 ?_
      have ec : ns[gi]? = none := List.getElem?_eq_none (by omega)
      have e : draw ns n ⟨gi, gm, gl⟩ = ((gm * 48271 + 11) % 2147483647 / 7 % n, ⟨gi + 1, (gm * 48271 + 11) % 2147483647, gl⟩) := by
        unfold draw
        rw [if_neg c1]
        dsimp only
        rw [ec]
      rw [e] at q
      refine ss2 (x := (gm * 48271 + 11) % 2147483647) s0 hp1 (fun Q' q' => top_ (top_ (top_ (sg2 s0 hp1 ⟨_, _, rfl, rfl, .inr (by decide), ⟨_, _, rfl, rfl, ⟨_, _, rfl, rfl, (show (0 : Int) < 2147483647 by decide), q'⟩⟩⟩)))) ?_
      rw [updupd]
      refine sg2 s0 upd_same ⟨_, _, rfl, rfl, div7, ⟨_, s1, _, _, rfl, rfl, h0, ?_⟩⟩
      exact q
/-! the start -/
def tStart (K : PySem.W.Frag) : TS := tSeq (tAsg (tC (.int 1)) (gName 1)) (tSeq (tFor (iList K (tVar 0)) (gName 2) (tAsg (tOp rModA (tOp rAddI (tOp rAddI (tOp rMulI (tVar 1) (tC (.int 48271))) (tVar 2)) (tC (.int 7))) (tC (.int 2147483647))) (gName 1))) (tRet (tLst (tCons (tVar 0) (tCons (tC (.int 0)) (tCons (tVar 1) (tCons (tC (.int 0)) tNil)))))))
theorem mixI_snoc (ns : List Int) (c : Int) : mixI (ns ++ [c]) = (mixI ns * 48271 + c + 7) % 2147483647 := by
  unfold mixI
  rw [List.foldl_append]; rfl
theorem start_run {vs : List V} {D : Ends} {E : XK} (h : spStart K vs H D.rt E) : tStart K D (L2.start ["_law_script", "_law_mixed", "_law_cell"] vs) H := by
  obtain ⟨a, ns, rfl, hS, q⟩ := h
  generalize hσ : L2.start ["_law_script", "_law_mixed", "_law_cell"] [V.ref a] = σ
  have s0 : σ[0]? = some (some (.ref a)) := by rw [← hσ]; rfl
  have hl : σ.length = 3 := by rw [← hσ]; rfl
  have s0' : (σ.set 1 (some (.int 1)))[0]? = some (some (.ref a)) := by rw [List.getElem?_set_ne (by decide)]; exact s0
  refine ⟨_, s0', a, rfl, ⟨_, hS⟩, ?_⟩
  refine for_list (xs := ns.map V.int) (fun i σ' H' => H' = H ∧ σ'[0]? = some (some (.ref a)) ∧ σ'.length = 3 ∧ σ'[1]? = some (some (.int (mixI (ns.take i))))) ⟨rfl, s0', by rw [List.length_set]; exact hl, List.getElem?_set_self (by omega)⟩
    (fun i σ' H' hi h => by rw [h.1]; exact hS) (fun i x σ' H' hx ⟨e, z0, zl, z1⟩ => ?_) (fun σ' H' ⟨e, z0, zl, z1⟩ => ?_)
  · subst e
    rw [List.getElem?_map] at hx
    cases ec : ns[i]? with
    | none => rw [ec] at hx; cases hx
    | some c =>
      rw [ec] at hx
      cases hx
      have y1 : (σ'.set 2 (some (.int c)))[1]? = some (some (.int (mixI (ns.take i)))) := by rw [List.getElem?_set_ne (by decide)]; exact z1
      have y2 : (σ'.set 2 (some (.int c)))[2]? = some (some (.int c)) := List.getElem?_set_self (by omega)
      have y0 : (σ'.set 2 (some (.int c)))[0]? = some (some (.ref a)) := by rw [List.getElem?_set_ne (by decide)]; exact z0
      refine ⟨_, y1, _, _, rfl, rfl, .inr (by decide), _, y2, _, _, rfl, rfl, _, _, rfl, rfl, _, _, rfl, rfl, (show (0 : Int) < 2147483647 by decide), rfl, ?_, ?_, ?_⟩
      · rw [List.getElem?_set_ne (by decide)]; exact y0
      · rw [List.length_set, List.length_set]; exact zl
      · have e : ns.take (i + 1) = ns.take i ++ [c] := by
          rw [List.take_succ, ec]; rfl
        rw [e, mixI_snoc]
        exact List.getElem?_set_self (by rw [List.length_set]; omega)
  · subst e
    rw [List.length_map, List.take_length] at z1
    refine ⟨_, z0, _, z1, by show 4 ≤ sizeLine; rw [sizeLine_eq]; decide, fun p hp => ?_⟩
    exact q p hp
end
end DL
namespace DL
open PySem PySem.Spec PyProof.Rows L2
section
variable {X : Cx} {Z : Eff} {W : WX} {e a b c : Expr} {es rest : List Expr} {pos p : Pos} {f fa fb fc : DSt → Z.G → Out Z.G SV}
/-! ### built-in types as values; isinstance -/
theorem de_ty {x : Str} {T : String} (hm : X.mg x = none) (hv : bootBuiltins x = some (.type T) := by decide +kernel) (hg : Gl X x := by rfl) (hn : x ≠ "__name__" := by decide) (hd : (x == ("__debug__" : Str)) = false := by decide) : DE X Z W (.Name x pos) (fC (.obj (.ty T))) :=
  de_of (pe_bltn (v := .ty T) hg hm hv rfl hn hd) (eg_c fun _ => .obj _)
def D.typ : D → Option String
  | .non => some "NoneType"
  | .bl _ => some "bool"
  | .int _ => some "int"
  | .str _ => some "str"
  | .tup _ => some "tuple"
  | .lst _ => some "list"
  | .dk _ => some "dict"
  | .dt _ => some "dict"
  | .obj _ => none
  | .clo _ _ => none
  | .exn _ _ _ _ => none
  | .ft _ => none
/-- is it of the class -/
def isT : D → String → Option Bool
  | .obj _, _ => none
  | .clo _ _, _ => none
  | .exn _ _ _ _, _ => none
  | .ft _, _ => none
  | .bl _, "int" => some true
  | .bl _, "bool" => some true
  | .bl _, "str" => some false
  | .bl _, "tuple" => some false
  | .bl _, "list" => some false
  | .bl _, "dict" => some false
  | .int _, "int" => some true
  | .int _, "bool" => some false
  | .int _, "str" => some false
  | .int _, "tuple" => some false
  | .int _, "list" => some false
  | .int _, "dict" => some false
  | .str _, "int" => some false
  | .str _, "bool" => some false
  | .str _, "str" => some true
  | .str _, "tuple" => some false
  | .str _, "list" => some false
  | .str _, "dict" => some false
  | .tup _, "int" => some false
  | .tup _, "bool" => some false
  | .tup _, "str" => some false
  | .tup _, "tuple" => some true
  | .tup _, "list" => some false
  | .tup _, "dict" => some false
  | .lst _, "int" => some false
  | .lst _, "bool" => some false
  | .lst _, "str" => some false
  | .lst _, "tuple" => some false
  | .lst _, "list" => some true
  | .lst _, "dict" => some false
  | .non, "int" => some false
  | .non, "bool" => some false
  | .non, "str" => some false
  | .non, "tuple" => some false
  | .non, "list" => some false
  | .non, "dict" => some false
  | .dk _, "int" => some false
  | .dk _, "bool" => some false
  | .dk _, "str" => some false
  | .dk _, "tuple" => some false
  | .dk _, "list" => some false
  | .dk _, "dict" => some true
  | .dt _, "int" => some false
  | .dt _, "bool" => some false
  | .dt _, "str" => some false
  | .dt _, "tuple" => some false
  | .dt _, "list" => some false
  | .dt _, "dict" => some true
  | _, _ => none
theorem isT_kit {d : D} {s t : String} {b : Bool} (h : isT d s = some b) (ht : d.typ = some t) : kitB t s = some b := by
  have fin0 : ∀ p ∈ (["NoneType", "bool", "int", "str", "tuple", "list", "dict"].flatMap fun t => ["int", "bool", "str", "tuple", "list", "dict"].map fun s => (t, s, decide (t = s) || (decide (t = "bool") && decide (s = "int")))), kitB p.1 p.2.1 = some p.2.2 := by decide +kernel
  apply fin0 (t, s, b)
  unfold isT at h
  split at h <;> first
    | (cases h; done)
    | (cases h; cases ht; decide)
theorem typ_of {K : PySem.W.Frag} {S F O H : Hp} {v : V} {d : D} {t : String} (I : Inn S F O H) (r : RpB S O v d) (h : d.typ = some t) : TyX K H v (.type t) := by
  cases d with
  | non => cases h; rw [rb_non r]; exact .base .non
  | bl b => cases h; rw [rb_bl r]; exact .base (.bl b)
  | int i => cases h; rw [rb_int r]; exact .base (.int i)
  | str x => cases h; rw [rb_str r]; exact .base (.str _)
  | tup ds => cases h; obtain ⟨p, vs, rfl, hp, _⟩ := rb_tup I r; exact .base (.tup hp)
  | lst ds => cases h; obtain ⟨p, vs, rfl, hp, _⟩ := rb_lst I r; exact .base (.lst hp)
  | dk ds => cases h; obtain ⟨p, vs, rfl, hp, _⟩ := rb_dk I r; exact .base (.dK hp)
  | dt ds => cases h; obtain ⟨p, vs, rfl, hp, _⟩ := rb_dt I r; exact .base (.dT hp)
  | obj v => cases h
  | clo n M => cases h
  | exn => cases h
  | ft => cases h
theorem isT_typ {d : D} {s : String} {b : Bool} (h : isT d s = some b) : ∃ t, d.typ = some t := by
  cases d with
  | obj v => cases h
  | clo n M => cases h
  | exn => cases h
  | ft => cases h
  | _ => exact ⟨_, rfl⟩
/-- is it of one of the classes -/
def isTs (d : D) : List D → Option Bool
  | [] => some false
  | .obj (.ty s) :: r => (isT d s).bind fun b => (isTs d r).map fun b' => b || b'
  | _ => none
def cIsi : List D → Option SV
  | [d, .obj (.ty s)] => (isT d s).map fun b => .fr (.bl b)
  | [d, .tup cs] => if (d.typ).isSome = true then (isTs d cs).map fun b => .fr (.bl b) else none
  | _ => none
theorem isTs_kit {K : PySem.W.Frag} {d : D} {t : String} (ht : d.typ = some t) : ∀ {cs : List D} {b : Bool} {S : Hp} {vs : List V}, isTs d cs = some b → RpL S vs cs → ∃ us, Paired ClsV vs us ∧ PySem.W.kitAny K (.type t) us = some b
  | [], b, S, _, h, .nil => by cases h; exact ⟨[], .nil, kitAny_nil⟩
  | c :: cs, b, S, _, h, .cons (v := v) r rr => by
    unfold isTs at h
    split at h
    · rename_i e; cases e
    · rename_i s r0 e
      cases e
      cases e2 : isT d s with
      | none => rw [e2] at h; cases h
      | some b1 =>
        rw [e2] at h
        cases e3 : isTs d cs with
        | none => rw [e3] at h; cases h
        | some b2 =>
          rw [e3] at h
          cases h
          have ev := rb_obj (O := nil) (.inl r)
          subst ev
          have kit := kit_ty (K := K) (isT_kit e2 ht)
          obtain ⟨us, p, q⟩ := isTs_kit (K := K) ht e3 rr
          refine ⟨_ :: us, .cons (.ty s) p, kitAny_cons kit (fun z => ?_) fun z => ?_⟩
          · rw [z]; exact q
          · rw [z]; rfl
    · cases h
def rIsiA (K : PySem.W.Frag) : List V → Hp → VK → Prop := fun xs H Q => rIsi K xs H Q ∨ rIsiT K xs H Q
theorem call_isiA : CallR X (.builtin "isinstance") (rIsiA X.K) := CallR.or call_isi call_isiT
theorem cs_isi {K : PySem.W.Frag} : ClS (rIsiA K) cIsi := fun S F O H vs ds z Q I r e k => by
  unfold cIsi at e
  split at e
  · rename_i d s
    cases e1 : isT d s with
    | none => rw [e1] at e; cases e
    | some b =>
      rw [e1] at e; cases e
      obtain ⟨v, w, rfl, r1, r2⟩ := rbl_two r
      obtain ⟨t, ht⟩ := isT_typ e1
      rw [rb_obj r2]
      exact .inl ⟨_, _, _, _, b, rfl, .ty s, typ_of I r1 ht, kit_ty (isT_kit e1 ht), k _ S H (Stp.refl I) (.bl b)⟩
  · rename_i d cs
    split at e
    · rename_i ht
      obtain ⟨t, ht⟩ := Option.isSome_iff_exists.mp ht
      cases e1 : isTs d cs with
      | none => rw [e1] at e; cases e
      | some b =>
        rw [e1] at e; cases e
        obtain ⟨v, w, rfl, r1, r2⟩ := rbl_two r
        obtain ⟨p, us, rfl, hp, rp⟩ := rb_tup I r2
        obtain ⟨us', p1, p2⟩ := isTs_kit (K := K) ht e1 rp
        exact .inr ⟨_, p, us, _, us', b, rfl, hp, p1, typ_of I r1 ht, p2, k _ S H (Stp.refl I) (.bl b)⟩
    · cases e
  · cases e

/-! ### sorted, list, reversed by a slice -/
def cSorted : List D → Option SV
  | [.lst x] => (allInt x).map fun ns => .ow (.lst ((ns.mergeSort fun a b => decide (a ≤ b)).map .int))
  | _ => none
theorem sort_eq {ns ns' : List Int} (hp : ns'.Perm ns) (hs : ns'.Pairwise (· ≤ ·)) : ns' = ns.mergeSort fun a b => decide (a ≤ b) := by
  have h1 : (ns.mergeSort fun a b => decide (a ≤ b)).Pairwise (· ≤ ·) := by
    have := List.pairwise_mergeSort (le := fun (a b : Int) => decide (a ≤ b)) (fun a b c h1 h2 => by simp only [decide_eq_true_eq] at *; omega) (fun a b => by simp only [Bool.or_eq_true, decide_eq_true_eq]; omega) ns
    exact this.imp fun h => of_decide_eq_true h
  exact (hp.trans (List.mergeSort_perm ns _).symm).eq_of_pairwise (fun a b _ _ h1 h2 => by omega) hs h1
theorem rpl_ints {S : Hp} : ∀ ns : List Int, RpL S (ns.map V.int) (ns.map D.int)
  | [] => .nil
  | n :: ns => .cons (.int n) (rpl_ints ns)
theorem cs_sorted {K : PySem.W.Frag} : ClS (rSortedI K) cSorted := fun S F O H vs ds z Q I r e k => by
  unfold cSorted at e
  split at e
  · rename_i x
    obtain ⟨v, rfl, r1⟩ := rbl_one r
    obtain ⟨p, vs, rfl, hp, rp⟩ := rb_lst I r1
    cases q : allInt x with
    | none => rw [q] at e; cases e
    | some ns =>
      rw [q] at e; cases e
      obtain ⟨e1, e2⟩ := allInt_of rp q
      subst e1
      refine ⟨p, ns, rfl, SqL.of hp, fun ns' p' h1 h2 h3 => ?_⟩
      rw [sort_eq h1 h2]
      exact new_lst I (rpl_ints _) k p' h3
  · cases e
def cList : List D → Option SV
  | [.lst x] => some (.ow (.lst x))
  | [.tup x] => some (.ow (.lst x))
  | _ => none
theorem cs_list {K : PySem.W.Frag} : ClS (fun xs H Q => ∃ p ys, xs = [.ref p] ∧ (SqL K H p ys ∨ SqT K H p ys) ∧ ∀ l, H l = none → Q (.ref l) (upd H l (.lst ys))) cList := fun S F O H vs ds z Q I r e k => by
  unfold cList at e
  split at e
  · cases e
    obtain ⟨v, rfl, r1⟩ := rbl_one r
    obtain ⟨p, vs, rfl, hp, rp⟩ := rb_lst I r1
    exact ⟨p, vs, rfl, .inl (SqL.of hp), new_lst I rp k⟩
  · cases e
    obtain ⟨v, rfl, r1⟩ := rbl_one r
    obtain ⟨p, vs, rfl, hp, rp⟩ := rb_tup I r1
    exact ⟨p, vs, rfl, .inr (SqT.of hp), new_lst I rp k⟩
  · cases e
def uRev : D → Option SV
  | .lst x => some (.ow (.lst x.reverse))
  | _ => none
theorem de_revL {k : Nat} {p1 p2 p3 : Pos} (he : DE X Z W a fa) : DE X Z W (.Subscript a (.Slice none none (some (.UnaryOp .USub (.Constant (.int 1) k p1) p2)) p3) pos) (fUn uRev (toB fa)) :=
  de_of (pe_revL he) (eg_un (r := fun x H1 Q => ∃ a xs, x = .ref a ∧ SqL X.K H1 a xs ∧ ∀ p, H1 p = none → Q (.ref p) (upd H1 p (.lst xs.reverse))) (fun S F O H x dx z Q I rx e k => by
    unfold uRev at e
    split at e
    · cases e
      obtain ⟨p, vs, rfl, hp, rp⟩ := rb_lst I rx
      exact ⟨p, vs, rfl, SqL.of hp, new_lst I rp.rev k⟩
    · cases e) (eg_b eg_t))
/-! ### {k: v}, the key a tuple -/
def tDispT (tk tv : TE) : TE := fun σ H Q => ∀ p, H p = none → tk σ (upd H p (.dT [])) fun x H1 => tv σ H1 fun y H2 => H2 p = some (.dT []) ∧ ∃ b ks, x = .ref b ∧ H2 b = some (.tup (ks.map kV)) ∧ Q (.ref p) (upd H2 p (.dT [(ks, y)]))
theorem pe_dispT {k v : Expr} {tk tv : TE} (hu : X.A.units + 1 < cLine) (hk : PE X k tk) (hv : PE X v tv) : PE X (.Dict [some k] [v] pos) (tDispT tk tv) := by
  refine ⟨fun pins s σ H Q I q => ?_⟩
  have hn := I.hok.fresh (Nat.le_refl s.heap.objs.size)
  have I1 := I.laid (a := s.heap.objs.size) (o := .dT []) (h' := s.heap.push { cls := .type "dict", data := .dict #[] }) (t' := s.toks) (fun _ _ q => Heap.get?_push_of_some _ q) (Nat.le_refl _) (dt_empty s.heap I.big)
  rw [arm_eval_Dict, zip_pairTrees [some k] [v] X.env pos rfl rfl, dictDisplay_pairs (pairTrees [some k] [v] X.env pos) (by rw [← List.length_pos_iff, pairTrees_length _ _ _ _ rfl rfl]; exact Nat.zero_lt_one) (by rw [pairTrees_length _ _ _ _ rfl rfl]; exact (show 1 < 17 by decide))]
  refine wpAny_bind (wpAny_standAt (wpAny_bind (wpAny_subDictH (knd := tupleKind (mixKind X.prog X.w)) (Q := fun d s' => wpAny (model X.prog X.w) X.A (pure (Value.ref d)) (EP X pins σ Q) X.xe s') ?_ (by rw [pairTrees_length _ _ _ _ rfl rfl]; exact (show 1 ≤ 15 by decide)) ?_)))
  · exact (show X.A.units < cLine by omega)
  · refine pairTrees_cons_walk (thn (hk.run pins _ σ _ _ I1 (q _ hn)) fun u s1 ⟨x, H1, I1, rx, q1⟩ => thn (hv.run pins s1 σ H1 _ I1 q1) fun w2 s2 ⟨y, H2, I2, ry, e, b, ks, ex, hb, q2⟩ => pairTrees_nil_walk ?_)
    subst ex
    obtain rfl : u = Value.ref b := rx
    obtain ⟨z, hd, xs0, r0, dd⟩ := L2.dt_of I2.hok e
    cases r0
    refine ⟨[(ks, b, w2)], ⟨rfl, rfl, key_of I2.hok hb, True.intro⟩, dd, fun h' tk dd' hs => wpAny_pure ⟨.ref s.heap.objs.size, _, ?_, rfl, q2⟩⟩
    obtain ⟨q, es, ep, hq, h2, h3, h4, _, h5⟩ := dd'
    refine d_write I2 (by rw [e]; exact True.intro) hs ⟨q, hq⟩ ⟨(show 1 ≤ sizeLine by rw [sizeLine_eq]; decide), hd, _, .cons ⟨rfl, ?_, ry⟩ .nil, q, es, ep, hq, h2, h3, h4, h5⟩
    rw [upd_ne (ne_of hb e (fun z => nomatch z))]
    exact hb
def fDispT {G : Type} (fk fv : DSt → G → Out G SV) : DSt → G → Out G SV := fun sd g => (toD fk sd g).bind fun k g1 => (toD fv sd g1).bind fun v g2 => match k with
  | .tup ds => Out.lift ((asKeys ds).map fun ks => .ow (.dt [(ks, v)])) g2
  | _ => .bad
theorem de_dispT {j : Nat} {k v : Expr} {fk fv : DSt → Z.G → Out Z.G SV} (hk : DE X Z W k fk) (hv : DE X Z W v fv) (hr : Room (j + 1) X.A) : DE X Z W (.Dict [some k] [v] pos) (fDispT fk fv) :=
  de_of (pe_dispT (by have := units1 hr; omega) hk hv) fun S F O H σ sd g Q I rs hR hp => by
    intro p hn
    have st0 := Stp.temp (o := .dT []) I hn
    have kk : EG Z X.mg rD W (tE Z X.mg rV W fk) (toD fk) := eg_d eg_t
    have kv : EG Z X.mg rD W (tE Z X.mg rV W fv) (toD fv) := eg_d eg_t
    refine kk S F O _ σ sd g _ st0.inn rs hR (post_mono (post_bind.mp hp) (fun d1 g1 q1 x S1 F1 H1 st1 hR1 r1 => ?_) fun _ _ q => erQ_from I st0 q)
    refine kv S1 F1 O H1 σ sd g1 _ st1.inn (rs.mono st1.ss) hR1 (post_mono (post_bind.mp q1) (fun d2 g2 q2 y S2 F2 H2 st2 hR2 r2 => ?_) fun _ _ q => erQ_from I (st0.trans I st1) q)
    have st12 := st1.trans st0.inn st2
    have n1 : (upd H p (.dT [])) p = some (.dT []) := upd_same
    have hd2 : H2 p = some (.dT []) := st12.keep p _ n1 (I.noF hn) (I.noO hn)
    have hs2 : S2 p = none := st12.none_s n1 (I.noS hn) (I.noF hn) (I.noO hn)
    have hf2 : F2 p = none := st12.none_f n1 (I.noF hn)
    split at q2
    · rename_i ds
      obtain ⟨z, ez, q2⟩ := post_lift.mp q2
      cases e : asKeys ds with
      | none => rw [e] at ez; cases ez
      | some ks =>
        rw [e] at ez
        cases ez
        obtain ⟨b, vs, rfl, hb, rb⟩ := rp_tup st2.inn (Rp.mono st2.ss r1)
        rw [keys_val rb e] at hb
        refine ⟨hd2, b, ks, rfl, hb, ?_⟩
        have st := st0.trans I st12
        refine q2 _ S2 F2 _ (st.tempW hn hs2 hf2 (I.noO hn)) hR2 ⟨p, _, rfl, upd_same, ⟨.dt (.cons r2 .nil), fun xs z => nomatch z⟩, hs2, hf2, I.noO hn, hn⟩
    · exact q2.elim
/-! ### text[::-1] -/
theorem rev_mk (x : Str) (u : Tok) : Txt.sliceBy x none none (-1, u) = mk x.cps.toList.reverse := by
  apply TL.ext_tl
  rw [TL.tl, step_rev_list]
  show _ = x.cps.toList.reverse
  apply List.ext_getElem?
  intro i
  rw [List.getElem?_map]
  by_cases hi : i < x.length
  · rw [List.getElem?_range hi, List.getElem?_reverse (by simpa [Str.length] using hi)]
    have h2 : x.cps.size - 1 - i < x.cps.size := by have : i < x.cps.size := hi; omega
    have e : x.cps.toList[x.cps.toList.length - 1 - i]? = some (x.cps.getD (x.cps.size - 1 - i) 0) := by
      rw [Array.length_toList, Array.getElem?_toList, Array.getElem?_eq_getElem h2]
      simp [Array.getD, h2]
    rw [e]; rfl
  · rw [List.getElem?_eq_none (by rw [List.length_range]; omega), List.getElem?_eq_none (by rw [List.length_reverse, Array.length_toList]; exact Nat.le_of_not_lt hi)]
    rfl
def tRevS (te : TE) : TE := fun σ H Q => te σ H fun x H1 => ∃ y : Str, x = .str y ∧ y.length ≤ sizeLine ∧ Q (.str (mk y.cps.toList.reverse)) H1
theorem pe_revS {e : Expr} {te : TE} {k : Nat} {p1 p2 p3 pos : Pos} (he : PE X e te) : PE X (.Subscript e (.Slice none none (some (.UnaryOp .USub (.Constant (.int 1) k p1) p2)) p3) pos) (tRevS te) := by
  refine ⟨fun pins s σ H Q I h => ?_⟩
  refine Subscript_ (thn (he.run pins s σ H _ I h) fun v s1 ⟨x, H1, I1, r1, q1⟩ => ?_)
  obtain ⟨y, ex, hx, q⟩ := q1
  subst ex
  obtain ⟨t, rfl⟩ := r1
  have hst : PO X (some (.UnaryOp .USub (.Constant (.int 1) k p1) p2)) (tPart (tUn (rU fun i => .int (-i)) (tC (.int 1)))) := po_some (pe_un un_neg pe_int)
  refine wpAny_Slice (thn (po_none.run pins s1 σ H1 (fun o H2 => o = none ∧ H2 = H1) I1 ⟨rfl, rfl⟩) fun vl s2 ⟨l, H2, I2, pl, el, e2⟩ => ?_)
  subst el e2
  refine thn (po_none.run pins s2 σ H2 (fun o H3 => o = none ∧ H3 = H2) I2 ⟨rfl, rfl⟩) fun vu s3 ⟨u, H3, I3, pu, eu, e3⟩ => ?_
  subst eu e3
  refine thn (hst.run pins s3 σ H3 (fun o H4 => o = some (-1) ∧ H4 = H3) I3 ⟨1, rfl, -1, rfl, rfl, rfl⟩) fun vs s4 ⟨o, H4, I4, ps, eo, e4⟩ => ?_
  subst eo e4
  cases pl
  cases pu
  obtain ⟨us, rfl⟩ : ∃ us, vs = Value.int (-1) us := by cases ps; exact ⟨_, rfl⟩
  have I5 : L2.Inv X pins σ H4 { s4 with heap := s4.heap.push { cls := .type "slice", data := .fields #[.none, .none, .int (-1) us] } } := I4.kept (t' := s4.toks) fun b ob q => Heap.get?_push_of_some _ q
  show wpAny (model X.prog X.w) X.A (subscriptTail e (.Slice none none (some (.UnaryOp .USub (.Constant (.int 1) k p1) p2)) p3) (.str y t) (.ref s4.heap.objs.size)) (EP X pins σ Q) X.xe { s4 with heap := s4.heap.push { cls := .type "slice", data := .fields #[.none, .none, .int (-1) us] } }
  refine tail_any (ops := [.str y t, .ref s4.heap.objs.size]) (typeIs_str _ _ _) (PySem.F.slot_str_getitem.lookup) ?_ (by with_unfolding_all rfl)
  refine wpAny_getItem_str_slice (l := none) (u := none) (st := some (-1, us)) ⟨_, Heap.get?_push_size _ rfl, rfl, rfl⟩ rfl ?_
  refine post_val_or_str ⟨Nat.le_trans (Txt.sliceBy_le y _ _ (-1, us) (show (-1 : Int) ≠ 0 by decide)) hx, fun t' c => ?_⟩
  refine ⟨.str (Txt.sliceBy y none none (-1, us)), H4, I5.tok _, ⟨_, rfl⟩, ?_⟩
  rw [rev_mk]
  exact q
def uRevS : D → Option SV
  | .str x => if x.length ≤ lim then some (.fr (.str x.reverse)) else none
  | _ => none
theorem de_revS {k : Nat} {p1 p2 p3 : Pos} (he : DE X Z W a fa) : DE X Z W (.Subscript a (.Slice none none (some (.UnaryOp .USub (.Constant (.int 1) k p1) p2)) p3) pos) (fUn uRevS (toB fa)) :=
  de_of (pe_revS he) (eg_un (r := fun x H1 Q => ∃ y : Str, x = .str y ∧ y.length ≤ sizeLine ∧ Q (.str (mk y.cps.toList.reverse)) H1) (fun S F O H x dx z Q I rx e k => by
    unfold uRevS at e
    split at e
    · split at e
      · rename_i l hl
        cases e
        rw [rb_str rx]
        exact ⟨_, rfl, by rw [len_mk, lim_eq]; exact hl, k _ S H (Stp.refl I) (.str _)⟩
      · cases e
    · cases e) (eg_b eg_t))
end
end DL
namespace DL
open PySem PySem.Spec PyProof.Rows L2
/-! ### a, b = x, y; a, b, c = x, y, z: the values may be one's own -/
section
variable {S F O H H0 S1 F1 O1 H1 S2 F2 H2 : Hp} {v : V} {x : SV}
theorem rV_keep (r : rV H S1 F1 O H1 v x) (a : Stp S1 F1 O H1 S2 F2 O H2) : rV H S2 F2 O H2 v x := by
  cases x with
  | fr d => exact Rp.mono a.ss r
  | bo d =>
    obtain ⟨p, o, e1, e2, e3⟩ := r
    exact ⟨p, o, e1, e2, e3.mono a.ss⟩
  | ow d =>
    obtain ⟨p, o, e1, e2, e3, e4, e5, e6, e7⟩ := r
    exact ⟨p, o, e1, a.keep p o e2 e5 e6, e3.mono a.ss, a.none_s e2 e4 e5 e6 e3.nt, a.none_f e2 e5, e6, e7⟩
/-- the place of a new list or dict -/
def owAt (v : V) (x : SV) (p : Addr) : Prop := (∃ d, x = .ow d) ∧ v = .ref p
theorem rV_own {p : Addr} {o : HO} (r : rV H S F O H1 v x) (hp : O p = none) (hn : ¬ owAt v x p) : rV H S F (upd O p o) H1 v x := by
  cases x with
  | fr d => exact r
  | bo d =>
    obtain ⟨q, u, e1, e2, e3⟩ := r
    exact ⟨q, u, e1, by rw [upd_ne (ne_of_none e2 hp)]; exact e2, e3⟩
  | ow d =>
    obtain ⟨q, u, e1, e2, e3, e4, e5, e6, e7⟩ := r
    have n : q ≠ p := fun z => hn ⟨⟨d, rfl⟩, by rw [e1, z]⟩
    exact ⟨q, u, e1, e2, e3, e4, e5, by rw [upd_ne n]; exact e6, e7⟩
theorem set_in2 {i : Nat} {sd sd' : DSt} {σ : L2.St} (I : Inn S F O H) (st : Stp S F O H S1 F1 O H1) (rs : RpS S1 O σ sd) (rv : rV H S1 F1 O H1 v x) (e : setSV i sd x = some sd') :
    ∃ O', Stp S F O H S1 F1 O' H1 ∧ RpS S1 O' (σ.set i (some v)) sd' ∧ ∀ w y, rV H S1 F1 O H1 w y → (∀ p, owAt v x p → ¬ owAt w y p) → rV H S1 F1 O' H1 w y := by
  cases x with
  | fr d => cases e; exact ⟨O, st, rs.setFr rv, fun _ _ h _ => h⟩
  | bo d => cases e
  | ow d =>
    cases e
    obtain ⟨q, o, e1, e2, e3, e4, e5, e6, e7⟩ := rv
    subst e1
    exact ⟨_, st.own e2 e4 e5 e7 e3.nt, rs.setOw e6 e3, fun w y h hn => rV_own h e6 (hn q ⟨⟨d, rfl⟩, rfl⟩)⟩
end
section
variable {X : Cx} {Z : Eff} {W : WX} {a b c : Expr} {pos p : Pos} {fa fb fc : DSt → Z.G → Out Z.G SV}
/-- as of_eg; what is wanted is told of an earlier state -/
theorem of_egB {α : Type} {rd : RD α} {mg : Str → Option Value} {te : TE} {fe : DSt → Z.G → Out Z.G α} {Q : VK} {kk : α → Z.G → OutS Z.G} {D : Ends} {S F O H S0 F0 O0 H0 : Hp} {σ : L2.St} {sd : DSt} {g : Z.G} (h : EG Z mg rd W te fe) (I0 : Inn S0 F0 O0 H0) (st0 : Stp S0 F0 O0 H0 S F O H) (rs : RpS S O σ sd) (hR : Z.R g S F) (hp : endQ Z mg W D S0 F0 O0 H0 (OutS.of sd (fe sd g) kk))
    (k : ∀ (x : α) (g' : Z.G) (v : V) (S' F' H' : Hp), Stp S F O H S' F' O H' → Z.R g' S' F' → rd H S' F' O H' v x → RpS S' O σ sd → endQ Z mg W D S0 F0 O0 H0 (kk x g') → Q v H') : te σ H Q := by
  refine h S F O H σ sd g Q st0.inn rs hR ?_
  cases e : fe sd g with
  | bad => rw [e] at hp; exact hp.elim
  | er x g' =>
    rw [e] at hp
    exact fun cls dx S' F' H' st hR' ex => hp cls dx σ S' F' O H' (st0.trans I0 st) (rs.mono st.ss) hR' ex
  | ok x g' =>
    rw [e] at hp
    exact fun v S' F' H' st hR' rv => k x g' v S' F' H' st hR' rv (rs.mono st.ss) hp
theorem ap_of {H H1 S1 F1 O O' S2 F2 H2 : Hp} {v1 v2 : V} {x1 x2 : SV} (r1 : rV H S1 F1 O H1 v1 x1) (r2 : rV H1 S2 F2 O' H2 v2 x2) : ∀ p, owAt v1 x1 p → ¬ owAt v2 x2 p := fun p ⟨⟨d, h1⟩, h2⟩ ⟨⟨d', h3⟩, h4⟩ => by
  subst h1 h3 h2
  obtain ⟨q, o, z1, z2, _⟩ := r1
  obtain ⟨q', o', y1, _, _, _, _, _, y7⟩ := r2
  cases z1
  rw [h4] at y1
  cases y1
  rw [z2] at y7
  cases y7
theorem set_in3 {S F O O1 H S1 F1 H1 : Hp} {v : V} {x : SV} {i : Nat} {sd sd' : DSt} {σ : L2.St} (st : Stp S F O H S1 F1 O1 H1) (rs : RpS S1 O1 σ sd) (rv : rV H S1 F1 O1 H1 v x) (e : setSV i sd x = some sd') :
    ∃ O', Stp S F O H S1 F1 O' H1 ∧ RpS S1 O' (σ.set i (some v)) sd' ∧ ∀ w y, rV H S1 F1 O1 H1 w y → (∀ p, owAt v x p → ¬ owAt w y p) → rV H S1 F1 O' H1 w y := by
  cases x with
  | fr d => cases e; exact ⟨O1, st, rs.setFr rv, fun _ _ h _ => h⟩
  | bo d => cases e
  | ow d =>
    cases e
    obtain ⟨q, o, e1, e2, e3, e4, e5, e6, e7⟩ := rv
    subst e1
    refine ⟨upd O1 q o, ⟨st.inn.own e2 e4 e5 e3.nt, st.ss, st.keep, st.dom, st.ns, st.nf, fun y z => ?_⟩, rs.setOw e6 e3, fun w y h hn => rV_own h e6 (hn q ⟨⟨d, rfl⟩, rfl⟩)⟩
    rcases upd_nn z with e | e
    · exact .inr (by rw [e]; exact e7)
    · exact st.no y e
def sPar2 {G : Type} (i j : Nat) (fa fb : DSt → G → Out G SV) : DSt → G → OutS G := fun sd g => OutS.of sd (fa sd g) fun x g1 => OutS.of sd (fb sd g1) fun y g2 => .ofO ((setSV i sd x).bind fun sd' => setSV j sd' y) g2
theorem ds_par2 {i j : Nat} {x y : Str} {px py pt pt2 : Pos} {kt k2} (ha : DE X Z W a fa) (hb : DE X Z W b fb) (hc : X.calm = true) (hN : X.N.Nodup) (hi : X.N[i]? = some x := by rfl) (hj : X.N[j]? = some y := by rfl) (hij : i ≠ j := by decide)
    (hx : X.env.scope.names.lookup x = some .local := by rfl) (hy : X.env.scope.names.lookup y = some .local := by rfl)
    (hw : swappedStores [.Tuple [.Name x px, .Name y py] kt pt] (.Tuple [a, b] k2 pt2) X.env = pure (some [x, y]) := by rfl)
    (hs : swapsWithSole [.Tuple [.Name x px, .Name y py] kt pt] (.Tuple [a, b] k2 pt2) pos.line X.env = pure false := by rfl)
    (h1 : starEach [a, b] X.env = (false, eval a X.env) :: starEach [b] X.env := by rfl) (h2 : starEach [b] X.env = (false, eval b X.env) :: starEach [] X.env := by rfl) :
    DS X Z W (.Assign [.Tuple [.Name x px, .Name y py] kt pt] (.Tuple [a, b] k2 pt2) pos) (sPar2 i j fa fb) := ds_of (ps_par hc hN hi hj hij hx hy (pa_cons ha (pa_cons hb pa_nil h2) h1) hw hs) fun S F O H σ sd g D I rs hR hp => by
  refine of_egB eg_t I (Stp.refl I) rs hR hp fun x1 g1 v1 S1 F1 H1 st1 hR1 rv1 rs1 q1 => ?_
  refine of_egB eg_t I st1 rs1 hR1 q1 fun x2 g2 v2 S2 F2 H2 st2 hR2 rv2 rs2 q2 => ?_
  have st := st1.trans I st2
  have r1 := rV_keep rv1 st2
  have r2 : rV H S2 F2 O H2 v2 x2 := backs_V _ _ _ _ _ _ _ _ (fun _ z => back_none st1 z) rv2
  have q2 : endQ Z X.mg W D S F O H (OutS.ofO ((setSV i sd x1).bind fun sd' => setSV j sd' x2) g2) := q2
  cases e1 : setSV i sd x1 with
  | none => rw [e1] at q2; exact q2.elim
  | some sd1 =>
    rw [e1] at q2
    have q2 : endQ Z X.mg W D S F O H (OutS.ofO (setSV j sd1 x2) g2) := q2
    cases e2 : setSV j sd1 x2 with
    | none => rw [e2] at q2; exact q2.elim
    | some sd2 =>
      rw [e2] at q2
      obtain ⟨O1, s1, t1, k1⟩ := set_in3 st rs2 r1 e1
      obtain ⟨O2, s2, t2, _⟩ := set_in3 s1 t1 (k1 _ _ r2 (ap_of rv1 rv2)) e2
      exact ⟨v1, v2, rfl, q2 _ S2 F2 O2 H2 s2 t2 hR2⟩
def sPar3 {G : Type} (i j l : Nat) (fa fb fc : DSt → G → Out G SV) : DSt → G → OutS G := fun sd g => OutS.of sd (fa sd g) fun x g1 => OutS.of sd (fb sd g1) fun y g2 => OutS.of sd (fc sd g2) fun z g3 =>
  .ofO ((setSV i sd x).bind fun sd1 => (setSV j sd1 y).bind fun sd2 => setSV l sd2 z) g3
theorem ds_par3 {i j l : Nat} {x y z : Str} {px py pz pt pt2 : Pos} {kt k2} (ha : DE X Z W a fa) (hb : DE X Z W b fb) (hc' : DE X Z W c fc) (hc : X.calm = true) (hN : X.N.Nodup) (hi : X.N[i]? = some x := by rfl) (hj : X.N[j]? = some y := by rfl) (hl : X.N[l]? = some z := by rfl) (hij : i ≠ j := by decide) (hil : i ≠ l := by decide) (hjl : j ≠ l := by decide)
    (hx : X.env.scope.names.lookup x = some .local := by rfl) (hy : X.env.scope.names.lookup y = some .local := by rfl) (hz : X.env.scope.names.lookup z = some .local := by rfl)
    (hw : swappedStores [.Tuple [.Name x px, .Name y py, .Name z pz] kt pt] (.Tuple [a, b, c] k2 pt2) X.env = pure (some [x, y, z]) := by rfl)
    (hs : swapsWithSole [.Tuple [.Name x px, .Name y py, .Name z pz] kt pt] (.Tuple [a, b, c] k2 pt2) pos.line X.env = pure false := by rfl)
    (h1 : starEach [a, b, c] X.env = (false, eval a X.env) :: starEach [b, c] X.env := by rfl) (h2 : starEach [b, c] X.env = (false, eval b X.env) :: starEach [c] X.env := by rfl) (h3 : starEach [c] X.env = (false, eval c X.env) :: starEach [] X.env := by rfl) :
    DS X Z W (.Assign [.Tuple [.Name x px, .Name y py, .Name z pz] kt pt] (.Tuple [a, b, c] k2 pt2) pos) (sPar3 i j l fa fb fc) := ds_of (ps_par3 hc hN hi hj hl hij hil hjl hx hy hz (pa_cons ha (pa_cons hb (pa_cons hc' pa_nil h3) h2) h1) hw hs) fun S F O H σ sd g D I rs hR hp => by
  refine of_egB eg_t I (Stp.refl I) rs hR hp fun x1 g1 v1 S1 F1 H1 st1 hR1 rv1 rs1 q1 => ?_
  refine of_egB eg_t I st1 rs1 hR1 q1 fun x2 g2 v2 S2 F2 H2 st2 hR2 rv2 rs2 q2 => ?_
  have st12 := st1.trans I st2
  refine of_egB eg_t I st12 rs2 hR2 q2 fun x3 g3 v3 S3 F3 H3 st3 hR3 rv3 rs3 q3 => ?_
  have st := st12.trans I st3
  have st23 := st2.trans st1.inn st3
  have r1 := rV_keep rv1 st23
  have r2' := rV_keep rv2 st3
  have r2 : rV H S3 F3 O H3 v2 x2 := backs_V _ _ _ _ _ _ _ _ (fun _ z => back_none st1 z) r2'
  have r3' : rV H1 S3 F3 O H3 v3 x3 := backs_V _ _ _ _ _ _ _ _ (fun _ z => back_none st2 z) rv3
  have r3 : rV H S3 F3 O H3 v3 x3 := backs_V _ _ _ _ _ _ _ _ (fun _ z => back_none st12 z) rv3
  have q3 : endQ Z X.mg W D S F O H (OutS.ofO ((setSV i sd x1).bind fun sd1 => (setSV j sd1 x2).bind fun sd2 => setSV l sd2 x3) g3) := q3
  cases e1 : setSV i sd x1 with
  | none => rw [e1] at q3; exact q3.elim
  | some sd1 =>
    rw [e1] at q3
    have q3 : endQ Z X.mg W D S F O H (OutS.ofO ((setSV j sd1 x2).bind fun sd2 => setSV l sd2 x3) g3) := q3
    cases e2 : setSV j sd1 x2 with
    | none => rw [e2] at q3; exact q3.elim
    | some sd2 =>
      rw [e2] at q3
      have q3 : endQ Z X.mg W D S F O H (OutS.ofO (setSV l sd2 x3) g3) := q3
      cases e3 : setSV l sd2 x3 with
      | none => rw [e3] at q3; exact q3.elim
      | some sd3 =>
        rw [e3] at q3
        obtain ⟨O1, s1, t1, k1⟩ := set_in3 st rs3 r1 e1
        obtain ⟨O2, s2, t2, k2⟩ := set_in3 s1 t1 (k1 _ _ r2 (ap_of rv1 rv2)) e2
        obtain ⟨O3, s3, t3, _⟩ := set_in3 s2 t2 (k2 _ _ (k1 _ _ r3 (ap_of rv1 r3')) (ap_of rv2 rv3)) e3
        exact ⟨v1, v2, v3, rfl, q3 _ S3 F3 O3 H3 s3 t3 hR3⟩
end
end DL
namespace DL
open PySem PySem.Spec PyProof.Rows L2
/-! ### the law's def -/
def spLaw (K : PySem.W.Frag) : Sp := fun vs H Q E => ∃ (a : Addr) (ns : List Int), vs = [.ref a] ∧ SqL K H a (ns.map V.int) ∧ ns.length ≤ 63 ∧ ∀ H', Q (.bl true) H'
/-- the law's slots behind _law_start -/
def sdLaw (n : Nat) (a p : Addr) : DSt := some (.fr (.obj (.ref a))) :: some (.fr (.obj (.ref p))) :: List.replicate (n - 2) none
section
variable {P : Program} {w : World} {K : PySem.W.Frag} {mg : Str → Option Value} {base : Heap} {N : List Str} {scope : Scope} {fa : Addr} {fd : FuncData} {params : Arguments} {st0 : Stmt} {rest : List Stmt} {k : Nat}
theorem law_fn (F : FunD K "law" "law" params (st0 :: rest) scope [] [] fa fd) (S : FnScope N ["_law_script"] scope) (hN : 2 ≤ N.length) {fr : Addr → Addr → List Int → DSt → Gs → OutS Gs}
    (h0 : ∀ (cdv : Value) (A : Around) (outer : List Env) (s : Shared) (H : Hp) (E : XK), Room k (A.deeper (envOfC "law" scope s.heap.objs.size fa cdv)) → PS (cxOf (L2.CX P w) P w K mg base N "law" scope fa cdv A outer s H E) st0 (tAsg (tCallS (spStart K) (WE (WD E)) (tCons (tVar 0) tNil)) (gName 1)))
    (hb : ∀ (a p : Addr) (ns : List Int) (cdv : Value) (A : Around) (outer : List Env) (s : Shared) (H : Hp) (E : XK), Room k (A.deeper (envOfC "law" scope s.heap.objs.size fa cdv)) → DSs (cxOf (L2.CX P w) P w K mg base N "law" scope fa cdv A outer s H E) (genZ K a ns p) (WD E) rest (fr a p ns))
    (hp : ∀ (a p : Addr) (ns : List Int), ns.length ≤ 63 → ∃ g', fr a p ns (sdLaw N.length a p) ⟨0, mixI ns, 0⟩ = .rt (.fr (.bl true)) g') :
    FnOk P w K mg base (L2.CX P w) (k + 1) fa fd ["_law_script"] (spLaw K) := by
  refine F.ok S (fun vs H Q E h => ?_) fun cdv A outer s H vs Q E hr h => ?_
  · obtain ⟨a, ns, rfl, _⟩ := h
    rfl
  · obtain ⟨a, ns, rfl, hS, hl, hQ⟩ := h
    refine ⟨_, pss_cons (h0 cdv A outer s H E hr) (u := fun D σ H => ∃ p, tS (genZ K a ns p) mg (WD E) (fr a p ns) D σ H) ⟨fun pins s' σ H' D I q => ?_⟩, ?_⟩
    · obtain ⟨p, q⟩ := q
      exact (hb a p ns cdv A outer s H E hr).run pins s' σ H' D I q
    · obtain ⟨x, y, N', rfl⟩ : ∃ x y N', N = x :: y :: N' := by
        match N, hN with
        | x :: y :: N', _ => exact ⟨x, y, N', rfl⟩
      refine ⟨V.ref a, rfl, a, ns, rfl, hS, fun p hpn => ⟨p, ?_⟩⟩
      obtain ⟨g', hg⟩ := hp a p ns hl
      have hn : ∀ b, H b ≠ none → b ≠ p := fun b z e => z (by rw [e]; exact hpn)
      refine ⟨H, one p (stL a ⟨0, mixI ns, 0⟩), nil, sdLaw (x :: y :: N').length a p, ⟨0, mixI ns, 0⟩, ⟨same_new hpn, fun b o e => ?_, (fun _ _ z => nomatch z), fun b z => ?_, fun _ _ => rfl, fun _ _ => rfl, one_nt (fun _ z => by cases z), (fun _ _ z => nomatch z)⟩, ?_, ⟨rfl, hS⟩, ?_⟩
      · have e1 := one_nn (nn_of e)
        subst e1
        rw [one_same] at e
        rw [upd_same]
        exact e
      · exact upd_ne (hn b z)
      · -- the slots
        have r : RpS H nil ([some (V.ref a)] ++ List.replicate (N'.length + 1) none) ([some (SV.fr (D.obj (.ref a)))] ++ List.replicate (N'.length + 1) none) := start_rps (vs := [V.ref a]) (ds := [D.obj (.ref a)]) (N'.length + 1) (.cons (.obj _) .nil)
        have r2 := r.setFr (i := 1) (v := V.ref p) (d := D.obj (.ref p)) (.obj _)
        exact r2
      · rw [hg]
        intro v S' F' O' H' st hR rv
        have e := rb_bl (S := S') (O := nil) (x := v) (.inl rv)
        subst e
        exact hQ _
end
theorem r1 {k : Nat} {A : Around} {C : Prop} (h : Room k A) (hk : 1 ≤ k) (f : Room (0 + 1) A → C) : C := f (h.mono hk)
theorem hCX0 {P : Program} {w : World} : ∀ (H : Hp) (s : Shared) (e : Value) (s' : Shared), L2.CX P w [] H s (fun _ _ _ => False) e s' → False := fun _ _ _ _ h => by
  obtain ⟨_, _, _, _, _, _, _, _, _, _, _, _, z⟩ := h
  exact z
/-- the law's def lets nothing out -/
theorem law_cx0 {P : Program} {w : World} {K : PySem.W.Frag} {mg : Str → Option Value} {base : Heap} {k : Nat} {f : Addr} {fd : FuncData} {ps : List Str} (F : FnOk P w K mg base (L2.CX P w) k f fd ps (spLaw K)) : FnOk P w K mg base CX0 k f fd ps (spLaw K) :=
  ⟨F.len, fun A outer s H args us vs Q E hr he hb hv hs => codeAny_mono (F.run A outer s H args us vs Q (fun _ _ _ => False) hr he hb hv hs) fun r s' h => by
    cases r with
    | error e =>
      obtain ⟨_, _, _, _, _, _, _, _, _, _, _, _, z⟩ := h
      exact z.elim
    | ok fl => cases fl <;> exact h⟩
end DL
namespace DL
open PySem PySem.Spec PyProof.Rows L2
section
variable {X : Cx} {Z : Eff} {W : WX} {e a b c tg o : Expr} {es rest : List Expr} {pos p : Pos} {f fa fb fc : DSt → Z.G → Out Z.G SV} {k : Bool}
/-! ### range with a step -/
def rngC (lo c : Int) (n : Nat) : List D := (List.range n).map fun (i : Nat) => .int (lo + (i : Int) * c)
theorem rngC_len (lo c : Int) (n : Nat) : (rngC lo c n).length = n := by rw [rngC, List.length_map, List.length_range]
theorem jit_rngC {S0 O0 : Hp} (lo c : Int) (n : Nat) : JIt S0 O0 (Itc lo c n) (rngC lo c n) where
  go S F O H i I a b hi := by rw [rngC_len] at hi; exact hi
  yld S F O H i v H' I a b hi y := by
    obtain ⟨e, ev⟩ := y
    subst e ev
    rw [rngC_len] at hi
    exact ⟨S, _, Stp.refl I, by rw [rngC, List.getElem?_map, List.getElem?_range hi]; rfl, .int _⟩
  stop S F O H I a b := by rw [rngC_len]; exact Nat.le_refl n
theorem fits_ok {i : Int} (h0 : -(2 ^ 62) ≤ i) (h1 : i ≤ 2 ^ 62) : Builtin.Range.rangeFitsLong i = true := by
  unfold Builtin.Range.rangeFitsLong
  rw [Bool.and_eq_true, decide_eq_true_eq, decide_eq_true_eq]
  omega
theorem rgC_up {i j c : Int} (h0 : 0 ≤ i) (h1 : i ≤ 1000000) (h2 : 0 ≤ j) (h3 : j ≤ 1000000) (h4 : 0 < c) (h5 : c ≤ 1000000) : RgC i j c (Builtin.Range.rangeSize i j c).toNat := by
  have e := rangeSize_toNat i j c
  have l := rangeSize_toNat_le i j c
  refine ⟨by omega, by omega, ?_, e⟩
  unfold Builtin.Range.small
  rw [fits_ok (i := i) (by omega) (by omega), fits_ok (i := j) (by omega) (by omega), fits_ok (i := c) (by omega) (by omega), fits_ok (i := Builtin.Range.rangeSize i j c) (by omega) (by omega), if_pos (by omega), fits_ok (i := j + (c - 1)) (by omega) (by omega)]
  simp
noncomputable def rgB3 : List D → Option (List D)
  | [.int i, .int j, .int c] => @ite _ (0 ≤ i ∧ i ≤ 1000000 ∧ 0 ≤ j ∧ j ≤ 1000000 ∧ 0 < c ∧ c ≤ 1000000) (Classical.propDecidable _) (some (rngC i c (Builtin.Range.rangeSize i j c).toNat)) none
  | _ => none
noncomputable def fRng3 {G : Type} (fs : List (DSt → G → Out G SV)) : DSt → G → Out G (List D) := fun sd g => (lArgs (fs.map toB) sd g).bind fun ds g1 => Out.lift (rgB3 ds) g1
theorem len_three {α : Type} : ∀ {l : List α}, l.length = 3 → ∃ a b c, l = [a, b, c]
  | [], h => nomatch h
  | [_], h => nomatch h
  | [_, _], h => nomatch h
  | [a, b, c], _ => ⟨a, b, c, rfl⟩
  | _ :: _ :: _ :: _ :: _, h => by simp at h
theorem di_rng3 (ha : DRs X Z W [a, b, c] [fa, fb, fc]) (hm : X.mg "range" = none) (hg : Gl X "range" := by rfl) (hs : starEach [a, b, c] X.env = (false, eval a X.env) :: starEach [b, c] X.env := by rfl) (hpl : (backTo pos (starEach [b, c] X.env)).any (·.1) = false := by rfl) :
    DI k X Z W tg (.Call (.Name "range" p) [a, b, c] [] pos) (fRng3 [fa, fb, fc]) := ⟨fun pins s σ H R I q => by
  obtain ⟨S, F, O, sd, g, i, r, hR, hp⟩ := q
  refine (pi_range3 hg hm ha hs hpl).run pins s σ H R I ⟨S, F, O, sd, g, i, r, hR, post_mono (lArgs_len _ _ (post_bind.mp hp)) (fun ds g1 q1 vs S1 F1 H1 st1 hR1 r1 => ?_) fun _ _ q => q⟩
  obtain ⟨ds2, e2, q2⟩ := post_lift.mp q1.2
  obtain ⟨d, d', d'', rfl⟩ := len_three q1.1
  cases r1 with
  | cons r1 r2 =>
    obtain ⟨v, w, rfl, r3, r4⟩ := rbl_two r2
    unfold rgB3 at e2
    split at e2
    · rename_i i' j' c' e0
      cases e0
      split at e2
      · rename_i hj
        cases e2
        rw [rb_int r1, rb_int r3, rb_int r4]
        exact ⟨i', j', c', _, rfl, rgC_up hj.1 hj.2.1 hj.2.2.1 hj.2.2.2.1 hj.2.2.2.2.1 hj.2.2.2.2.2, q2 _ _ _ _ st1 hR1 (jit_rngC i' c' _)⟩
      · cases e2
    · cases e2⟩
/-! ### d.get(k) -/
def fDGet1 {G : Type} (fo fi : DSt → G → Out G SV) : DSt → G → Out G SV := fun sd g => (toB fo sd g).bind fun x g1 => (toB fi sd g1).bind fun y g2 => match DL.getD x y with
  | some (some d) => .ok (.fr d) g2
  | some none => .ok (.fr .non) g2
  | none => .bad
/-- is a dict -/
def isDk : D → Bool
  | .dk _ => true
  | .dt _ => true
  | .ft _ => true
  | _ => false
theorem getD_dk {x y : D} {r : Option D} (h : DL.getD x y = some r) : isDk x = true := by
  unfold DL.getD at h
  split at h
  · rfl
  · rfl
  · rfl
  · cases h
theorem isD_of {S F O H : Hp} {x : V} {d : D} (I : Inn S F O H) (r : RpB S O x d) (h : isDk d = true) : ∃ q, x = .ref q ∧ IsD H q := by
  cases d with
  | dk kvs => obtain ⟨q, vs, e, hq, _⟩ := rb_dk I r; exact ⟨q, e, .inl ⟨vs, .inl hq⟩⟩
  | dt kvs => obtain ⟨q, vs, e, hq, _⟩ := rb_dt I r; exact ⟨q, e, .inr ⟨vs, .inl hq⟩⟩
  | ft kvs =>
    rcases r with r | ⟨p, o, _, _, w, _⟩
    · cases r with
      | ft h1 h2 => exact ⟨_, rfl, .inr ⟨_, .inr ⟨_, I.s _ _ h1⟩⟩⟩
      | «at» h1 h2 => cases h2
    · cases w
  | _ => cases h
def fDGet1' {G : Type} (fo fi : DSt → G → Out G SV) : DSt → G → Out G SV := fun sd g => (toB fo sd g).bind fun x g1 => if isDk x = true then (toB fi sd g1).bind fun y g2 => match DL.getD x y with
  | some (some d) => .ok (.fr d) g2
  | some none => .ok (.fr .non) g2
  | none => .bad
  else .bad
theorem de_get1 {i : Expr} {fo fi : DSt → Z.G → Out Z.G SV} {j : Nat} {apos : Pos} (ho : DE X Z W o fo) (hi : DE X Z W i fi) (hr : Room (j + 1) X.A) (m : M1 X o "get" apos i pos := by exact ⟨rfl, rfl, rfl, rfl⟩) : DE X Z W (.Call (.Attribute o "get" apos) [i] [] pos) (fDGet1' fo fi) :=
  de_of (pe_dget1 (by have := units1 hr; omega) ho hi m) fun S F O H σ sd g Q I rs hR hp => by
    have ko : EG Z X.mg rB W (tE Z X.mg rV W fo) (toB fo) := eg_b eg_t
    have ki : EG Z X.mg rB W (tE Z X.mg rV W fi) (toB fi) := eg_b eg_t
    refine ko S F O H σ sd g _ I rs hR (post_mono (post_bind.mp hp) (fun dx g1 q1 x S1 F1 H1 st1 hR1 rx => ?_) fun _ _ q => q)
    split at q1
    · rename_i hd
      obtain ⟨q, rfl, hq⟩ := isD_of st1.inn rx hd
      refine ⟨q, rfl, hq, ki S1 F1 O H1 σ sd g1 _ st1.inn (rs.mono st1.ss) hR1 (post_mono (post_bind.mp q1) (fun dy g2 q2 y S2 F2 H2 st2 hR2 ry => ?_) fun _ _ q => erQ_from I st1 q)⟩
      have st := st1.trans I st2
      split at q2
      · rename_i d e
        obtain ⟨a, ov, e1, dg, h3⟩ := dget_of st2.inn (rx.mono st2.ss) ry e
        cases e1
        cases ov with
        | none => exact h3.elim
        | some v => exact ⟨_, dg, q2 v S2 F2 H2 st hR2 h3⟩
      · rename_i e
        obtain ⟨a, ov, e1, dg, h3⟩ := dget_of st2.inn (rx.mono st2.ss) ry e
        cases e1
        cases ov with
        | none => exact ⟨_, dg, q2 .non S2 F2 H2 st hR2 .non⟩
        | some v => exact h3.elim
      · exact q2.elim
    · exact q1.elim
end
end DL
namespace DL
open PySem PySem.Spec PyProof.Rows L2
/-! ### one's own lent to a def without effects that answers something flat -/
/-- what stands, and the frame's own -/
noncomputable def plus (S O : Hp) : Hp := fun a => @ite _ (O a = none) (Classical.propDecidable _) (S a) (O a)
section
variable {S F O H S1 F1 O1 H1 : Hp}
theorem plus_s (I : Inn S F O H) : Same S (plus S O) := fun a o h => by
  unfold plus
  rw [if_pos (I.so a (nn_of h))]
  exact h
theorem plus_o {a : Addr} {o : HO} (h : O a = some o) : plus S O a = some o := by
  unfold plus
  rw [if_neg (nn_of h)]
  exact h
theorem plus_inn (I : Inn S F O H) : Inn (plus S O) nil nil H := by
  refine ⟨fun a o h => ?_, (fun _ _ h => by cases h), (fun _ _ h => by cases h), fun _ _ => rfl, fun _ _ => rfl, fun _ _ => rfl, (fun _ _ z => nomatch z), (fun _ _ z => nomatch z)⟩
  unfold plus at h
  split at h
  · exact I.s a o h
  · exact I.o a o h
theorem rpl_plus (I : Inn S F O H) : ∀ {vs : List V} {ds : List D}, RpBL S O vs ds → RpL (plus S O) vs ds
  | _, _, .nil => .nil
  | _, _, .cons r b => by
    refine .cons ?_ (rpl_plus I b)
    rcases r with r | ⟨p, o, e, h, r⟩
    · exact r.mono (plus_s I)
    · rw [e]; exact .at (plus_o h) (r.1.mono (plus_s I))
theorem Stp.lent (I : Inn S F O H) (a : Stp (plus S O) nil nil H S1 nil nil H1) : Stp S F O H S F O H1 := by
  have keep : ∀ x o, H x = some o → H1 x = some o := fun x o h => a.keep x o h rfl rfl
  exact ⟨⟨fun x o h => keep x o (I.s x o h), fun x o h => keep x o (I.f x o h), fun x o h => keep x o (I.o x o h), I.sf, I.so, I.fo, I.ft, I.ot⟩, Same.refl S, fun x o h _ _ => keep x o h, a.dom, fun _ h => .inl h, fun _ h => .inl h, fun _ h => .inl h⟩
theorem flat_rp {v : V} {d : D} (h : d.flat = true) (r : Rp S1 v d) : Rp S v d := by
  cases d with
  | non => rw [rb_non (O := nil) (.inl r)]; exact .non
  | bl b => rw [rb_bl (O := nil) (.inl r)]; exact .bl b
  | int i => rw [rb_int (O := nil) (.inl r)]; exact .int i
  | str x => rw [rb_str (O := nil) (.inl r)]; exact .str x
  | _ => cases h
end
def lentR {G : Type} (run : List D → Unit → Out Unit SV) : List D → G → Out G SV := fun ds g => match run ds () with
  | .ok (.fr d) _ => if d.flat = true then .ok (.fr d) g else .bad
  | _ => .bad
def fFnL {G : Type} (run : List D → Unit → Out Unit SV) (fs : List (DSt → G → Out G SV)) : DSt → G → Out G SV := fun sd g => (lArgs (fs.map toB) sd g).bind fun ds g1 => lentR run ds g1
section
variable {X : Cx} {Z : Eff} {W : WX} {e : Expr} {es : List Expr} {pos : Pos}
theorem de_callL {x : Str} {k n : Nat} {run : List D → Unit → Out Unit SV} {fs : List (DSt → Z.G → Out Z.G SV)} {p : Pos} (C : Cal X.prog X.w X.K X.mg X.base x k n ZU run) (hr : Room k X.A) (tk : Takes X W) (ha : DRs X Z W (e :: es) fs) (hn : fs.length = n := by rfl)
    (hg : Gl X x := by rfl) (hdb : (x == ("__debug__" : Str)) = false := by decide) (he : starEach (e :: es) X.env = (false, eval e X.env) :: starEach es X.env := by rfl) (hpl : (backTo pos (starEach es X.env)).any (·.1) = false := by rfl) :
    DE X Z W (.Call (.Name x p) (e :: es) [] pos) (fFnL run fs) := by
  obtain ⟨f, fd, ps, F0, hm, hk, hb⟩ := C.ex
  refine de_of (pe_callS F0 hr hg hm hk hb (fun σ => passAt tk σ) ha hdb he hpl) fun S F O H σ sd g Q I rs hR hp => ?_
  refine ⟨S, F, O, sd, g, I, rs, hR, post_mono (lArgs_len _ _ (post_bind.mp hp)) (fun ds g1 q1 vs S1 F1 H1 st1 hR1 r1 => ?_) fun _ _ q => q⟩
  have q2 := q1.2
  refine ⟨plus S1 O, nil, ds, (), plus_inn st1.inn, rpl_plus st1.inn r1, by rw [q1.1, List.length_map]; exact hn, rfl, ?_⟩
  unfold lentR at q2
  cases e0 : run ds () with
  | bad => rw [e0] at q2; exact q2.elim
  | er x u => rw [e0] at q2; exact q2.elim
  | ok y u =>
    rw [e0] at q2
    cases y with
    | ow d => exact q2.elim
    | bo d => exact q2.elim
    | fr d =>
      dsimp only at q2
      split at q2
      · rename_i hf
        intro v S' F' H' st hR' rv
        have hF : F' = nil := hR'
        subst hF
        exact q2 v S1 F1 H' (st1.trans I (Stp.lent st1.inn st)) hR1 (flat_rp hf rv)
      · exact q2.elim
end
end DL
namespace DL
open PySem PySem.Spec PyProof.Rows L2
section
variable {X : Cx} {Z : Eff} {W : WX} {fi : DSt → Z.G → Out Z.G (List D)} {gf : D → DSt → Option DSt} {ft : DSt → Z.G → Out Z.G Bool} {fe : DSt → Z.G → Out Z.G SV}
/-- name = [..] on one line -/
theorem ds_setLc {y : Str} {i : Nat} {py : Pos} {elt tg iter : Expr} {ifs : List Expr} {scope : Scope} {own : List (Str × Nat)} {pos spos : Pos} {is : List Nat} (hc : X.calm = true) (hN : X.N.Nodup) (hi : DI true X Z W tg iter fi) (ok : BlkOk X.N X.env.scope scope own)
    (hg : ∀ (s : Shared) (H : Hp) (C : Addr) (cl : List (Str × Addr)) (fp : List Addr), DG (X.blk s H scope (compEnvC scope cl C X.env) fp) tg is gf) (ht : ∀ (s : Shared) (H : Hp) (C : Addr) (cl : List (Str × Addr)) (fp : List Addr), DTs (X.blk s H scope (compEnvC scope cl C X.env) fp) Z WF ifs ft)
    (he : ∀ (s : Shared) (H : Hp) (C : Addr) (cl : List (Str × Addr)) (fp : List Addr), DE (X.blk s H scope (compEnvC scope cl C X.env) fp) Z WF elt fe) (hy : X.N[i]? = some y := by rfl) (hyl : X.env.scope.names.lookup y = some .local := by rfl)
    (hsw : swapsWith (.ListComp elt [⟨tg, iter, ifs, 0⟩] scope pos) (some (.Name y py)) spos.line X.env = pure true := by rfl) (hs : ∀ x, foldedSetIterable iter X.env x = pure x := by intro _; rfl) (hiso : is = own.map (·.2) := by rfl) :
    DS X Z W (.Assign [.Name y py] (.ListComp elt [⟨tg, iter, ifs, 0⟩] scope pos) spos) (sSet i (fLc is fi gf ft fe)) := by
  subst hiso
  exact ds_of (ps_setLc (wi := tI Z X.mg true W fi) (g := tG (List.map (fun (x : Str × Nat) => x.2) own) gf) (tt := tT Z X.mg WF ft) (te := tE Z X.mg rV WF fe) hc hN hy hyl hsw hi ok hg ht he hs) fun S F O H σ sd g D I rs hR hp => by
    refine of_eg (Q := fun v H1 => D.nx (σ.set i (some v)) H1) (lc_read (W := W) rfl rfl rfl rfl) I rs hR hp fun x g' v S' F' H' st hR' rv rs' q => ?_
    cases e0 : setSV i sd x with
    | none => rw [e0] at q; exact q.elim
    | some sd' =>
      rw [e0] at q
      obtain ⟨O', st', rs2⟩ := set_in I st rs' hR' rv e0
      exact q _ S' F' O' H' st' rs2 hR'
end
end DL
/-! DLN: effects side by side; another ground -/
namespace DL
open PySem PySem.Spec PyProof.Rows L2
/-! ### effects side by side -/
def join (F1 F2 : Hp) : Hp := fun a => match F1 a with
  | some o => some o
  | none => F2 a
theorem join_l {F1 F2 : Hp} {a : Addr} {o : HO} (h : F1 a = some o) : join F1 F2 a = some o := by unfold join; rw [h]
theorem join_r {F1 F2 : Hp} {a : Addr} (h : F1 a = none) : join F1 F2 a = F2 a := by unfold join; rw [h]
theorem join_nn {F1 F2 : Hp} {a : Addr} (h : join F1 F2 a ≠ none) : F1 a ≠ none ∨ F2 a ≠ none := by
  by_cases e : F1 a = none
  · rw [join_r e] at h; exact .inr h
  · exact .inl e
theorem join_none {F1 F2 : Hp} {a : Addr} (h : join F1 F2 a = none) : F1 a = none ∧ F2 a = none := by
  cases e : F1 a with
  | some o => rw [join_l e] at h; cases h
  | none => rw [join_r e] at h; exact ⟨rfl, h⟩
theorem join_nt {F1 F2 : Hp} (h1 : ∀ a xs, F1 a ≠ some (.tup xs)) (h2 : ∀ a xs, F2 a ≠ some (.tup xs)) : ∀ a xs, join F1 F2 a ≠ some (.tup xs) := fun a xs z => by
  cases e : F1 a with
  | some o => rw [join_l e] at z; cases z; exact h1 a xs e
  | none => rw [join_r e] at z; exact h2 a xs z
/-- Z, and beside it what T says -/
def exZ (Z : Eff) (T : Hp → Hp → Prop) (hT : ∀ S S' F, Same S S' → T S F → T S' F) : Eff where
  G := Z.G
  R := fun g S F => ∃ F1 F2, F = join F1 F2 ∧ (∀ a, F1 a ≠ none → F2 a = none) ∧ Z.R g S F1 ∧ T S F2
  mono := fun g S S' F e ⟨F1, F2, h1, h2, h3, h4⟩ => ⟨F1, F2, h1, h2, Z.mono g S S' F1 e h3, hT S S' F2 e h4⟩
section
variable {S O H F1 F2 S1 F3 H1 : Hp}
theorem Inn.left (I : Inn S (join F1 F2) nil H) : Inn S F1 nil H :=
  ⟨I.s, fun a o h => I.f a o (join_l h), I.o, fun a h => (join_none (I.sf a h)).1, fun _ _ => rfl, fun _ _ => rfl, fun a xs z => I.ft a xs (join_l z), I.ot⟩
theorem fram_ap (I : Inn S (join F1 F2) O H) (a : Stp S F1 nil H S1 F3 nil H1) (ap : ∀ a, F1 a ≠ none → F2 a = none) : ∀ x, F3 x ≠ none → F2 x = none := fun x h => by
  rcases a.nf x h with z | z
  · exact ap x z
  · exact (join_none (I.noF z)).2
/-- what a callee with a part of the effects did, for the caller -/
theorem Stp.fram (I : Inn S (join F1 F2) O H) (ap : ∀ a, F1 a ≠ none → F2 a = none) (a : Stp S F1 nil H S1 F3 nil H1) : Stp S (join F1 F2) O H S1 (join F3 F2) O H1 := by
  have ap3 := fram_ap I a ap
  have at2 : ∀ {x : Addr}, F2 x ≠ none → F1 x = none := fun {x} h => no_of_nn fun z => h (ap x z)
  have ns : ∀ x, S1 x ≠ none → S x ≠ none ∨ Fre H F1 x := fun x h => by
    rcases a.ns x h with z | z | z
    · exact .inl z
    · exact absurd rfl z
    · exact .inr z
  have h2 : ∀ x o, F2 x = some o → H x = some o := fun x o h => I.f x o (by rw [join_r (at2 (nn_of h))]; exact h)
  refine ⟨⟨a.inn.s, fun x o h => ?_, fun x o h => ?_, fun x h => ?_, fun x h => ?_, fun x h => ?_, fun x xs h => ?_, I.ot⟩, a.ss, fun x o h hf ho => ?_, a.dom, fun x h => ?_, fun x h => ?_, fun _ h => .inl h⟩
  · cases e : F3 x with
    | some u => rw [join_l e] at h; cases h; exact a.inn.f x _ e
    | none =>
      rw [join_r e] at h
      exact a.keep x o (h2 x o h) (at2 (nn_of h)) rfl
  · have hj : join F1 F2 x = none := I.of (nn_of h)
    exact a.keep x o (I.o x o h) (join_none hj).1 rfl
  · have e3 : F3 x = none := no_of_nn fun z => by
      have := a.inn.sf x h
      exact z this
    rw [join_r e3]
    rcases ns x h with z | z | ⟨xs, z⟩ | z
    · exact (join_none (I.sf x z)).2
    · exact (join_none (I.noF z)).2
    · exact (join_none (I.tupF z)).2
    · exact ap x z
  · rcases ns x h with z | z | ⟨xs, z⟩ | z
    · exact I.so x z
    · exact I.noO z
    · exact I.tupO z
    · exact I.fo x (by obtain ⟨u, e⟩ := some_of_nn z; rw [join_l e]; intro z; cases z)
  · rcases join_nn h with z | z
    · rcases a.nf x z with q | q
      · exact I.fo x (by obtain ⟨u, e⟩ := some_of_nn q; rw [join_l e]; intro z; cases z)
      · exact I.noO q
    · exact I.fo x (by rw [join_r (at2 z)]; exact z)
  · cases e : F3 x with
    | some u => rw [join_l e] at h; cases h; exact a.inn.ft x xs e
    | none =>
      rw [join_r e] at h
      exact I.ft x xs (by rw [join_r (at2 (nn_of h))]; exact h)
  · exact a.keep x o h (join_none hf).1 rfl
  · rcases ns x h with z | z | z | z
    · exact .inl z
    · exact .inr (.inr (.inl z))
    · exact .inr (.inr (.inr (.inl z)))
    · exact .inr (.inr (.inr (.inr (by obtain ⟨u, e⟩ := some_of_nn z; rw [join_l e]; intro z; cases z))))
  · rcases join_nn h with z | z
    · rcases a.nf x z with q | q
      · exact .inl (by obtain ⟨u, e⟩ := some_of_nn q; rw [join_l e]; intro z; cases z)
      · exact .inr q
    · exact .inl (by rw [join_r (at2 z)]; exact z)
theorem rV_fram {v : V} {x : SV} (I : Inn S (join F1 F2) O H) (r : rV H S1 F3 nil H1 v x) : rV H S1 (join F3 F2) O H1 v x := by
  cases x with
  | fr d => exact r
  | ow d =>
    obtain ⟨p, o, e1, e2, e3, e4, e5, e6, e7⟩ := r
    exact ⟨p, o, e1, e2, e3, e4, by rw [join_r e5]; exact (join_none (I.noF e7)).2, I.noO e7, e7⟩
  | bo d =>
    obtain ⟨p, o, e1, e2, e3⟩ := r
    cases e2
end
section
variable {P : Program} {w : World} {K : PySem.W.Frag} {mg : Str → Option Value} {base : Heap}
theorem sp_fram {Z : Eff} {T : Hp → Hp → Prop} {hT : ∀ S S' F, Same S S' → T S F → T S' F} {n : Nat} {run : List D → Z.G → Out Z.G SV} {vs : List V} {H : Hp} {Q : VK} {E : XK} (h : spD (exZ Z T hT) mg n run vs H Q E) : spD Z mg n run vs H Q E := by
  obtain ⟨S, F, ds, g, I, r, hl, ⟨F1, F2, hF, ap, hZ, hT2⟩, hp⟩ := h
  subst hF
  refine ⟨S, F1, ds, g, I.left, r, hl, hZ, post_mono hp (fun x g' q v S' F' H' st hR rv => ?_) fun x g' q cls dx S' F' H' st hR ex => ?_⟩
  · have st2 := Stp.fram I ap st
    exact q v S' _ H' st2 ⟨F', F2, rfl, fram_ap I st ap, hR, hT _ _ _ st.ss hT2⟩ (rV_fram I rv)
  · have st2 := Stp.fram I ap st
    exact q cls dx S' _ H' st2 ⟨F', F2, rfl, fram_ap I st ap, hR, hT _ _ _ st.ss hT2⟩ ex
theorem cal_lift {Z : Eff} {T : Hp → Hp → Prop} {hT : ∀ S S' F, Same S S' → T S F → T S' F} {x : Str} {k n : Nat} {run : List D → Z.G → Out Z.G SV} (C : Cal P w K mg base x k n Z run) : Cal P w K mg base x k n (exZ Z T hT) run := by
  obtain ⟨f, fd, ps, F, a, b, c⟩ := C.ex
  exact ⟨f, fd, ps, F.imp fun _ _ _ _ h => sp_fram h, a, b, c⟩
end
/-! ### another ground: what stands untracked now -/
section
variable {X : Cx} {pins : List (Addr × Obj)} {σ : L2.St} {H : Hp} {s : Shared}
def gr (h : Heap) (H : Hp) (fs : List Addr) : Heap := PySem.W.hideAll h (trk h H ++ fs)
theorem gr_get {h : Heap} {fs : List Addr} {b : Addr} {o : Obj} (e : h.get? b = some o) (n : H b = none) (hf : b ∉ fs) : (gr h H fs).get? b = some o :=
  PySem.W.hideAll_get _ e fun hm => by
    rcases List.mem_append.mp hm with z | z
    · have q := (List.mem_filter.mp z).2
      rw [n] at q
      cases q
    · exact hf z
theorem of_gr {h : Heap} {fs : List Addr} {b : Addr} {o : Obj} (e : (gr h H fs).get? b = some o) : h.get? b = some o ∧ H b = none ∧ b ∉ fs := by
  have e' : h.get? b = some o := PySem.W.of_hideAll (trk h H ++ fs) e
  have nm : b ∉ trk h H ++ fs := fun z => by
    have q : (gr h H fs).get? b = none := PySem.W.hideAll_none _ z
    rw [q] at e
    cases e
  refine ⟨e', no_of_nn fun z => nm (List.mem_append_left _ (List.mem_filter.mpr ⟨List.mem_range.mpr (Heap.lt_size e'), ?_⟩)), fun z => nm (List.mem_append_right _ z)⟩
  obtain ⟨u, q⟩ := some_of_nn z
  rw [q]
  rfl
theorem gr_base (I : Inv X pins σ H s) {b : Addr} {o : Obj} (e : X.base.get? b = some o) : (gr s.heap H (frs X.stack)).get? b = some o := by
  obtain ⟨h1, h2⟩ := I.bs b o e
  refine gr_get h1 h2 fun z => ?_
  have q := (I.stack.mem (List.mem_filterMap.mpr (List.mem_filterMap.mp z))).1
  rw [q] at e
  cases e
theorem funs_gr {h g base : Heap} : ∀ {l : List Env}, (∀ b ∈ frs l, g.get? b = none) → h.FunFrames base l → h.FunFrames g l
  | [], _, _ => True.intro
  | env :: rest, hn, ⟨h1, ⟨L, o, h2, h3, h4, h5⟩, h6⟩ => by
    have key : ∀ b, env.frame = some b → b ∈ frs (env :: rest) := fun b e => List.mem_filterMap.mpr ⟨env, List.mem_cons_self, e⟩
    exact ⟨h1, ⟨L, o, h2, hn L (key L h2), h4, h5⟩, funs_gr (fun b hb => hn b (by
      obtain ⟨e, he, q⟩ := List.mem_filterMap.mp hb
      exact List.mem_filterMap.mpr ⟨e, List.mem_cons_of_mem _ he, q⟩)) h6⟩
theorem mod_gr (I : Inv X pins σ H s) : L2.Mod X.K X.mg (gr s.heap H (frs X.stack)) := by
  have up : ∀ {a : Addr} {m : Str → Option Value}, X.base.Ns a m → (gr s.heap H (frs X.stack)).Ns a m := fun {a m} h => by
    obtain ⟨o, es, ep, e, d, r⟩ := h
    exact ⟨o, es, ep, gr_base I e, d, r⟩
  obtain ⟨k, g, ⟨mb, b1, b2⟩, l⟩ := I.mod
  obtain ⟨mc, l1, l2⟩ := l
  exact ⟨fun b o e => gr_base I (k b o e), up g, ⟨mb, up b1, b2⟩, ⟨mc, up l1, l2⟩⟩
theorem env_gr (I : Inv X pins σ H s) : Env0 X.prog X.w X.K X.mg (gr s.heap H (frs X.stack)) X.A X.stack s H := by
  have e0 := I.env0
  refine ⟨e0.frames, mod_gr I, fun b o e => ⟨(of_gr e).1, (of_gr e).2.1⟩, Nat.le_of_eq (PySem.W.hideAll_size _ _), funs_gr (fun b hb => PySem.W.hideAll_none _ (List.mem_append_right _ hb)) e0.funs, e0.frf, e0.hok, e0.bare⟩
end
end DL
/-! DLO: lambdas without parameters: made, called elsewhere -/
namespace DL
open PySem PySem.Spec PyProof.Rows L2 LamX
/-- a lambda's function object -/
def LamV (q : Str) (pa : Arguments) (bo : Expr) (sc : Scope) (cl : List (Str × Addr)) (dV : Value) (f c : Addr) : HO := .ext fun h => ∃ doc pm ctv, h.get? f = some (PySem.W.kdv_obj "<lambda>" q pa (.expr bo) sc cl dV doc pm c ctv)
structure LamSyn where
  pa : Arguments
  bo : Expr
  sc : Scope
/-- the one default of a lambda -/
def LamSyn.df (l : LamSyn) : Option Int := match l.pa.defaults with
  | [.Constant (.int i) _ _] => some i
  | _ => none
def dfV (d : Option Int) (t : Addr) : Value := match d with
  | none => .none
  | some _ => .ref t
abbrev LamO (q : Str) (l : LamSyn) (cl : List (Str × Addr)) (f c t : Addr) : HO := LamV q l.pa l.bo l.sc cl (dfV l.df t) f c
/-- the scope of a lambda within sc, whose def's names are N -/
structure LamT (N : List Str) (sc scope : Scope) : Prop where
  kind : scope.kind = .function
  co : scope.isCoroutine = false
  gen : scope.isGenerator = false
  own : ∀ y ∈ scope.names, y.2 ≠ .cell
  loc : ∀ y ∈ scope.names, y.2 = .local → y.1 ∉ N
  free : ∀ y ∈ scope.names, y.2 = .free → sc.names.lookup y.1 = some .cell ∨ sc.names.lookup y.1 = some .free
def lamTB (N : List Str) (sc scope : Scope) : Bool := decide (scope.kind = .function) && (!scope.isCoroutine && (!scope.isGenerator && scope.names.all fun y => !decide (y.2 = .cell) && ((!decide (y.2 = .local) || !N.contains y.1) && (!decide (y.2 = .free) || decide (sc.names.lookup y.1 = some .cell) || decide (sc.names.lookup y.1 = some .free)))))
theorem lamT_by {N : List Str} {sc scope : Scope} (h : lamTB N sc scope = true) : LamT N sc scope := by
  unfold lamTB at h
  simp only [Bool.and_eq_true, Bool.or_eq_true, Bool.not_eq_true', decide_eq_true_eq, decide_eq_false_iff_not, List.all_eq_true] at h
  obtain ⟨h1, h2, h3, h4⟩ := h
  refine ⟨h1, h2, h3, fun y hy => (h4 y hy).1, fun y hy e m => ?_, fun y hy e => ?_⟩
  · rcases (h4 y hy).2.1 with z | z
    · exact z e
    · have q : N.contains y.1 = true := by simpa using m
      rw [z] at q
      cases q
  · rcases (h4 y hy).2.2 with (z | z) | z
    · exact absurd e z
    · exact .inl z
    · exact .inr z
theorem LamT.has {X : Cx} {N : List Str} {scope : Scope} (L : LamT N X.env.scope scope) (ok : X.Ok) : ∀ y ∈ scope.names, y.2 = .free → ∃ c, X.env.cells.lookup y.1 = some c := fun y hy e => ok.has _ (L.free y hy e)
/-- what is asked of a lambda's text -/
structure LamOk (N : List Str) (sc0 : Scope) (l : LamSyn) : Prop where
  t : LamT N sc0 l.sc
  b : (l.df = none ∧ (∀ env, defaultsOf l.pa env = ([], [])) ∧ ∀ (q : Str) (cl : List (Str × Addr)) (doc pm cv ctv : Value), bindArgs (PySem.W.kdv_fn "<lambda>" q l.pa (.expr l.bo) l.sc cl .none doc pm cv ctv) ⟨[], []⟩ = pure []) ∨
    ∃ (i : Int) (y : Str) (k : Nat) (p : Pos), l.df = some i ∧ l.sc.names.lookup y = some .local ∧ l.pa.kwonlyargs = [] ∧ (∀ env, defaultsOf l.pa env = ([eval (.Constant (.int i) k p) env], [])) ∧
      ∀ (q : Str) (cl : List (Str × Addr)) (T : Addr) (doc pm cv ctv : Value), ∃ kk, bindArgs (PySem.W.kdv_fn "<lambda>" q l.pa (.expr l.bo) l.sc cl (.ref T) doc pm cv ctv) ⟨[], []⟩ = seqItems? (.ref T) >>= kk ∧ ∀ v, kk (some #[v]) = pure [(y, v)]
/-- the lambdas ls of a frame with these cells -/
def loM (q : Str) (cells : List (Str × Addr)) (ls : List LamSyn) : CloM := ⟨fun n f c t => match ls[n]? with
  | some l => LamO q l (cloFrom cells l.sc.names []) f c t
  | none => .own f, q, fun n => (ls[n]?).bind LamSyn.df⟩
theorem loM_at {q : Str} {cells : List (Str × Addr)} {ls : List LamSyn} {n : Nat} {l : LamSyn} (h : ls[n]? = some l) (f c t : Addr) : (loM q cells ls).ho n f c t = LamO q l (cloFrom cells l.sc.names []) f c t := by
  unfold loM
  dsimp only
  rw [h]
theorem loM_df {q : Str} {cells : List (Str × Addr)} {ls : List LamSyn} {n : Nat} {l : LamSyn} (h : ls[n]? = some l) : (loM q cells ls).df n = l.df := by
  unfold loM
  dsimp only
  rw [h]
  rfl
/-- on this ground the lambdas of M answer cc -/
structure CCb (P : Program) (w : World) (K : PySem.W.Frag) (mg : Str → Option Value) (base : Heap) (Z : Eff) (k : Nat) (M : CloM) (cc : Nat → Z.G → Out Z.G SV) : Prop where
  run : ∀ (n : Nat) (f c t : Addr) (A : Around) (outer : List Env) (s : Shared) (H S F : Hp) (g : Z.G) (Q : VK) (E : XK), Room (k + 1) A → Env0 P w K mg base A outer s H → Inn S F nil H → S f = some (M.ho n f c t) → S c = some (CodeO c M.q) → (∀ i, M.df n = some i → S t = some (.tup [.int i])) → Z.R g S F →
    post (okQ Z rV S F nil H Q) (erF Z mg E S F H) (cc n g) → PySem.W.FnAt f s.heap ∧ codeAny (model P w) A (.call (.ref f) ⟨[], []⟩) (CR (L2.CX P w) outer P w H s Q E) s
theorem post_some {G α : Type} {A : α → G → Prop} {E : Exc → G → Prop} {o : Out G α} (h : post A E o) : o ≠ .bad := fun e => by rw [e] at h; exact h
/-- the i-th slot's lambda is called -/
noncomputable def fClo {G : Type} (M : CloM) (i : Nat) (cc : Nat → G → Out G SV) : DSt → G → Out G SV := fun sd g => match sd[i]? with
  | some (some (.fr (.clo n M'))) => @ite _ (M' = M) (Classical.propDecidable _) (cc n g) .bad
  | _ => .bad
section
variable {X : Cx} {Z : Eff} {W : WX}
theorem de_clo {x : Str} {i k : Nat} {p p2 : Pos} {M : CloM} {cc : Nat → Z.G → Out Z.G SV} (C : CCb X.prog X.w X.K X.mg X.base Z k M cc) (hr : Room (k + 1) X.A) (tk : Takes X W) (hN : X.N[i]? = some x := by rfl) (hv : Vis X.env.scope x := by first | exact Or.inl rfl | exact Or.inr (Or.inl rfl) | exact Or.inr (Or.inr rfl))
    (hd : (x == ("__debug__" : Str)) = false := by decide) (hcd : (x == ("__classdict__" : Str)) = false := by decide) : DE X Z W (.Call (.Name x p) [] [] p2) (fClo M i cc) := ⟨fun pins s σ H Q I q => by
  obtain ⟨S, F, O, sd, g, i0, r, hR, hp⟩ := q
  unfold fClo at hp
  split at hp
  case h_2 => exact hp.elim
  rename_i n M' e
  split at hp
  case isFalse => exact hp.elim
  rename_i hM
  subst hM
  obtain ⟨v, hσ, rv⟩ := r.fr i _ e
  have hf : ∃ f c t, v = .ref f ∧ S f = some (M'.ho n f c t) ∧ S c = some (CodeO c M'.q) ∧ ∀ i, M'.df n = some i → S t = some (.tup [.int i]) := by
    cases rv with
    | clo h1 h2 h3 => exact ⟨_, _, _, rfl, h1, h2, h3⟩
    | «at» h1 h2 => cases h2
  obtain ⟨f, c, t, rfl, hf, hc, hdf⟩ := hf
  refine wpAny_Call_Name_kw (thn ((pe_var (pos := p) (i := i) hN hv hd hcd).run pins s σ H (fun v H1 => v = .ref f ∧ H1 = H) I ⟨.ref f, hσ, rfl, rfl⟩) fun u s1 hu => ?_)
  obtain ⟨v1, H1, I1, r1, ev, eH⟩ := hu
  subst ev
  rw [eH] at I1
  obtain rfl : u = Value.ref f := r1
  obtain ⟨fa, run⟩ := C.run n f c t X.A X.stack s1 H S F g Q (WE W σ) hr I1.env0 i0.low hf hc hdf hR
    (post_mono hp (fun x g' q v S' F' H' st hR' rv => q v S' F' H' (Stp.back i0 st) hR' (rV_back i0 st rv)) fun x g' q cls dx S' F' H' st hR' ex => q cls dx S' F' H' (Stp.back i0 st) hR' ex)
  refine PySem.W.callWith_F0 fa (wpAny_call (codeAny_mono run fun r s' hq => ?_))
  cases r with
  | error er => exact passAt tk σ pins H s1 er s' I1 hq
  | ok fl =>
    cases fl with
    | ret u => exact I1.after hq
    | next => exact hq.elim
    | brk => exact hq.elim
    | cont => exact hq.elim⟩
end
/-! ### the frame's lambdas on the new ground -/
/-- X over another ground -/
def rb (X : Cx) (b : Heap) : Cx := { X with base := b }
/-- what a lambda's body is derived in -/
abbrev lamX (X : Cx) (b : Heap) (A : Around) (outer : List Env) (s : Shared) (H : Hp) (E : XK) (sc : Scope) (f c : Addr) : Cx := lamCx (rb X b) A outer s H E sc f c
section
variable {X : Cx} {pins : List (Addr × Obj)} {σ : L2.St} {H : Hp} {s : Shared}
theorem clo_cell {sc : Scope} (I : Inv X pins σ H s) (L : LamT X.N X.env.scope sc) {y : Str} {c : Addr} (e : (cloFrom X.env.cells sc.names []).lookup y = some c) : X.env.cells.lookup y = some c := by
  rcases cloFrom_mem (PySem.mem_of_lookup e) with h | ⟨h1, h2⟩
  · cases h
  · obtain ⟨d, hd⟩ := L.has I.ok _ h1 rfl
    have hd : X.env.cells.lookup y = some d := hd
    rw [hd] at h2 ⊢
    rw [h2]
    rfl
theorem cell_gr (I : Inv X pins σ H s) (hfn : ∀ y, X.fn y = true) (hst : X.stack = X.env :: X.outer) (hfr : X.env.frame = some X.env.locals) {y : Str} {c : Addr} (e : X.env.cells.lookup y = some c) {o : Obj} (ho : s.heap.get? c = some o) : (gr s.heap H (frs X.stack)).get? c = some o := by
  refine gr_get ho (I.freeC y c e) fun z => ?_
  rw [hst] at z
  obtain ⟨env, hm, hf⟩ := List.mem_filterMap.mp z
  rcases List.mem_cons.mp hm with h | h
  · rw [h, hfr] at hf
    cases hf
    exact I.cne y _ e rfl
  · have q := I.ok.funs.mem (List.mem_filterMap.mpr ⟨env, h, hf⟩)
    obtain ⟨_, u, hu, _⟩ := q
    exact absurd (Nat.lt_of_lt_of_le (Heap.lt_size hu) (I.ok.cab y c (hfn y) e)) (Nat.lt_irrefl _)
/-- within the lambda's frame -/
theorem lam_in {A : Around} {outer : List Env} {E : XK} {sc : Scope} {f c : Addr} {s1 : Shared} {H1 : Hp} {h1 : Heap} {tk : Nat} {binds : List (Str × Value)} (I : Inv X pins σ H s) (hfn : ∀ y, X.fn y = true) (hst : X.stack = X.env :: X.outer) (hfr : X.env.frame = some X.env.locals) (L : LamT X.N X.env.scope sc)
    (e0 : Env0 X.prog X.w X.K X.mg (gr s.heap H (frs X.stack)) A outer s1 H1) (hd : A.handled = none) (hns : h1.Ns s1.heap.objs.size fun y => binds.reverse.lookup y) (kp : ∀ b o, s1.heap.get? b = some o → h1.get? b = some o) :
    Inv (lamX X (gr s.heap H (frs X.stack)) A outer s1 H1 E sc f c) [] σ H1 { s1 with heap := h1, toks := tk } := by
  have cw : ∀ {y : Str} {d : Addr}, X.env.cells.lookup y = some d → ∀ {v : Option Value}, s.heap.IsCell d v → h1.IsCell d v ∧ H1 d = none := fun {y d} e {v} h => by
    obtain ⟨o, ho, hv⟩ := h
    obtain ⟨q1, q2⟩ := e0.bs d o (cell_gr I hfn hst hfr e ho)
    exact ⟨⟨o, kp d o q1, hv⟩, q2⟩
  have fnd : ∀ {y : Str}, sc.names.lookup y = some .free → ∃ d, (cloFrom X.env.cells sc.names []).lookup y = some d := fun {y} h => mem_lookup (cloFrom_has (cells := X.env.cells) (acc := []) (PySem.mem_of_lookup h))
  have no : ∀ b : Addr, b ∉ (lamX X (gr s.heap H (frs X.stack)) A outer s1 H1 E sc f c).ex := fun b z => List.not_mem_nil (show b ∈ ([] : List Addr) from z)
  constructor
  case ok =>
    constructor
    case mod => exact e0.mod
    case kind => exact L.kind
    case glob => rfl
    case blt => rfl
    case above => exact Nat.le_refl _
    case inj => exact fun y z d e1 e2 => I.ok.inj y z d (clo_cell I L e1) (clo_cell I L e2)
    case has =>
      intro y hy
      have hy : sc.names.lookup y = some .cell ∨ sc.names.lookup y = some .free := hy
      rcases hy with h | h
      · exact absurd rfl (L.own _ (PySem.mem_of_lookup h))
      · exact fnd h
    case cab => exact fun y d z _ => nomatch (show false = true from z)
    case hd => exact fun _ => hd
    case frames => exact Around.frames_deeper e0.frames
    case stk => exact .inr ⟨rfl, rfl⟩
    case exf => exact fun b z => absurd z (no b)
    case bs => exact e0.bs
    case bsz => exact e0.bsz
    case noex => exact fun b _ _ => no b
    case exfs => exact fun b z => absurd z (no b)
    case funs => exact e0.funs
    case frf => exact e0.frf
  case os => rfl
  case bare => exact e0.bare
  case base => exact Un.kept kp
  case loc =>
    refine ⟨_, hns, fun i y v h1' h2 h3 => ?_⟩
    have h3 : Vis sc y := h3
    rcases h3 with h | h | h
    · exact absurd (List.mem_of_getElem? h1') (L.loc _ (PySem.mem_of_lookup h) rfl)
    · exact absurd rfl (L.own _ (PySem.mem_of_lookup h))
    · obtain ⟨m, hn, hl⟩ := I.loc
      have lf := L.free _ (PySem.mem_of_lookup h) rfl
      obtain ⟨u, ru, q⟩ := hl i y v h1' h2 (lf.elim (fun z => .inr (.inl z)) fun z => .inr (.inr z))
      obtain ⟨d, hd2⟩ := fnd h
      have hd3 := clo_cell I L hd2
      refine ⟨u, ru, .inr ⟨.inr h, d, hd2, ?_⟩⟩
      rcases q with ⟨z, _⟩ | ⟨_, d2, z, hz⟩
      · have z : X.env.scope.names.lookup y = some .local := z
        rcases lf with lf | lf
        · have lf : X.env.scope.names.lookup y = some .cell := lf
          rw [z] at lf; cases lf
        · have lf : X.env.scope.names.lookup y = some .free := lf
          rw [z] at lf; cases lf
      · rw [hd3] at z
        cases z
        exact (cw hd3 hz).1
  case cell =>
    intro y d e
    obtain ⟨u, h⟩ := I.cell y d (clo_cell I L e)
    exact ⟨u, (cw (clo_cell I L e) h).1⟩
  case free => exact e0.hok.fresh (Nat.le_refl _)
  case freeC =>
    intro y d e
    obtain ⟨u, h⟩ := I.cell y d (clo_cell I L e)
    exact (cw (clo_cell I L e) h).2
  case pin => exact fun q hq => absurd (show q ∈ ([] : List (Addr × Obj)) ++ [] from hq) (by simp)
  case hok => exact e0.hok.kept kp
  case len => exact I.len
/-- slots that stand for good alone -/
def frOnly (sd : DSt) : DSt := sd.map fun x => match x with
  | some (.fr d) => some (.fr d)
  | _ => none
theorem frOnly_rps {S O : Hp} {sd : DSt} (r : RpS S O σ sd) : RpS S nil σ (frOnly sd) := by
  have key : ∀ {i : Nat} {x : SV}, (frOnly sd)[i]? = some (some x) → ∃ d, x = .fr d ∧ sd[i]? = some (some (.fr d)) := fun {i x} h => by
    unfold frOnly at h
    rw [List.getElem?_map] at h
    cases e : sd[i]? with
    | none => rw [e] at h; cases h
    | some y =>
      rw [e] at h
      cases y with
      | none => cases h
      | some z =>
        cases z with
        | fr d => cases h; exact ⟨d, rfl, rfl⟩
        | ow d => cases h
        | bo d => cases h
  refine ⟨by unfold frOnly; rw [List.length_map]; exact r.len, fun i d h => ?_, fun i d h => ?_, fun i j d e p h _ _ _ => ?_, fun i d h => ?_⟩
  · obtain ⟨d', e1, e2⟩ := key h
    cases e1
    exact r.fr i d e2
  · obtain ⟨d', e1, _⟩ := key h; cases e1
  · obtain ⟨d', e1, _⟩ := key h; cases e1
  · obtain ⟨d', e1, _⟩ := key h; cases e1
/-- Z's effects while what stands now stands on -/
def ZS (Z : Eff) (S0 : Hp) : Eff := exZ Z (fun S F => F = nil ∧ Same S0 S) fun S S' F e h => ⟨h.1, h.2.trans e⟩
theorem join_nil {F : Hp} : join F nil = F := funext fun a => by
  unfold join
  cases F a <;> rfl
theorem zs_r {Z : Eff} {S0 S F : Hp} {g : Z.G} (h : (ZS Z S0).R g S F) : Z.R g S F ∧ Same S0 S := by
  obtain ⟨F1, F2, e, _, h1, h2, h3⟩ := h
  subst h2
  rw [join_nil] at e
  rw [e]
  exact ⟨h1, h3⟩
theorem zs_of {Z : Eff} {S0 S F : Hp} {g : Z.G} (h : Z.R g S F) (e : Same S0 S) : (ZS Z S0).R g S F := ⟨F, nil, join_nil.symm, fun _ _ => rfl, h, rfl, e⟩
theorem lam_scope {q : Str} {cl : List (Str × Addr)} {pa : Arguments} {bo : Expr} {sc : Scope} {dV : Value} {f c : Addr} {P : Program} {w : World} {H : Hp} {h : Heap} (hok : HOk P w H h) (e : H f = some (LamV q pa bo sc cl dV f c)) : ∃ doc pm ctv, h.get? f = some (PySem.W.kdv_obj "<lambda>" q pa (.expr bo) sc cl dV doc pm c ctv) := by
  have x : ObjOk P w H h f (.ext fun h => ∃ doc pm ctv, h.get? f = some (PySem.W.kdv_obj "<lambda>" q pa (.expr bo) sc cl dV doc pm c ctv)) := hok f _ e
  exact x.1
/-- the lambdas ls, called from now on on the ground of now -/
theorem cc_of {Z : Eff} {k : Nat} {ls : List LamSyn} {lr : Nat → DSt → Z.G → Out Z.G SV} {S0 O0 : Hp} {sd : DSt} (I : Inv X pins σ H s) (hfn : ∀ y, X.fn y = true) (hst : X.stack = X.env :: X.outer) (hfr : X.env.frame = some X.env.locals) (r0 : RpS S0 O0 σ sd)
    (hL : ∀ (n : Nat) (l : LamSyn), ls[n]? = some l → LamOk X.N X.env.scope l)
    (hb : ∀ (n : Nat) (l : LamSyn) (A : Around) (outer : List Env) (s1 : Shared) (H1 : Hp) (E : XK) (f c : Addr), ls[n]? = some l → Room k (A.deeper (lamEnv X l.sc s1.heap.objs.size f c)) → DE (lamX X (gr s.heap H (frs X.stack)) A outer s1 H1 E l.sc f c) Z (WD E) l.bo (lr n)) (h0 : ∀ (n : Nat), ls[n]? = none → ∀ sd g, lr n sd g = .bad) :
    CCb X.prog X.w X.K X.mg (gr s.heap H (frs X.stack)) (ZS Z S0) k (loM (X.env.qual ++ "<lambda>") X.env.cells ls) (fun n g => (lr n (frOnly sd) g).bind fun x g' => .ok (ownR x) g') := ⟨fun n f c t A outer s1 H1 S F g Q E hr e0 i0 hf hc hdf hR hp => by
  cases en : ls[n]? with
  | none =>
    have z : ∀ o : Out Z.G SV, o = .bad → post (okQ (ZS Z S0) rV S F nil H1 Q) (erF (ZS Z S0) X.mg E S F H1) (o.bind fun x g' => .ok (ownR x) g') → False := fun o e h => by
      subst e
      exact h
    exact (z _ (h0 n en _ _) hp).elim
  | some l =>
    obtain ⟨L, hbi⟩ := hL n l en
    rw [loM_at en] at hf
    rw [loM_df en] at hdf
    obtain ⟨doc, pm, ctv, of⟩ := lam_scope e0.hok (i0.s _ _ hf)
    obtain ⟨hZ, hS⟩ := zs_r hR
    obtain ⟨⟨oc, vs, t1, hoc, hdc, hvc⟩, _, _⟩ := (e0.hok c _ (i0.s _ _ hc) : ObjOk _ _ _ _ c (CodeO c _))
    have bi : ∃ binds : List (Str × Value), BindsTo s1 (PySem.W.kdv_fn "<lambda>" (X.env.qual ++ "<lambda>") l.pa (.expr l.bo) l.sc (cloFrom X.env.cells l.sc.names []) (dfV l.df t) doc pm (.ref c) ctv) ⟨[], []⟩ binds ∧ ∀ y ∈ binds, l.sc.names.lookup y.1 = some .local := by
      rcases hbi with ⟨d1, _, d3⟩ | ⟨i, y, k, p, d1, d2, _, _, d4⟩
      · refine ⟨[], .of_eq ?_, fun y hy => absurd hy (by simp)⟩
        rw [d1]
        exact d3 _ _ _ _ _ _
      · have ht : ObjOk _ _ _ _ t (.tup [.int i]) := e0.hok t _ (i0.s _ _ (hdf i d1))
        obtain ⟨_, its, rv, o, ho, _, m, hm⟩ := ht
        obtain ⟨u, rfl, _⟩ := rv.one
        obtain ⟨kk, k1, k2⟩ := d4 (X.env.qual ++ "<lambda>") (cloFrom X.env.cells l.sc.names []) t doc pm (.ref c) ctv
        rw [d1]
        exact ⟨[(y, u)], .of_defaults rfl ho hm k1 (k2 u), fun z hz => by
          obtain rfl := List.mem_singleton.mp hz
          exact d2⟩
    obtain ⟨binds, bi, bl⟩ := bi
    refine ⟨⟨_, _, _, _, of⟩, ?_⟩
    refine PySem.W.kla_callFunE hr.depth of rfl L.co L.gen rfl ⟨c, oc, vs, t1, rfl, hoc, hdc, hvc⟩ (bi _ _ _ _ ?_)
    have nl : s1.heap.NoLimit := e0.mod.nolimit.keeps fun b o e => (e0.bs b o e).1
    refine wpAny_newFunctionEnv (fun y hy => L.own y hy) bl (fun h1 hns hsb => ⟨nl.fresh _ hsb, ?_⟩) L.kind
    have kp : ∀ b o, s1.heap.get? b = some o → h1.get? b = some o := fun b o e => hsb.extBut b o (Nat.ne_of_lt (Heap.lt_size e)) (Heap.get?_push_of_some _ e)
    have J := lam_in (E := E) (f := f) (c := c) (tk := s1.toks + binds.length) I hfn hst hfr L e0 hr.hd hns kp
    have B := hb n l A outer s1 H1 E f c en (hr.deeper _)
    have rs := (frOnly_rps r0).mono hS
    refine PySem.W.kla_codeExpr (wpAny_mono (B.run [] _ σ H1 Q J ⟨S, F, nil, frOnly sd, g, i0, rs, hZ, ?_⟩) (fun v s' hq => ?_) fun e s' hq => hq)
    · refine post_mono (post_bind.mp hp) (fun x g' q v S' F' H' st hR' rv => ?_) fun x g' q cls dx S' F' H' st hR' ex => q cls dx S' F' H' st (zs_of hR' (hS.trans st.ss)) ex
      have q : okQ (ZS Z S0) rV S F nil H1 Q (ownR x) g' := q
      exact q v S' F' H' st (zs_of hR' (hS.trans st.ss)) (rV_ret st rv)
    · obtain ⟨v', H', J', rv, q⟩ := hq
      exact ⟨v', H', J'.os, J'.bare, J'.base, J'.hok, rv, q⟩⟩
end
end DL
/-! DLP: lambdas made; defs that are handed lambdas called -/
namespace DL
open PySem PySem.Spec PyProof.Rows L2 LamX
/-- the table at P beside other effects -/
def TabE (P : Addr) (q : Str) (S F : Hp) : Prop := ∃ ps : Array Value, F = one P (.tbl ps) ∧ TriplesOk ps.toList ∧ ∀ (pos : Pos) (cv : Value), codeAmong pos ps.toList = some cv → ∃ c, cv = .ref c ∧ S c = some (CodeO c q)
theorem tabE_mono (P : Addr) (q : Str) : ∀ S S' F, Same S S' → TabE P q S F → TabE P q S' F := fun S S' F e ⟨ps, h1, h2, h3⟩ => ⟨ps, h1, h2, fun pos cv h => by
  obtain ⟨c, e1, e2⟩ := h3 pos cv h
  exact ⟨c, e1, e _ _ e2⟩⟩
/-- Z, and the table -/
abbrev genT (Z : Eff) (P : Addr) (q : Str) : Eff := exZ Z (TabE P q) (tabE_mono P q)
section
variable {X : Cx} {pins : List (Addr × Obj)} {σ : L2.St} {H : Hp} {s : Shared}
theorem lamO_ok {q : Str} {pa : Arguments} {bo : Expr} {sc : Scope} {cl : List (Str × Addr)} {dV : Value} {f c : Addr} {P : Program} {w : World} {H : Hp} {h : Heap} {doc pm ctv : Value} (e : h.get? f = some (PySem.W.kdv_obj "<lambda>" q pa (.expr bo) sc cl dV doc pm c ctv)) : ObjOk P w H h f (LamV q pa bo sc cl dV f c) :=
  ⟨⟨doc, pm, ctv, e⟩, ⟨_, e⟩, fun h1 h2 ⟨doc, pm, ctv, z⟩ st => ⟨doc, pm, ctv, st _ z⟩⟩
/-- a lambda is made, its default at hand -/
theorem lam_tail {c P : Addr} {ps : Array Value} {pa : Arguments} {bo : Expr} {sc : Scope} {dV : Value} {pos : Pos} {n : Nat} {E : Value → Shared → Prop} {Q : Value → Shared → Prop} (I : Inv X pins σ H s) (TB : TabB X.base X.mg c P) (hcode : X.env.code = .ref c) (hP : H P = some (.tbl ps)) (ht : TriplesOk ps.toList)
    (ha : ∀ cv, codeAmong pos ps.toList = some cv → ∃ d, cv = .ref d ∧ H d = some (CodeO d (X.env.qual ++ "<lambda>"))) (L : LamT X.N X.env.scope sc)
    (new : codeAmong pos ps.toList = none → ∀ (f d : Addr) (s' : Shared), H d = none → H f = none → f ≠ d → f ≠ P → d ≠ P → Inv X pins σ (upd (upd (upd H P (.tbl (ps ++ #[rawInt pos.line, rawInt pos.col, .ref d]))) d (CodeO d (X.env.qual ++ "<lambda>"))) f (LamV (X.env.qual ++ "<lambda>") pa bo sc (cloFrom X.env.cells sc.names []) dV f d)) s' → Q (.ref f) s')
    (old : ∀ (f d : Addr) (s' : Shared), codeAmong pos ps.toList = some (.ref d) → H f = none → Inv X pins σ (upd H f (LamV (X.env.qual ++ "<lambda>") pa bo sc (cloFrom X.env.cells sc.names []) dV f d)) s' → Q (.ref f) s') :
    wpAny (model X.prog X.w) X.A (makeTail "<lambda>" (X.env.qual ++ "<lambda>") pa (.expr bo) sc X.env dV .none none pos n) Q E s := by
  have bP := TB.bm.keeps I.bk
  have oP : s.heap.get? P = some { cls := .none, data := .fields ps } := I.hok P _ hP
  cases hc : codeAmong pos ps.toList with
  | none =>
    refine PySem.W.kdv_makeTail (ps := ps) (P := P) (c := c) (mg := X.mg) (closure_ok (L.has I.ok)) I.ok.glob (I.mod.glob.keeps I.bk) hcode (TB.code.keeps I.bk) oP ht hc TB.gP bP fun d ctv doc h' tk kx ge lt rec tb => ?_
    obtain ⟨d2, od, vs, t, e2, hod, hdd, hvv⟩ := rec
    cases e2
    have I1 := inv_table (t' := tk) (more := #[rawInt pos.line, rawInt pos.col, .ref d]) (h' := h') (q := X.env.qual ++ "<lambda>") I hP kx tb ge ⟨od, vs, t, hod, hdd, hvv⟩
    have nd : H d = none := I.hok.fresh ge
    have sz : s.heap.objs.size ≤ h'.objs.size := Nat.le_of_lt (Nat.lt_of_le_of_lt ge lt)
    have nf : H h'.objs.size = none := I.hok.fresh sz
    have fd : h'.objs.size ≠ d := Nat.ne_of_gt lt
    have fP : h'.objs.size ≠ P := fun z => by
      rw [z, hP] at nf
      cases nf
    have dP : d ≠ P := fun z => by
      rw [z, hP] at nd
      cases nd
    have I2 := I1.laid (t' := tk) (a := h'.objs.size) (o := LamV (X.env.qual ++ "<lambda>") pa bo sc (cloFrom X.env.cells sc.names []) dV h'.objs.size d) (h' := h'.push (PySem.W.kdv_obj "<lambda>" (X.env.qual ++ "<lambda>") pa (.expr bo) sc (cloFrom X.env.cells sc.names []) dV doc ((X.mg "__name__").getD .none) d ctv))
      (fun b u q => Heap.get?_push_of_some _ q) (Nat.le_refl _) (lamO_ok (Heap.get?_push_size _ rfl))
    exact new hc _ d _ nd nf fd fP dP I2
  | some cv =>
    obtain ⟨d, e, hd⟩ := ha cv hc
    subst e
    refine PySem.W.kdv_makeTailHit (ps := ps) (P := P) (c := c) (mg := X.mg) (closure_ok (L.has I.ok)) I.ok.glob (I.mod.glob.keeps I.bk) hcode (TB.code.keeps I.bk) oP ht hc bP fun ctv doc h' tk kx sz => ?_
    have I2 := I.laid (t' := tk) (a := h'.objs.size) (o := LamV (X.env.qual ++ "<lambda>") pa bo sc (cloFrom X.env.cells sc.names []) dV h'.objs.size d) (h' := h'.push (PySem.W.kdv_obj "<lambda>" (X.env.qual ++ "<lambda>") pa (.expr bo) sc (cloFrom X.env.cells sc.names []) dV doc ((X.mg "__name__").getD .none) d ctv))
      (fun b u q => Heap.get?_push_of_some _ (kx b u q)) sz (lamO_ok (Heap.get?_push_size _ rfl))
    exact old _ d _ hc (I.hok.fresh sz) I2
end
theorem join_upd {F1 : Hp} {P : Addr} {o o' : HO} (h : F1 P = none) : upd (join F1 (one P o)) P o' = join F1 (one P o') := funext fun a => by
  by_cases e : a = P
  · subst e
    rw [upd_same, join_r h, one_same]
  · rw [upd_ne e]
    unfold join
    cases F1 a with
    | some u => rfl
    | none =>
      show one P o a = one P o' a
      unfold one
      rw [upd_ne e, upd_ne e]
section
variable {X : Cx} {Z : Eff} {W : WX}
/-- lambda: .., lambda x=0: .. -/
theorem de_lam {c P : Addr} {n : Nat} {ls : List LamSyn} {pa : Arguments} {bo : Expr} {sc : Scope} {pos : Pos} (TB : TabB X.base X.mg c P) (hcode : X.env.code = .ref c) (hn : ls[n]? = some ⟨pa, bo, sc⟩) (LO : LamOk X.N X.env.scope ⟨pa, bo, sc⟩) :
    DE X (genT Z P (X.env.qual ++ "<lambda>")) W (.Lambda pa bo sc pos) (fC (.clo n (loM (X.env.qual ++ "<lambda>") X.env.cells ls))) := ⟨fun pins s σ H Q I q => by
  obtain ⟨S, F, O, sd, g, i0, r, hR, hp⟩ := q
  obtain ⟨L, hbi⟩ := LO
  have L : LamT X.N X.env.scope sc := L
  have hR0 := hR
  obtain ⟨F1, F2, hF, ap, hZ, ps, hF2, ht, hcs⟩ := hR
  subst hF2
  have f1P : F1 P = none := no_of_nn fun z => by
    have := ap P z
    rw [one_same] at this
    cases this
  have fP : F P = some (.tbl ps) := by rw [hF, join_r f1P, one_same]
  have hq : okQ (genT Z P (X.env.qual ++ "<lambda>")) rV S F O H Q (.fr (.clo n (loM (X.env.qual ++ "<lambda>") X.env.cells ls))) g := hp
  have ho : ∀ f d t, (loM (X.env.qual ++ "<lambda>") X.env.cells ls).ho n f d t = LamV (X.env.qual ++ "<lambda>") pa bo sc (cloFrom X.env.cells sc.names []) (dfV (LamSyn.df ⟨pa, bo, sc⟩) t) f d := fun f d t => loM_at hn f d t
  have hdf : (loM (X.env.qual ++ "<lambda>") X.env.cells ls).df n = LamSyn.df ⟨pa, bo, sc⟩ := loM_df hn
  have key : ∀ (s1 : Shared) (S1 H1 : Hp) (t : Addr), Inv X pins σ H1 s1 → Stp S F O H S1 F O H1 → (∀ i, LamSyn.df ⟨pa, bo, sc⟩ = some i → S1 t = some (.tup [.int i])) →
      wpAny (model X.prog X.w) X.A (makeTail "<lambda>" (X.env.qual ++ "<lambda>") pa (.expr bo) sc X.env (dfV (LamSyn.df ⟨pa, bo, sc⟩) t) .none none pos pos.line) (EP X pins σ Q) X.xe s1 := fun s1 S1 H1 t I1 st0 hdt => by
    have j0 := st0.inn
    have hP : H1 P = some (.tbl ps) := j0.f _ _ fP
    refine lam_tail I1 TB hcode hP ht (fun cv hc => ?_) L (fun hc f d s' nd nf fd fP' dP I' => ?_) (fun f d s' hc nf I' => ?_)
    · obtain ⟨d, e, h⟩ := hcs pos cv hc
      exact ⟨d, e, j0.s _ _ (st0.ss _ _ h)⟩
    · have st1 := Stp.writeF (o' := .tbl (ps ++ #[rawInt pos.line, rawInt pos.col, .ref d])) j0 fP
      have n1 : upd H1 P (.tbl (ps ++ #[rawInt pos.line, rawInt pos.col, .ref d])) d = none := by rw [upd_ne dP]; exact nd
      have st2 := Stp.new (o := CodeO d (X.env.qual ++ "<lambda>")) st1.inn n1
      have n2 : upd (upd H1 P (.tbl (ps ++ #[rawInt pos.line, rawInt pos.col, .ref d]))) d (CodeO d (X.env.qual ++ "<lambda>")) f = none := by rw [upd_ne fd, upd_ne fP']; exact nf
      have st3 := Stp.new (o := LamV (X.env.qual ++ "<lambda>") pa bo sc (cloFrom X.env.cells sc.names []) (dfV (LamSyn.df ⟨pa, bo, sc⟩) t) f d) st2.inn n2
      have stB := (st1.trans j0 st2).trans j0 st3
      have st := st0.trans i0 stB
      have hSd : upd (upd S1 d (CodeO d (X.env.qual ++ "<lambda>"))) f (LamV (X.env.qual ++ "<lambda>") pa bo sc (cloFrom X.env.cells sc.names []) (dfV (LamSyn.df ⟨pa, bo, sc⟩) t) f d) d = some (CodeO d (X.env.qual ++ "<lambda>")) := by rw [upd_ne (fun z => fd z.symm), upd_same]
      refine ⟨.ref f, _, I', rfl, hq _ _ _ _ st ⟨F1, one P (.tbl (ps ++ #[rawInt pos.line, rawInt pos.col, .ref d])), ?_, fun a z => ?_, Z.mono _ _ _ _ st.ss hZ, _, rfl, ?_, fun p' cv hcv => ?_⟩ (.clo (c := d) (t := t) ?_ hSd fun i z => stB.ss _ _ (hdt i (by rw [← hdf]; exact z)))⟩
      · rw [hF]; exact join_upd f1P
      · have := ap a z
        by_cases e : a = P
        · rw [e] at z; exact absurd f1P z
        · unfold one; rw [upd_ne e]; rfl
      · have eL : (ps ++ #[rawInt pos.line, rawInt pos.col, .ref d]).toList = ps.toList ++ [rawInt pos.line, rawInt pos.col, .ref d] := by simp
        rw [eL]
        exact PySem.TriplesOk_snoc _ _ _ _ ht
      · have eL : (ps ++ #[rawInt pos.line, rawInt pos.col, .ref d]).toList = ps.toList ++ [rawInt pos.line, rawInt pos.col, .ref d] := by simp
        rw [eL] at hcv
        rcases among_app _ ht hcv with z | z
        · obtain ⟨c0, e1, e2⟩ := hcs p' cv z
          exact ⟨c0, e1, st.ss _ _ e2⟩
        · exact ⟨d, z, hSd⟩
      · rw [ho, upd_same]
    · obtain ⟨d', e, hd⟩ := hcs pos _ hc
      cases e
      have stB := Stp.new (o := LamV (X.env.qual ++ "<lambda>") pa bo sc (cloFrom X.env.cells sc.names []) (dfV (LamSyn.df ⟨pa, bo, sc⟩) t) f d) j0 nf
      have st := st0.trans i0 stB
      exact ⟨.ref f, _, I', rfl, hq _ _ _ _ st ((genT Z P (X.env.qual ++ "<lambda>")).mono _ _ _ _ st.ss hR0) (.clo (c := d) (t := t) (by rw [ho, upd_same]) (st.ss _ _ hd) fun i z => stB.ss _ _ (hdt i (by rw [← hdf]; exact z)))⟩
  rcases hbi with ⟨d1, d2, _⟩ | ⟨i, y, k, p, d1, _, _, d2, _⟩
  · have d2 : defaultsOf pa X.env = ([], []) := d2 X.env
    rw [arm_eval_Lambda, d2]
    show wpAny _ _ (do let dv ← evalAll []; let kdv ← holding dv (evalAllOpt []); makeFunction "<lambda>" (X.env.qual ++ "<lambda>") pa (.expr bo) sc X.env dv kdv [] pos pos.line) _ _ s
    refine wpAny_bind (wpAny_evalAll_nil (wpAny_bind (wpAny_holding (wpAny_pure ?_))))
    rw [makeFunction_eq]
    simp only [List.zip_nil_right, List.filterMap_nil, List.isEmpty_nil, if_true, pure_bind]
    have q := key s S H 0 I (Stp.refl i0) (fun i z => by rw [d1] at z; cases z)
    rw [d1] at q
    exact q
  · have d2 : defaultsOf pa X.env = ([eval (.Constant (.int i) k p) X.env], []) := d2 X.env
    rw [arm_eval_Lambda, d2]
    show wpAny _ _ (do let dv ← evalAll [eval (.Constant (.int i) k p) X.env]; let kdv ← holding dv (evalAllOpt []); makeFunction "<lambda>" (X.env.qual ++ "<lambda>") pa (.expr bo) sc X.env dv kdv [] pos pos.line) _ _ s
    refine wpAny_bind (wpAny_evalAll_cons (thn ((pe_int (X := X) (i := i)).run pins s σ H (fun v H1 => v = .int i ∧ H1 = H) I ⟨rfl, rfl⟩) fun u s1 hu => wpAny_evalAll_nil (wpAny_bind (wpAny_holding (wpAny_pure ?_)))))
    obtain ⟨v1, H1, I1, r1, ev, eH⟩ := hu
    subst ev eH
    rw [makeFunction_eq]
    simp only [List.zip_nil_right, List.filterMap_nil, List.isEmpty_nil, List.isEmpty_cons, Bool.false_eq_true, if_false, if_true, pure_bind]
    refine wpAny_bind (wpAny_newTextTuple ?_)
    have nT := I1.hok.fresh (Nat.le_refl s1.heap.objs.size)
    have I2 := I1.laid (t' := s1.toks) (a := s1.heap.objs.size) (o := .tup [.int i]) (h' := s1.heap.push { cls := .type "tuple", data := .seq [u].toArray }) (fun b o e => Heap.get?_push_of_some _ e) (Nat.le_refl _)
      ⟨by rw [sizeLine_eq]; simp, [u], .cons r1 .nil, _, Heap.get?_push_size _ rfl, rfl, _, rfl⟩
    have q := key _ _ _ s1.heap.objs.size I2 (Stp.new (o := .tup [.int i]) i0 nT) (fun j z => by rw [d1] at z; cases z; rw [upd_same])
    rw [d1] at q
    exact q⟩
/-- the frame's lambdas, by their readings -/
def ccR {G : Type} (lr : Nat → DSt → G → Out G SV) (sd : DSt) : Nat → G → Out G SV := fun n g => (lr n (frOnly sd) g).bind fun x g' => .ok (ownR x) g'
def fFnC {G : Type} (lr : Nat → DSt → G → Out G SV) (run : (Nat → G → Out G SV) → List D → G → Out G SV) (fs : List (DSt → G → Out G SV)) : DSt → G → Out G SV := fun sd g => (lArgs (fs.map toD) sd g).bind fun ds g1 => run (ccR lr sd) ds g1
/-- a def that is handed lambdas of this frame -/
theorem de_callC {T : Hp → Hp → Prop} {hT : ∀ S S' F, Same S S' → T S F → T S' F} {x : Str} {k kc n : Nat} {ls : List LamSyn} {lr : Nat → DSt → Z.G → Out Z.G SV} {run : (Nat → Z.G → Out Z.G SV) → List D → Z.G → Out Z.G SV} {fs : List (DSt → Z.G → Out Z.G SV)} {p pos : Pos} {e : Expr} {es : List Expr}
    (hm : ∃ f, X.mg x = some (.ref f) ∧ PySem.W.keepIn X.K (.ref f) = true)
    (C : ∀ (b : Heap) (S0 : Hp) (cc : Nat → Z.G → Out Z.G SV), CCb X.prog X.w X.K X.mg b (ZS Z S0) kc (loM (X.env.qual ++ "<lambda>") X.env.cells ls) cc → Cal X.prog X.w X.K X.mg b x k n (ZS Z S0) (run cc))
    (hfn : ∀ y, X.fn y = true) (hst : X.stack = X.env :: X.outer) (hfr : X.env.frame = some X.env.locals)
    (hL : ∀ (n : Nat) (l : LamSyn), ls[n]? = some l → LamOk X.N X.env.scope l)
    (hb : ∀ (b : Heap) (n : Nat) (l : LamSyn) (A : Around) (outer : List Env) (s1 : Shared) (H1 : Hp) (E : XK) (f c : Addr), ls[n]? = some l → Room kc (A.deeper (lamEnv X l.sc s1.heap.objs.size f c)) → DE (lamX X b A outer s1 H1 E l.sc f c) Z (WD E) l.bo (lr n)) (h0 : ∀ (n : Nat), ls[n]? = none → ∀ sd g, lr n sd g = .bad)
    (hr : Room k X.A) (tk : Takes X W) (ha : DAs X (exZ Z T hT) W (e :: es) fs) (hn : fs.length = n := by rfl)
    (hg : Gl X x := by rfl) (hdb : (x == ("__debug__" : Str)) = false := by decide) (he : starEach (e :: es) X.env = (false, eval e X.env) :: starEach es X.env := by rfl) (hpl : (backTo pos (starEach es X.env)).any (·.1) = false := by rfl) :
    DE X (exZ Z T hT) W (.Call (.Name x p) (e :: es) [] pos) (fFnC lr run fs) := ⟨fun pins s σ H Q I q => by
  obtain ⟨S, F, O, sd, g, i0, r, hR, hp⟩ := q
  obtain ⟨f, hm, hk⟩ := hm
  refine wpAny_Call_Name_kw (ld_glob I hg hm ?_ hdb)
  refine PySem.W.callWith_K (h₀ := X.base) I.ok.mod.kin hk (thn (ha.run pos pins s σ H (fun vs H1 => ∃ (ds : List D) (g1 : Z.G) (S1 F1 : Hp), Stp S F O H S1 F1 O H1 ∧ (exZ Z T hT).R g1 S1 F1 ∧ RpL S1 vs ds ∧ ds.length = n ∧ post (okQ (exZ Z T hT) rV S F O H Q) (erQ (exZ Z T hT) X.mg W σ S F O H) (run (ccR lr sd) ds g1)) I
    ⟨S, F, O, sd, g, i0, r, hR, post_mono (lArgs_len _ _ (post_bind.mp hp)) (fun ds g1 q1 vs S1 F1 H1 st1 hR1 r1 => ⟨ds, g1, S1, F1, st1, hR1, r1, (q1.1.trans (List.length_map (as := fs) toD)).trans hn, q1.2⟩) fun _ _ q => q⟩) fun us s1 hu => ?_) he hpl
  obtain ⟨vs, H1, I1, rv, ds, g1, S1, F1, st1, hR1, r1, hl, hq⟩ := hu
  refine ⟨I1.kIn, ?_⟩
  have CC := cc_of (Z := Z) (k := kc) (lr := lr) I1 hfn hst hfr (r.mono st1.ss) hL (fun n l A outer s1' H1' E f c en hr => hb _ n l A outer s1' H1' E f c en hr) h0
  obtain ⟨f', fd, ps, F0, hm', hk', hbi⟩ := (C _ _ _ CC).ex
  rw [hm] at hm'
  cases hm'
  obtain ⟨Fa, Fb, hF, ap, hZ, hT1⟩ := hR1
  subst hF
  have sp : spD (ZS Z S1) X.mg n (run (ccR lr sd)) vs H1 Q (WE W σ) := by
    refine ⟨S1, Fa, ds, g1, st1.inn.low.left, r1, hl, zs_of hZ (Same.refl _), post_mono hq (fun y g' q v S' F' H' st hR' rv' => ?_) fun y g' q cls dx S' F' H' st hR' ex => ?_⟩
    · have st2 := Stp.fram st1.inn ap st
      exact okQ_from backs_V i0 st1 q v S' _ H' st2 ⟨F', Fb, rfl, fram_ap st1.inn st ap, (zs_r hR').1, hT _ _ _ st.ss hT1⟩ (rV_fram st1.inn rv')
    · have st2 := Stp.fram st1.inn ap st
      exact erQ_from i0 st1 q cls dx S' _ H' st2 ⟨F', Fb, rfl, fram_ap st1.inn st ap, (zs_r hR').1, hT _ _ _ st.ss hT1⟩ ex
  have hlen : us.length = ps.length := by rw [← rv.length]; exact F0.len _ _ _ _ sp
  have bi := hbi s1 us I1.kIn (by rw [List.append_nil]; exact hlen)
  rw [List.append_nil] at bi
  refine wpAny_call (codeAny_mono (F0.run X.A X.stack s1 H1 ⟨us, []⟩ us vs Q (WE W σ) hr (env_gr I1) bi rv sp) fun res s' hq' => ?_)
  cases res with
  | error er => exact passAt tk σ pins H1 s1 er s' I1 hq'
  | ok fl =>
    cases fl with
    | ret u => exact I1.after hq'
    | next => exact hq'.elim
    | brk => exact hq'.elim
    | cont => exact hq'.elim⟩
end
end DL
/-! DLQ: raise, try .. except X as e, isinstance(e, ..); list.count, list.index -/
namespace DL
open PySem PySem.Spec PyProof.Rows L2
/-! ### l.count(x), l.index(x) by == -/
def rCountD (K : PySem.W.Frag) : V → List V → Hp → VK → Prop := fun x xs H Q => ∃ (a : Addr) (y : V) (d : PyData) (ds : List PyData), x = V.ref a ∧ xs = [y] ∧ Dp K H (V.ref a) (.list ds) ∧ Dp K H y d ∧
  SeqAt.shaped (.list ds) = true ∧ SeqAt.shaped d = true ∧ Q (.int ((ds.countP fun z => PyData.eqv z d : Nat) : Int)) H
theorem mt_countD {X : Cx} (hu : X.A.units + 65 < cLine) : MtR X "list.count" (rCountD X.K) := by
  intro pins s σ H x xs v us Q I rx rxs h
  obtain ⟨a, y, d, ds, rfl, rfl, hl, hy, sl, sd, q⟩ := h
  cases rx
  obtain ⟨uy, rfl, ry⟩ := rxs.one
  obtain ⟨bs, rd1⟩ := Dp.reads I d y uy hy ry
  have lay := SeqAt.canLay_of_shaped sl
  cases hl with
  | lst hs ha =>
    obtain ⟨its, rv, ⟨⟨kc, kd, kdat, ksl⟩, kn, ko, kc1, kd1, kd2⟩, kl⟩ := I.list hs
    simp only at kc1 kd2
    subst kc1 kd2
    obtain ⟨as, rall⟩ := Dp.readsAll I ds _ its ha rv
    have em : its.map (SeqAt.readOf s.heap) = ds := SeqAt.readsAll_map ds its as lay rall
    refine call_meets PySem.F.slot_list_count ⟨_, ko, rfl⟩ PySem.F.entry_list_count (PySem.F.args_list_count_2 _ _)
      (SeqAt.list_countAt a its.toArray kn kd ksl uy (fun u => PyData.eqv (SeqAt.readOf s.heap u) d))
      ⟨ko, SeqAt.items_eqAt (vs := its.toArray) (show ReadsAll s.heap its.toArray.toList ds as from rall) rd1 lay (SeqAt.canLay_of_shaped sd) (room_in_shaped sd hu), ?_⟩
    refine ⟨.int ((ds.countP fun z => PyData.eqv z d : Nat) : Int), H, I.tok _, ⟨s.toks, ?_⟩, q⟩
    have ec : its.toArray.toList.countP (fun u => PyData.eqv (SeqAt.readOf s.heap u) d) = ds.countP fun z => PyData.eqv z d := by
      rw [← em, List.countP_map]
      rfl
    rw [← ec]
def oCount : D → D → Option SV
  | .lst ds, d => if (D.lst ds).fit = true ∧ d.fit = true then some (.fr (.int ((ds.countP fun e => e.eqv d : Nat) : Int))) else none
  | _, _ => none
def oIndexV : D → D → Option SV
  | .lst ds, d => if (D.lst ds).fit = true ∧ d.fit = true then (ds.findIdx? fun e => e.eqv d).map fun j => .fr (.int (j : Int)) else none
  | _, _ => none
def rBM (K : PySem.W.Frag) (T : String) (r : V → List V → Hp → VK → Prop) : R2 := fun x y H Q => tyV K T x H ∧ r x [y] H Q
theorem countP_pd (d : D) : ∀ ds : List D, ((D.pdAll ds).countP fun z => PyData.eqv z d.pd) = ds.countP fun e => e.eqv d
  | [] => rfl
  | e :: ds => by
    show ((e.pd :: D.pdAll ds).countP _) = _
    rw [List.countP_cons, List.countP_cons, countP_pd d ds]
    rfl
theorem pdAll_get : ∀ (ds : List D) (j : Nat), (D.pdAll ds)[j]? = (ds[j]?).map D.pd
  | [], j => by simp [D.pdAll]
  | d :: ds, 0 => rfl
  | d :: ds, j + 1 => by
    show (d.pd :: D.pdAll ds)[j + 1]? = _
    rw [List.getElem?_cons_succ, List.getElem?_cons_succ, pdAll_get ds j]
section
variable {X : Cx} {Z : Eff} {W : WX} {o e : Expr} {fo fe : DSt → Z.G → Out Z.G SV} {apos cpos : Pos} {k : Nat}
theorem bm_read {K : PySem.W.Frag} {mg : Str → Option Value} {r : V → List V → Hp → VK → Prop} {op : D → D → Option SV} {ta tb : TE}
    (hs : ∀ (S F O H : Hp) (x y : V) (dx dy : D) (z : SV) (Q : VK), Inn S F O H → RpB S O x dx → RpB S O y dy → op dx dy = some z → (∀ v S' H', Stp S F O H S' F O H' → rV H S' F O H' v z → Q v H') → r x [y] H Q)
    (hl : ∀ dx dy z, op dx dy = some z → ∃ ds, dx = .lst ds) (ha : EG Z mg rV W ta fo) (hb : EG Z mg rV W tb fe) (hp0 : ∀ sd g, (∃ y, fe sd g = y) → True) :
    ∀ (S F O H : Hp) (σ : L2.St) (sd : DSt) (g : Z.G) (Q : VK), Inn S F O H → RpS S O σ sd → Z.R g S F → post (okQ Z rV S F O H Q) (erQ Z mg W σ S F O H) (((toB fo sd g).bind fun x g1 => match x with
      | .lst ds => (toB fe sd g1).bind fun y g2 => Out.lift (op (.lst ds) y) g2
      | _ => .bad)) → tBM K "list" r ta (tCons tb tNil) σ H Q := fun S F O H σ sd g Q I rs hR hp => by
  refine eg_b ha S F O H σ sd g _ I rs hR (post_mono (post_bind.mp hp) (fun dx g1 q1 x S1 F1 H1 st1 hR1 r1 => ?_) fun _ _ q => q)
  split at q1
  case h_2 => exact q1.elim
  rename_i ds
  obtain ⟨p, vs, ex, hpp, rp⟩ := rb_lst st1.inn r1
  subst ex
  refine ⟨.inl ⟨rfl, vs, SqL.of hpp⟩, ?_⟩
  refine eg_b hb S1 F1 O H1 σ sd g1 _ st1.inn (rs.mono st1.ss) hR1 (post_mono (post_bind.mp q1) (fun dy g2 q2 y S2 F2 H2 st2 hR2 r2 => ?_) fun _ _ q => erQ_from I st1 q)
  obtain ⟨z, ez, q3⟩ := post_lift.mp q2
  refine hs S2 F2 O H2 (.ref p) y (.lst ds) dy z Q st2.inn (r1.mono st2.ss) r2 ez fun v S' H' st3 rv => ?_
  have st := (st1.trans I st2).trans I st3
  exact q3 v S' F2 H' st (Z.mono _ _ _ _ st3.ss hR2) (backs_V _ _ _ _ _ _ _ _ (fun _ z => back_none (st1.trans I st2) z) rv)
/-- l.m(x) of a list -/
def fLM {G : Type} (op : D → D → Option SV) (fo fe : DSt → G → Out G SV) : DSt → G → Out G SV := fun sd g => (toB fo sd g).bind fun x g1 => match x with
  | .lst ds => (toB fe sd g1).bind fun y g2 => Out.lift (op (.lst ds) y) g2
  | _ => .bad
theorem de_lcount (ho : DE X Z W o fo) (he : DE X Z W e fe) (hr : Room (k + 1) X.A ∨ X.A.units + 65 < cLine) (hbase : attributeBase o "count" X.env (eval o X.env) = eval o X.env := by rfl)
    (hfew : ((backTo cpos (starEach [e] X.env)).all (fun x => !x.1) && (backToKw cpos (keywordEach [] X.env)).all (fun x => x.1.isSome) && decide ([e].length + ([] : List Keyword).length + (if ([] : List Keyword).isEmpty then 0 else 1) < 30)) = true := by rfl)
    (hline : (apos.endLine == cpos.line) = true := by rfl) (hse : starEach [e] X.env = (false, eval e X.env) :: starEach [] X.env := by rfl) (hplain : (backTo cpos (starEach [] X.env)).any (·.1) = false := by rfl) :
    DE X Z W (.Call (.Attribute o "count" apos) [e] [] cpos) (fLM oCount fo fe) := by
  have hu : X.A.units + 65 < cLine := hr.elim (fun h => by have := h.un; omega) id
  exact de_of (pe_bm PySem.F.plainAttrs_list PySem.F.slot_list_count PySem.F.type_list_count (mt_countD hu) ho (pa_cons he pa_nil hse) hbase hfew hline hse hplain)
    (bm_read (fun S F O H x y dx dy z Q I rx ry e k => by
      unfold oCount at e
      split at e
      · rename_i ds
        split at e
        · rename_i h
          cases e
          obtain ⟨p, vs, ex, hp, rp⟩ := rb_lst I rx
          subst ex
          refine ⟨p, y, _, _, rfl, rfl, dp_b I (fit_ok h.1) rx, dp_b I (fit_ok h.2) ry, D.shaped h.1, D.shaped h.2, ?_⟩
          rw [countP_pd]
          exact k _ S H (Stp.refl I) (.int _)
        · cases e
      · cases e) (fun dx dy z h => by
      unfold oCount at h
      split at h
      · exact ⟨_, rfl⟩
      · cases h) eg_t eg_t fun _ _ _ => True.intro)
theorem de_lindex (ho : DE X Z W o fo) (he : DE X Z W e fe) (hr : Room (k + 1) X.A ∨ X.A.units + 65 < cLine) (hbase : attributeBase o "index" X.env (eval o X.env) = eval o X.env := by rfl)
    (hfew : ((backTo cpos (starEach [e] X.env)).all (fun x => !x.1) && (backToKw cpos (keywordEach [] X.env)).all (fun x => x.1.isSome) && decide ([e].length + ([] : List Keyword).length + (if ([] : List Keyword).isEmpty then 0 else 1) < 30)) = true := by rfl)
    (hline : (apos.endLine == cpos.line) = true := by rfl) (hse : starEach [e] X.env = (false, eval e X.env) :: starEach [] X.env := by rfl) (hplain : (backTo cpos (starEach [] X.env)).any (·.1) = false := by rfl) :
    DE X Z W (.Call (.Attribute o "index" apos) [e] [] cpos) (fLM oIndexV fo fe) := by
  have hu : X.A.units + 65 < cLine := hr.elim (fun h => by have := h.un; omega) id
  exact de_of (pe_bm PySem.F.plainAttrs_list PySem.F.slot_list_index PySem.F.type_list_index (mt_indexD hu) ho (pa_cons he pa_nil hse) hbase hfew hline hse hplain)
    (bm_read (fun S F O H x y dx dy z Q I rx ry e k => by
      unfold oIndexV at e
      split at e
      · rename_i ds
        split at e
        · rename_i h
          cases ej : ds.findIdx? fun e => e.eqv dy with
          | none => rw [ej] at e; cases e
          | some j =>
            rw [ej] at e
            cases e
            obtain ⟨p, vs, ex, hp, rp⟩ := rb_lst I rx
            subst ex
            obtain ⟨hlt, hj, hno⟩ := List.findIdx?_eq_some_iff_getElem.mp ej
            refine ⟨p, y, _, D.pdAll ds, j, ds[j].pd, rfl, rfl, dp_b I (fit_ok h.1) rx, dp_b I (fit_ok h.2) ry, D.shaped h.1, D.shaped h.2, ?_, hj, fun m z' hm hz => ?_, k _ S H (Stp.refl I) (.int _)⟩
            · rw [pdAll_get, List.getElem?_eq_getElem hlt]; rfl
            · rw [pdAll_get, List.getElem?_eq_getElem (Nat.lt_trans hm hlt)] at hz
              have hz := Option.some.inj hz
              subst hz
              have h3 : ds[m].eqv dy = false := by
                have := hno m hm
                simpa using this
              exact h3
        · cases e
      · cases e) (fun dx dy z h => by
      unfold oIndexV at h
      split at h
      · exact ⟨_, rfl⟩
      · cases h) eg_t eg_t fun _ _ _ => True.intro)
end
/-! ### what isn't come to -/
def fBad {G : Type} : DSt → G → Out G SV := fun _ _ => .bad
theorem de_bad {X : Cx} {Z : Eff} {W : WX} {e : Expr} : DE X Z W e fBad := ⟨fun pins s σ H Q I q => by
  obtain ⟨S, F, O, sd, g, i0, r, hR, hp⟩ := q
  exact hp.elim⟩
/-! ### raise -/
/-- an own exception class without own __init__ -/
structure XcF (K : PySem.W.Frag) (mg : Str → Option Value) (x : Str) : Prop where
  ex : ∃ C, mg x = some (.ref C) ∧ PySem.W.excIn K C He.veBase "ValueError.__new__" = true ∧ PySem.W.keepIn K (.ref C) = true ∧ PySem.W.subIn K (.ref C) (.type "BaseException") = some true ∧ PySem.W.typeIn K (.ref C) = some (.type "type")
def sRaise {G : Type} (x : Str) : DSt → G → OutS G := fun sd g => .er ⟨x, none⟩ sd g
section
variable {X : Cx} {Z : Eff} {W : WX}
theorem ds_raise {x m : Str} {j : Nat} {p p2 cpos pos : Pos} (c : XcF X.K X.mg x) (hc : X.calm = true) (tk : Takes X W) (hg : Gl X x := by rfl) (hdb : (x == ("__debug__" : Str)) = false := by decide) :
    DS X Z W (.Raise (some (.Call (.Name x p) [.Constant (.str m) j p2] [] cpos)) none pos) (sRaise x) := by
  obtain ⟨C, h1, h2, h3, h4, h5⟩ := c.ex
  exact ds_of (ps_raise hc tk (pmk_own PySem.F.excBase_ValueError h2 h1 h3 (raises_own h4 h5) hg hdb)) fun S F O H σ sd g D I rs hR hp => hp _ none σ S F O H (Stp.refl I) rs hR ⟨h1, rfl⟩
end
/-! ### try: .. except X as n: .. -/
/-- one answer for every address -/
noncomputable def allA {G : Type} (k : Addr → OutS G) : OutS G := @ite _ (∀ a, k a = k 0) (Classical.propDecidable _) (k 0) .bad
theorem allA_const {G : Type} (o : OutS G) : allA (fun _ => o) = o := if_pos fun _ => rfl
theorem endQ_all {Z : Eff} {mg : Str → Option Value} {W : WX} {D : Ends} {S F O H : Hp} {k : Addr → OutS Z.G} (h : endQ Z mg W D S F O H (allA k)) (a : Addr) : endQ Z mg W D S F O H (k a) := by
  unfold allA at h
  split at h
  · rename_i hk
    rw [hk a]
    exact h
  · exact h.elim
/-- the clause's name goes -/
def unS {G : Type} (i : Nat) : OutS G → OutS G
  | .nx sd g => .nx (sd.set i none) g
  | .rt x g => .rt x g
  | .bk sd g => .bk (sd.set i none) g
  | .ct sd g => .ct (sd.set i none) g
  | .er _ _ _ => .bad
  | .bad => .bad
noncomputable def sTry {G : Type} (nms : List (Str × Bool)) (i : Nat) (body : DSt → G → OutS G) (suite : Addr → Option Addr → Exc → DSt → G → OutS G) : DSt → G → OutS G := fun sd g => match body sd g with
  | .er e sd' g' => match nms.lookup e.nm with
    | some true => match e.fld with
      | none => allA fun a => unS i (suite a none e (sd'.set i (some (.fr (.obj (.ref a))))) g')
      | some (f, k) => allA fun a => allA fun d => unS i (suite a (some d) e (sd'.set i (some (.fr (.exn a d f k)))) g')
    | some false => .er e sd' g'
    | none => .bad
  | o => o
theorem RpS.unset {S O : Hp} {σ : L2.St} {sd : DSt} {i : Nat} (r : RpS S O σ sd) : RpS S O (σ.set i none) (sd.set i none) := RpS.clear r
section
variable {X : Cx} {Z : Eff} {W : WX}
theorem endQ_un {mg : Str → Option Value} {D : Ends} {S F O H : Hp} {i : Nat} {o : OutS Z.G} (h : endQ Z mg W D S F O H (unS i o)) :
    endQ Z mg WF { nx := fun σ' H' => D.nx (σ'.set i none) H', rt := D.rt, bk := fun σ' H' => D.bk (σ'.set i none) H', ct := fun σ' H' => D.ct (σ'.set i none) H' } S F O H o := by
  cases o with
  | nx sd g => exact fun σ' S' F' O' H' st r hR => h _ S' F' O' H' st r.unset hR
  | rt x g => exact h
  | bk sd g => exact fun σ' S' F' O' H' st r hR => h _ S' F' O' H' st r.unset hR
  | ct sd g => exact fun σ' S' F' O' H' st r hR => h _ S' F' O' H' st r.unset hR
  | er e sd g => exact h.elim
  | bad => exact h.elim
theorem ds_tryAs {x n : Str} {i : Nat} {c : Value} {body suite : List Stmt} {b0 : Stmt} {np pos pos' : Pos} {nms : List (Str × Bool)} {f : DSt → Z.G → OutS Z.G} {fs : Addr → Option Addr → Exc → DSt → Z.G → OutS Z.G} (hst : X.stack = X.env :: X.outer) (hfr : X.env.frame = some X.env.locals) (hN : X.N.Nodup)
    (hc : Names X x c) (tk : Takes X W) (hnm : ∀ nm b, nms.lookup nm = some b → ∃ C, X.mg nm = some C ∧ PySem.W.exmOne X.K C c = some b)
    (hb : ∀ (W : WX) (pn : List (Addr × Obj)) (xe : Value → Shared → Prop), Takes (X.tr pn xe) W → PassesOwn (model X.prog X.w) X.A X.env xe → DSs (X.tr pn xe) Z W body f)
    (hs : ∀ (a : Addr) (oe : Obj) (cls : Value) (d : Option Addr) (pn : List (Addr × Obj)) (e : Exc), Zc cls d oe → (∃ vs, oe.data = .fields vs) → X.mg e.nm = some cls → DSs (X.suite a ((a, oe) :: pn)) Z WF (b0 :: suite) (fs a d e))
    (hi : X.N[i]? = some n := by rfl) (hln : X.env.kindOf n = some .local := by rfl) :
    DS X Z W (.Try body [.ExceptHandler (some (.Name x np)) (some n) (b0 :: suite) pos'] [] [] pos) (sTry nms i f fs) :=
  ds_of (ps_try_as (tb := fun W => tS Z X.mg W f) (ts := fun a cls d D σ H => ∃ e : Exc, X.mg e.nm = some cls ∧ tS Z X.mg WF (fs a d e) D σ H) hst hfr hN hi hln hc tk hb fun a oe cls d pn hz hf => ⟨fun pins s σ H D I q => by
    obtain ⟨e, h1, q⟩ := q
    exact (hs a oe cls d pn e hz hf h1).run pins s σ H D I q⟩) fun S F O H σ sd g D I rs hR hp => by
  refine ⟨S, F, O, sd, g, I, rs, hR, ?_⟩
  unfold sTry at hp
  cases e0 : f sd g with
  | nx sd g => rw [e0] at hp; exact hp
  | rt x g => rw [e0] at hp; exact hp
  | bk sd g => rw [e0] at hp; exact hp
  | ct sd g => rw [e0] at hp; exact hp
  | bad => rw [e0] at hp; exact hp
  | er e sd' g' =>
    rw [e0] at hp
    dsimp only at hp
    refine fun cls dx σ' S' F' O' H' st r hR' ex => ?_
    have nrm : X.mg e.nm = some cls := ex.1
    cases el : nms.lookup e.nm with
    | none => rw [el] at hp; exact hp.elim
    | some b =>
      obtain ⟨C, hC, hx⟩ := hnm _ _ el
      rw [nrm] at hC
      cases hC
      cases b with
      | true =>
        rw [el] at hp
        have h2 := ex.2
        cases ef : e.fld with
        | none =>
          rw [ef] at hp h2
          dsimp only at hp h2
          subst h2
          refine ⟨true, hx, fun _ a ha => ?_, fun z => nomatch z⟩
          exact ⟨e, nrm, S', F', O', _, g', st.inn, r.setFr (.obj _), hR', endQ_un (endQ_from I st (endQ_all hp a))⟩
        | some fk =>
          obtain ⟨fl, k⟩ := fk
          rw [ef] at hp h2
          dsimp only at hp h2
          obtain ⟨dd, rfl, hdd⟩ := h2
          refine ⟨true, hx, fun _ a ha => ?_, fun z => nomatch z⟩
          exact ⟨e, nrm, S', F', O', _, g', st.inn, r.setFr (.exn hdd), hR', endQ_un (endQ_from I st (endQ_all (endQ_all hp a) dd))⟩
      | false =>
        rw [el] at hp
        exact ⟨false, hx, (fun z => nomatch z), fun _ => hp cls dx σ' S' F' O' H' st r hR' ex⟩
end
/-! ### isinstance(e, X), e.f in the suite -/
noncomputable def fIsE {G : Type} (i : Nat) (a : Addr) (d : Option Addr) (e : Exc) (tbl : List (Str × Bool)) : DSt → G → Out G SV := fun sd g => match sd[i]? with
  | some (some (.fr (.obj (.ref b)))) => @ite _ (b = a ∧ d = none) (Classical.propDecidable _) (match tbl.lookup e.nm with
    | some r => .ok (.fr (.bl r)) g
    | none => .bad) .bad
  | some (some (.fr (.exn b dd _ _))) => @ite _ (b = a ∧ d = some dd) (Classical.propDecidable _) (match tbl.lookup e.nm with
    | some r => .ok (.fr (.bl r)) g
    | none => .bad) .bad
  | _ => .bad
noncomputable def fXa {G : Type} (i : Nat) (a : Addr) (d : Option Addr) (e : Exc) (tbl : List Str) (n : Str) : DSt → G → Out G SV := fun sd g => match sd[i]? with
  | some (some (.fr (.exn b dd f k))) => @ite _ (b = a ∧ d = some dd ∧ f = n ∧ e.nm ∈ tbl) (Classical.propDecidable _) (.ok (.fr (.int k)) g) .bad
  | _ => .bad
/-- the exception's dict is none, or known -/
def Xd (d : Option Addr) (H : Hp) : Prop := d = none ∨ ∃ (dd : Addr) (fs : List (Str × V)), d = some dd ∧ H dd = some (.xd fs)
def rIsX (K : PySem.W.Frag) (D a : Addr) (d : Option Addr) : List V → Hp → VK → Prop := fun xs H Q => ∃ (c : V) (cv : Value) (b : Bool), xs = [.ref a, c] ∧ (∀ u, RelV c u → u = cv) ∧ Xd d H ∧ PySem.W.kitOne K (.ref D) cv = some b ∧ Q (.bl b) H
theorem call_isX {X : Cx} {a D : Addr} {d : Option Addr} {oe : Obj} {pn : List (Addr × Obj)} (C : ExcC X.K D) (hz : Zc (.ref D) d oe) (hf : ∃ vs, oe.data = .fields vs) : CallR (X.suite a ((a, oe) :: pn)) (.builtin "isinstance") (rIsX X.K D a d) := fun pins s σ H xs us Q I r h => by
  obtain ⟨c, cv, b, ex, hcv, hxd, e, q⟩ := h
  subst ex
  cases r with
  | cons r1 r2 =>
    cases r1
    cases r2 with
    | cons r3 r4 =>
    cases r4
    rw [hcv _ r3]
    have at_ := (I.pin (a, oe) (List.mem_append.mpr (Or.inl (List.mem_cons_self (a := (a, oe)))))).1
    obtain ⟨fv, hv⟩ := hf
    have hcl : (PySem.W.clsIn X.K D).isSome = true := by
      obtain ⟨cd, hc, _⟩ := PySem.W.any_some C.hd
      simp [hc]
    have J : ∃ od, PySem.W.InstAt s.heap a oe D od := by
      rcases hxd with n | ⟨dd, fs, n, hx⟩
      · refine ⟨none, at_, hz.1, by unfold PySem.W.notCls; rw [hv], ?_⟩
        rw [hz.2, n]
        trivial
      · have w : ObjOk X.prog X.w H s.heap dd (.xd fs) := I.hok dd _ hx
        obtain ⟨mA, hns, _⟩ := w
        obtain ⟨od, ho, _⟩ := lookIn_ns hns
        refine ⟨some od, at_, hz.1, by unfold PySem.W.notCls; rw [hv], ?_⟩
        rw [hz.2, n]
        exact ho
    obtain ⟨od, J⟩ := J
    refine PySem.W.kia_one (PySem.W.kitx_exc (od := od) hcl C.hg C.hk C.hs C.ha C.hn C.ht C.hm) I.kIn J e (fun z => by cases z) fun tk => ?_
    exact ⟨V.bl b, H, I.tok tk, rfl, q⟩
section
variable {X : Cx} {Z : Eff} {W : WX} {i : Nat} {a : Addr} {oe : Obj} {cls cv : Value} {d : Option Addr} {pn : List (Addr × Obj)} {e : Exc} {n : Str} {c : Expr} {vc : V} {tbl : List (Str × Bool)} {p pos p2 : Pos}
theorem de_isE (hz : Zc cls d oe) (hf : ∃ vs, oe.data = .fields vs) (h1 : X.mg e.nm = some cls)
    (hm : X.mg "isinstance" = none) (ht : ∀ nm b, tbl.lookup nm = some b → ∃ D, X.mg nm = some (.ref D) ∧ ExcC X.K D ∧ PySem.W.kitOne X.K (.ref D) cv = some b)
    (hc : PE (X.suite a ((a, oe) :: pn)) c (tC vc)) (hcv : ∀ u, RelV vc u → u = cv) (hN : X.N[i]? = some n := by rfl) (hv : Vis X.env.scope n := by first | exact Or.inl rfl | exact Or.inr (Or.inl rfl) | exact Or.inr (Or.inr rfl))
    (hg : Gl X "isinstance" := by rfl) (hd : (n == ("__debug__" : Str)) = false := by decide) (hcd : (n == ("__classdict__" : Str)) = false := by decide)
    (he : starEach [.Name n p2, c] (X.suite a ((a, oe) :: pn)).env = (false, eval (.Name n p2) (X.suite a ((a, oe) :: pn)).env) :: starEach [c] (X.suite a ((a, oe) :: pn)).env := by rfl) (hpl : (backTo pos (starEach [c] (X.suite a ((a, oe) :: pn)).env)).any (·.1) = false := by rfl)
    (hse : starEach [c] (X.suite a ((a, oe) :: pn)).env = (false, eval c (X.suite a ((a, oe) :: pn)).env) :: starEach [] (X.suite a ((a, oe) :: pn)).env := by rfl) :
    DE (X.suite a ((a, oe) :: pn)) Z W (.Call (.Name "isinstance" p) [.Name n p2, c] [] pos) (fIsE i a d e tbl) := ⟨fun pins s σ H Q I q => by
  obtain ⟨S, F, O, sd, g, i0, r, hR, hp⟩ := q
  have key : ∀ (dv : D), sd[i]? = some (some (.fr dv)) → (∀ v, Rp S v dv → v = .ref a) → Xd d H → post (okQ Z rV S F O H Q) (erQ Z X.mg W σ S F O H) (match tbl.lookup e.nm with
    | some r => Out.ok (.fr (.bl r)) g
    | none => .bad) → wpAny (model X.prog X.w) (X.suite a ((a, oe) :: pn)).A (eval (.Call (.Name "isinstance" p) [.Name n p2, c] [] pos) X.env) (EP (X.suite a ((a, oe) :: pn)) pins σ Q) (X.suite a ((a, oe) :: pn)).xe s := fun dv hsl hva hxd hp => by
    cases el : tbl.lookup e.nm with
    | none => rw [el] at hp; exact hp.elim
    | some rb =>
      rw [el] at hp
      obtain ⟨D, hD, xc, hk⟩ := ht _ _ el
      rw [h1] at hD
      cases hD
      obtain ⟨v, hσ, rv⟩ := r.fr i _ hsl
      have ev := hva v rv
      subst ev
      refine (pe_callB (X := X.suite a ((a, oe) :: pn)) (call_isX xc hz hf) hg hm (by decide +kernel) (pa_cons (pe_var (pos := p2) (i := i) hN hv hd hcd) (pa_cons hc pa_nil hse) he) (he := he) (hpl := hpl)).run pins s σ H Q I ?_
      exact ⟨_, hσ, vc, cv, rb, rfl, hcv, hxd, hk, hp _ S F H (Stp.refl i0) hR (.bl _)⟩
  unfold fIsE at hp
  split at hp
  · rename_i b hsl
    split at hp
    · rename_i hb
      obtain ⟨rfl, hd⟩ := hb
      exact key _ hsl (fun v rv => rb_obj (O := nil) (.inl rv)) (.inl hd) hp
    · exact hp.elim
  · rename_i b dd f k hsl
    split at hp
    · rename_i hb
      obtain ⟨rfl, hd⟩ := hb
      obtain ⟨v0, _, rv0⟩ := r.fr i _ hsl
      have hS : S dd = some (.xd [(f, .int k)]) := by
        cases rv0 with
        | exn h => exact h
        | «at» h1 h2 => cases h2
      refine key _ hsl (fun v rv => ?_) (.inr ⟨dd, _, hd, i0.s _ _ hS⟩) hp
      cases rv with
      | exn h => rfl
      | «at» h1 h2 => cases h2
    · exact hp.elim
  · exact hp.elim⟩
/-- e.f -/
theorem de_xa {names : List Str} {f : Str} {apos : Pos} (hz : Zc cls d oe) (hf : ∃ vs, oe.data = .fields vs) (h1 : X.mg e.nm = some cls)
    (ht : ∀ nm ∈ names, ∃ D, X.mg nm = some (.ref D) ∧ XfC X.K D ∧ PySem.W.findIn X.K (.ref D) f = some none) (hN : X.N[i]? = some n := by rfl) (hv : Vis X.env.scope n := by first | exact Or.inl rfl | exact Or.inr (Or.inl rfl) | exact Or.inr (Or.inr rfl))
    (hd : (n == ("__debug__" : Str)) = false := by decide) (hcd : (n == ("__classdict__" : Str)) = false := by decide) (hb : attributeBase (.Name n p2) f X.env (eval (.Name n p2) X.env) = eval (.Name n p2) X.env := by rfl) :
    DE (X.suite a ((a, oe) :: pn)) Z W (.Attribute (.Name n p2) f apos) (fXa i a d e names f) := ⟨fun pins s σ H Q I q => by
  obtain ⟨S, F, O, sd, g, i0, r, hR, hp⟩ := q
  unfold fXa at hp
  split at hp
  · rename_i b dd f' k hsl
    split at hp
    · rename_i hb'
      obtain ⟨rfl, hdd, rfl, hm⟩ := hb'
      obtain ⟨D, hD, xc, hno⟩ := ht _ hm
      rw [h1] at hD
      cases hD
      obtain ⟨v, hσ, rv⟩ := r.fr i _ hsl
      have hS : v = .ref b ∧ S dd = some (.xd [(f', .int k)]) := by
        cases rv with
        | exn h => exact ⟨rfl, h⟩
        | «at» h1 h2 => cases h2
      obtain ⟨rfl, hS⟩ := hS
      refine (pe_xf (X := X) xc hno hz hf (pe_var (X := X.suite b ((b, oe) :: pn)) (pos := p2) (i := i) hN hv hd hcd) hb).run pins s σ H Q I ?_
      exact ⟨_, hσ, rfl, rfl, dd, _, .int k, hdd, i0.s _ _ hS, by simp [List.lookup], hp _ S F H (Stp.refl i0) hR (.int _)⟩
    · exact hp.elim
  · exact hp.elim⟩
end
end DL
/-! DLR: laws with lambdas: facts, the law's def, its lambdas -/
namespace DL
open PySem PySem.Spec PyProof.Rows L2 LamX
/-! ### list(range(a, b)) -/
noncomputable def fLRg {G : Type} (fa fb : DSt → G → Out G SV) : DSt → G → Out G SV := fun sd g => (toB fa sd g).bind fun x g1 => (toB fb sd g1).bind fun y g2 => match x, y with
  | .int i, .int j => @ite _ (-1000000 ≤ i ∧ i ≤ 1000000 ∧ -1000000 ≤ j ∧ j ≤ 1000000) (Classical.propDecidable _) (.ok (.ow (.lst (rng i (j - i).toNat))) g2) .bad
  | _, _ => .bad
theorem rpl_rng {S : Hp} (i : Int) (n : Nat) : RpL S ((List.range n).map fun k => V.int (i + (k : Nat))) (rng i n) := by
  unfold rng
  generalize List.range n = l
  induction l with
  | nil => exact .nil
  | cons k l ih => exact .cons (.int _) ih
section
variable {X : Cx} {Z : Eff} {W : WX} {a b : Expr} {fa fb : DSt → Z.G → Out Z.G SV} {p p2 pos pos2 : Pos}
theorem de_listRg (ha : DE X Z W a fa) (hb : DE X Z W b fb) (hc : X.calm = true) (hm : X.mg "list" = none) (hm2 : X.mg "range" = none) (hg : Gl X "list" := by rfl) (hg2 : Gl X "range" := by rfl)
    (na : starEach [a, b] X.env = (false, eval a X.env) :: starEach [b] X.env := by rfl) (nb : starEach [b] X.env = (false, eval b X.env) :: starEach [] X.env := by rfl) (hp : (backTo pos2 (starEach [b] X.env)).any (·.1) = false := by rfl)
    (nl : starEach [.Call (.Name "range" p2) [a, b] [] pos2] X.env = (false, eval (.Call (.Name "range" p2) [a, b] [] pos2) X.env) :: starEach [] X.env := by rfl) :
    DE X Z W (.Call (.Name "list" p) [.Call (.Name "range" p2) [a, b] [] pos2] [] pos) (fLRg fa fb) :=
  de_of (pe_listRg hc hg hm (prg_2 hg2 hm2 ha hb na nb hp) nl) fun S F O H σ sd g Q I rs hR hp => by
    have ka : EG Z X.mg rB W (tE Z X.mg rV W fa) (toB fa) := eg_b eg_t
    have kb : EG Z X.mg rB W (tE Z X.mg rV W fb) (toB fb) := eg_b eg_t
    refine ka S F O H σ sd g _ I rs hR (post_mono (post_bind.mp hp) (fun dx g1 q1 x S1 F1 H1 st1 hR1 rx => ?_) fun _ _ q => q)
    refine kb S1 F1 O H1 σ sd g1 _ st1.inn (rs.mono st1.ss) hR1 (post_mono (post_bind.mp q1) (fun dy g2 q2 y S2 F2 H2 st2 hR2 ry => ?_) fun _ _ q => erQ_from I st1 q)
    have st := st1.trans I st2
    split at q2
    · rename_i i j
      split at q2
      · rename_i h
        refine ⟨i, j, rb_int rx, rb_int ry, ⟨by omega, by omega, by omega, by omega, by omega⟩, ?_⟩
        exact new_lst st2.inn (rpl_rng i (j - i).toNat) fun v S' H' st3 rv => q2 v S' F2 H' (st.trans I st3) (Z.mono _ _ _ _ st3.ss hR2) (backs_V _ _ _ _ _ _ _ _ (fun _ z => back_none st z) rv)
      · exact q2.elim
    · exact q2.elim
end
/-! ### facts -/
theorem lk_nil {P : Str → Bool → Prop} : ∀ nm b, ([] : List (Str × Bool)).lookup nm = some b → P nm b := fun _ _ h => nomatch h
theorem lk_cons {P : Str → Bool → Prop} {n : Str} {v : Bool} {t : List (Str × Bool)} (h : P n v) (k : ∀ nm b, t.lookup nm = some b → P nm b) : ∀ nm b, ((n, v) :: t).lookup nm = some b → P nm b := fun nm b e => by
  rw [List.lookup_cons] at e
  cases q : (nm == n) with
  | true =>
    rw [q] at e
    cases e
    rw [beq_iff_eq.mp q]
    exact h
  | false =>
    rw [q] at e
    exact k nm b e
def exB (x : Str) (K : PySem.W.Frag) : Bool := decide (PySem.W.findIn K (.ref (He.ga K x)) "__getattribute__" = some (some (.builtin "BaseException.__getattribute__"))) && (decide (PySem.W.findIn K (.ref (He.ga K x)) "__getattr__" = some none) && (decide (PySem.W.subIn K (.ref (He.ga K x)) (.type "BaseException") = some true) &&
  (PySem.W.hasDictIn K (He.ga K x) && (decide (PySem.W.findIn K (.ref (He.ga K x)) "__class__" = some (some (.builtin "object.__class__"))) && (decide (PySem.W.specialIn K (.builtin "object.__class__") "__get__" = some (some (.builtin "getset_descriptor.__get__"))) &&
  (decide (PySem.W.takesIn K (.builtin "object.__class__") = some true) && decide (PySem.W.mroIn K (He.ga K x) (.type "object") = some true)))))))
theorem exB_ok {x : Str} {K : PySem.W.Frag} (h : exB x K = true) : ExcC K (He.ga K x) := by
  obtain ⟨h1, h⟩ := He.ba h
  obtain ⟨h2, h⟩ := He.ba h
  obtain ⟨h3, h⟩ := He.ba h
  obtain ⟨h4, h⟩ := He.ba h
  obtain ⟨h5, h⟩ := He.ba h
  obtain ⟨h6, h⟩ := He.ba h
  obtain ⟨h7, h8⟩ := He.ba h
  exact ⟨of_decide_eq_true h1, of_decide_eq_true h2, of_decide_eq_true h3, h4, of_decide_eq_true h5, of_decide_eq_true h6, of_decide_eq_true h7, of_decide_eq_true h8⟩
def kitB (x y : Str) (b : Bool) (K : PySem.W.Frag) : Bool := decide (PySem.W.kitOne K (.ref (He.ga K x)) (.ref (He.ga K y)) = some b)
def kitV (x : Str) (y : String) (b : Bool) (K : PySem.W.Frag) : Bool := decide (PySem.W.kitOne K (.ref (He.ga K x)) (.type y) = some b)
theorem xcF_of {h : Heap} {K : PySem.W.Frag} {mg : Str → Option Value} (X : K.In h) (G : h.Ns mainGlobals mg) {x : Str} (c1 : (He.Fa.glo x).ok K = true) (c2 : (He.Fa.exc x).ok K = true) : XcF K mg x :=
  ⟨He.ga K x, He.glo_ok X G c1, He.exc_ok c2⟩
/-! ### a def's lambdas, in the order of the text -/
mutual
def lamE : Nat → Expr → List LamSyn
  | 0, _ => []
  | k + 1, e => match e with
    | .BoolOp _ vs _ => lamEs k vs
    | .BinOp a _ b _ => lamE k a ++ lamE k b
    | .UnaryOp _ a _ => lamE k a
    | .Lambda pa bo sc _ => [⟨pa, bo, sc⟩]
    | .IfExp a b c _ => lamE k a ++ (lamE k b ++ lamE k c)
    | .Dict _ vs _ => lamEs k vs
    | .Compare a _ bs _ => lamE k a ++ lamEs k bs
    | .Call f es _ _ => lamE k f ++ lamEs k es
    | .Attribute a _ _ => lamE k a
    | .Subscript a b _ => lamE k a ++ lamE k b
    | .List es _ => lamEs k es
    | .Tuple es _ _ => lamEs k es
    | _ => []
def lamEs : Nat → List Expr → List LamSyn
  | 0, _ => []
  | k + 1, es => match es with
    | [] => []
    | e :: es => lamE k e ++ lamEs k es
end
mutual
def lamS : Nat → Stmt → List LamSyn
  | 0, _ => []
  | k + 1, s => match s with
    | .FunctionDef _ _ b _ _ _ _ _ _ _ => lamSs k b
    | .Return (some e) _ => lamE k e
    | .Assign _ e _ => lamE k e
    | .For _ e b _ _ => lamE k e ++ lamSs k b
    | .While e b _ _ => lamE k e ++ lamSs k b
    | .If e b c _ => lamE k e ++ (lamSs k b ++ lamSs k c)
    | .Expr e _ => lamE k e
    | _ => []
def lamSs : Nat → List Stmt → List LamSyn
  | 0, _ => []
  | k + 1, ss => match ss with
    | [] => []
    | s :: ss => lamS k s ++ lamSs k ss
end
/-! ### within a lambda -/
section
variable {X : Cx} {b : Heap} {A : Around} {outer : List Env} {s : Shared} {H : Hp} {E : XK} {sc : Scope} {f c : Addr}
theorem tkL : Takes (lamX X b A outer s H E sc f c) (WD E) := takes_of rfl rfl rfl rfl
end
/-! ### the law's def -/
def spLawT (K : PySem.W.Frag) (P : Addr) : Sp := fun vs H Q E => ∃ (a : Addr) (ns : List Int), vs = [.ref a] ∧ SqL K H a (ns.map V.int) ∧ ns.length ≤ 63 ∧ H P = some (.tbl #[]) ∧ ∀ H', Q (.bl true) H'
section
variable {P : Program} {w : World} {K : PySem.W.Frag} {mg : Str → Option Value} {base : Heap} {N : List Str} {scope : Scope} {fd : FuncData} {params : Arguments} {st0 : Stmt} {rest : List Stmt} {k : Nat}
abbrev lawAt (K : PySem.W.Frag) : Addr := He.fAd K ("law", none)
theorem law_code {body : List Stmt} (F : FunD K "law" "law" params body scope [] [] (lawAt K) fd) : fd.code = .ref (He.cT K ("law", none)).1 := by
  obtain ⟨oc, od, dV, kV, doc, pm, an, cdv, ct, osl, rfl, lk, hcd, _, _⟩ := F.ex
  obtain ⟨c, e⟩ := He.codeIn_ref hcd
  have e2 : (PySem.W.fnOf "law" "law" params body scope dV kV doc pm an cdv ct).code = .ref c := e
  rw [e2]
  exact congrArg Value.ref (He.codeOf_eq lk e2).symm
theorem law_fnT {fr : CloM → Addr → Addr → List Int → DSt → Gs → OutS Gs} {ls : List LamSyn} (F : FunD K "law" "law" params (st0 :: rest) scope [] [] (lawAt K) fd) (S : FnScope N ["_law_script"] scope) (hN : 2 ≤ N.length)
    (h0 : ∀ (cdv : Value) (A : Around) (outer : List Env) (s : Shared) (H : Hp) (E : XK), Room k (A.deeper (envOfC "law" scope s.heap.objs.size (lawAt K) cdv)) → PS (cxOf (L2.CX P w) P w K mg base N "law" scope (lawAt K) cdv A outer s H E) st0 (tAsg (tCallS (spStart K) (WE (WD E)) (tCons (tVar 0) tNil)) (gName 1)))
    (hb : ∀ (a p : Addr) (ns : List Int) (A : Around) (outer : List Env) (s : Shared) (H : Hp) (E : XK), Room k (A.deeper (envOfC "law" scope s.heap.objs.size (lawAt K) (.ref (He.cT K ("law", none)).1))) →
      DSs (cxOf (L2.CX P w) P w K mg base N "law" scope (lawAt K) (.ref (He.cT K ("law", none)).1) A outer s H E) (genT (genZ K a ns p) (He.cT K ("law", none)).2 ((envOfC "law" scope s.heap.objs.size (lawAt K) (.ref (He.cT K ("law", none)).1)).qual ++ "<lambda>")) (WD E) rest
        (fr (loM ((envOfC "law" scope s.heap.objs.size (lawAt K) (.ref (He.cT K ("law", none)).1)).qual ++ "<lambda>") (envOfC "law" scope s.heap.objs.size (lawAt K) (.ref (He.cT K ("law", none)).1)).cells ls) a p ns))
    (hp : ∀ (M : CloM) (a p : Addr) (ns : List Int), ns.length ≤ 63 → ∃ g', fr M a p ns (sdLaw N.length a p) ⟨0, mixI ns, 0⟩ = .rt (.fr (.bl true)) g') :
    FnOk P w K mg base (L2.CX P w) (k + 1) (lawAt K) fd ["_law_script"] (spLawT K (He.cT K ("law", none)).2) := by
  have hcode := law_code F
  obtain ⟨oc, od, dV, kV, doc, pm, an, cdv, ct, osl, rfl, lk, hcd, _, _⟩ := F.ex
  have hcode : cdv = .ref (He.cT K ("law", none)).1 := hcode
  subst hcode
  refine fn_of lk hcd S (fun vs H Q E h => ?_) fun A outer s H vs Q E hr h => ?_
  · obtain ⟨a, ns, rfl, _⟩ := h
    rfl
  · obtain ⟨a, ns, rfl, hS, hl, hP, hQ⟩ := h
    have hb' := fun p => hb a p ns A outer s H E hr
    generalize loM ((envOfC "law" scope s.heap.objs.size (lawAt K) (.ref (He.cT K ("law", none)).1)).qual ++ "<lambda>") (envOfC "law" scope s.heap.objs.size (lawAt K) (.ref (He.cT K ("law", none)).1)).cells ls = M at hb'
    generalize (envOfC "law" scope s.heap.objs.size (lawAt K) (.ref (He.cT K ("law", none)).1)).qual ++ "<lambda>" = q0 at hb'
    refine ⟨_, pss_cons (h0 _ A outer s H E hr) (u := fun D σ H => ∃ p, tS (genT (genZ K a ns p) (He.cT K ("law", none)).2 q0) mg (WD E) (fr M a p ns) D σ H) ⟨fun pins s' σ H' D I q => ?_⟩, ?_⟩
    · obtain ⟨p, q⟩ := q
      exact (hb' p).run pins s' σ H' D I q
    · obtain ⟨x, y, N', rfl⟩ : ∃ x y N', N = x :: y :: N' := by
        match N, hN with
        | x :: y :: N', _ => exact ⟨x, y, N', rfl⟩
      refine ⟨V.ref a, rfl, a, ns, rfl, hS, fun p hpn => ⟨p, ?_⟩⟩
      clear hb hb' h0
      generalize (He.cT K ("law", none)).2 = P0 at *
      have hpP : P0 ≠ p := fun e => by rw [e, hpn] at hP; cases hP
      have n1 : ∀ b, one p (stL a ⟨0, mixI ns, 0⟩) b ≠ none → one P0 (.tbl #[]) b = none := fun b z => by
        have e := one_nn z
        subst e
        unfold one
        rw [upd_ne (fun z => hpP z.symm)]
        rfl
      have nS : ∀ b, off H P0 b ≠ none → b ≠ p ∧ b ≠ P0 := fun b z => by
        have := off_nn z
        exact ⟨fun e => this.2 (by rw [e]; exact hpn), this.1⟩
      have hS0 : SqL K (off H P0) a (ns.map V.int) := by
        have st : ∀ {u : HO}, H a = some u → (∀ ps, u ≠ .tbl ps) → off H P0 a = some u := fun {u} e ne => by
          rw [off_ne]
          · exact e
          · intro z
            rw [z, hP] at e
            cases e
            exact ne _ rfl
        rcases hS with (h | ⟨o, h⟩) | h
        · exact .inl (.inl (st h fun ps z => nomatch z))
        · exact .inl (.inr ⟨o, st h fun ps z => nomatch z⟩)
        · exact .inr h
      refine ⟨off H P0, join (one p (stL a ⟨0, mixI ns, 0⟩)) (one P0 (.tbl #[])), nil, sdLaw (x :: y :: N').length a p, ⟨0, mixI ns, 0⟩, ⟨fun b o e => ?_, fun b o e => ?_, (fun _ _ z => nomatch z), fun b z => ?_, fun _ _ => rfl, fun _ _ => rfl, join_nt (one_nt fun _ z => by cases z) (one_nt fun _ z => by cases z), (fun _ _ z => nomatch z)⟩, ?_, ⟨_, _, rfl, n1, ⟨rfl, hS0⟩, #[], rfl, True.intro, fun pos cv hc => ?_⟩, ?_⟩
      · have q := nS b (nn_of e)
        rw [off_ne q.2] at e
        rw [upd_ne q.1]
        exact e
      · cases e1 : one p (stL a ⟨0, mixI ns, 0⟩) b with
        | some u =>
          rw [join_l e1] at e
          have e2 := one_nn (nn_of e1)
          subst e2
          rw [one_same] at e1
          rw [upd_same]
          rw [← e, ← e1]
        | none =>
          rw [join_r e1] at e
          have e2 := one_nn (nn_of e)
          subst e2
          rw [one_same] at e
          cases e
          rw [upd_ne hpP]
          exact hP
      · obtain ⟨q1, q2⟩ := nS b z
        have e1 : one p (stL a ⟨0, mixI ns, 0⟩) b = none := by unfold one; rw [upd_ne q1]; rfl
        rw [join_r e1]
        unfold one
        rw [upd_ne q2]
        rfl
      · have r : RpS (off H P0) nil ([some (V.ref a)] ++ List.replicate (N'.length + 1) none) ([some (SV.fr (D.obj (.ref a)))] ++ List.replicate (N'.length + 1) none) := start_rps (vs := [V.ref a]) (ds := [D.obj (.ref a)]) (N'.length + 1) (.cons (.obj _) .nil)
        exact r.setFr (i := 1) (v := V.ref p) (d := D.obj (.ref p)) (.obj _)
      · have z : codeAmong pos [] = some cv := hc
        simp [codeAmong] at z
      · obtain ⟨g', hg⟩ := hp M a p ns hl
        show endQ _ _ _ _ _ _ _ _ _
        rw [hg]
        intro v S' F' O' H' st hR rv
        have e := rb_bl (S := S') (O := nil) (x := v) (.inl rv)
        subst e
        exact hQ _
end
theorem law_cx0T {P : Program} {w : World} {K : PySem.W.Frag} {mg : Str → Option Value} {base : Heap} {k : Nat} {f P0 : Addr} {fd : FuncData} {ps : List Str} (F : FnOk P w K mg base (L2.CX P w) k f fd ps (spLawT K P0)) : FnOk P w K mg base L2.CX0 k f fd ps (spLawT K P0) :=
  ⟨F.len, fun A outer s H args us vs Q E hr he hb hv hs => codeAny_mono (F.run A outer s H args us vs Q (fun _ _ _ => False) hr he hb hv hs) fun r s' h => by
    cases r with
    | error e =>
      obtain ⟨_, _, _, _, _, _, _, _, _, _, _, _, z⟩ := h
      exact z.elim
    | ok fl => cases fl <;> exact h⟩
end DL
/-! DLS: within an except suite; a law's lambdas, one by one -/
namespace DL
open PySem PySem.Spec PyProof.Rows L2 LamX
section
variable {X : Cx}
theorem cp_eqU (hu : X.A.units + 65 < cLine) : CpR X .Eq oEq := ⟨_, op_eqD (by omega), os_eq⟩
theorem cp_neU (hu : X.A.units + 65 < cLine) : CpR X .NotEq oNe := ⟨_, op_neD (by omega), os_ne⟩
theorem su {k : Nat} {a : Addr} {pn : List (Addr × Obj)} {C : Prop} (hr : Room k X.A) (f : (X.suite a pn).A.units + 65 < cLine → C) : C := f (by
  have h : X.A.units + 65 < cLine := by have := hr.un; omega
  exact h)
variable {Z : Eff} {W : WX} {i : Nat} {a : Addr} {oe : Obj} {cls : Value} {d : Option Addr} {pn : List (Addr × Obj)} {e : Exc} {n y : Str} {tbl : List (Str × Bool)} {p pos p2 p3 : Pos}
theorem de_isEG (hz : Zc cls d oe) (hf : ∃ vs, oe.data = .fields vs) (h1 : X.mg e.nm = some cls) (hm : X.mg "isinstance" = none)
    (ht : ∃ C, X.mg y = some (.ref C) ∧ ∀ nm b, tbl.lookup nm = some b → ∃ D, X.mg nm = some (.ref D) ∧ ExcC X.K D ∧ PySem.W.kitOne X.K (.ref D) (.ref C) = some b)
    (hy : Gl X y := by rfl) (hyd : (y == ("__debug__" : Str)) = false := by decide) (hN : X.N[i]? = some n := by rfl) (hv : Vis X.env.scope n := by first | exact Or.inl rfl | exact Or.inr (Or.inl rfl) | exact Or.inr (Or.inr rfl))
    (hg : Gl X "isinstance" := by rfl) (hd : (n == ("__debug__" : Str)) = false := by decide) (hcd : (n == ("__classdict__" : Str)) = false := by decide) :
    DE (X.suite a ((a, oe) :: pn)) Z W (.Call (.Name "isinstance" p) [.Name n p2, .Name y p3] [] pos) (fIsE i a d e tbl) := by
  obtain ⟨C, hC, ht⟩ := ht
  exact de_isE (vc := .ref C) (cv := .ref C) hz hf h1 hm ht (pe_glob (X := X.suite a ((a, oe) :: pn)) hy hC rfl hyd) (fun u h => h) hN hv hg hd hcd
theorem de_isEV {T : String} (hz : Zc cls d oe) (hf : ∃ vs, oe.data = .fields vs) (h1 : X.mg e.nm = some cls) (hm : X.mg "isinstance" = none)
    (ht : X.mg y = none ∧ ∀ nm b, tbl.lookup nm = some b → ∃ D, X.mg nm = some (.ref D) ∧ ExcC X.K D ∧ PySem.W.kitOne X.K (.ref D) (.type T) = some b)
    (hb : bootBuiltins y = some (.type T) := by decide +kernel) (hy : Gl X y := by rfl) (hyn : y ≠ "__name__" := by decide) (hyd : (y == ("__debug__" : Str)) = false := by decide) (hN : X.N[i]? = some n := by rfl) (hv : Vis X.env.scope n := by first | exact Or.inl rfl | exact Or.inr (Or.inl rfl) | exact Or.inr (Or.inr rfl))
    (hg : Gl X "isinstance" := by rfl) (hd : (n == ("__debug__" : Str)) = false := by decide) (hcd : (n == ("__classdict__" : Str)) = false := by decide) :
    DE (X.suite a ((a, oe) :: pn)) Z W (.Call (.Name "isinstance" p) [.Name n p2, .Name y p3] [] pos) (fIsE i a d e tbl) :=
  de_isE (vc := .ty T) (cv := .type T) hz hf h1 hm ht.2 (pe_bltn (X := X.suite a ((a, oe) :: pn)) (v := .ty T) hy ht.1 hb rfl hyn hyd) (fun u h => h) hN hv hg hd hcd
end
theorem hm_of {K : PySem.W.Frag} {mg : Str → Option Value} {x q : Str} {pa : Arguments} {bo : List Stmt} {sc : Scope} (h : ∃ fa fd, FunD K x q pa bo sc [] [] fa fd ∧ mg x = some (.ref fa)) : ∃ f, mg x = some (.ref f) ∧ PySem.W.keepIn K (.ref f) = true := by
  obtain ⟨fa, _, F, h⟩ := h
  exact ⟨fa, h, F.kp⟩
/-! ### lambdas by their numbers -/
instance : Inhabited LamSyn := ⟨⟨⟨[], [], none, [], [], none, []⟩, .Constant .none 0 ⟨0, 0, 0, 0⟩, ⟨.function, [], false, false, []⟩⟩⟩
theorem ls_get {ls : List LamSyn} {n : Nat} {l : LamSyn} (h : ls[n]? = some l) : l = ls.getD n default := by
  rw [List.getD_eq_getElem?_getD, h]
  rfl
theorem ls_lt {ls : List LamSyn} {n m : Nat} {l : LamSyn} (hm : ls.length = m) (h : ls[n]? = some l) : n < m := by
  rw [← hm]
  exact (List.getElem?_eq_some_iff.mp h).1
theorem ls_ge {ls : List LamSyn} {n m : Nat} (hm : ls.length = m) (h : ls[n]? = none) : ∃ j, n = j + m := by
  have : m ≤ n := by rw [← hm]; exact List.getElem?_eq_none_iff.mp h
  exact Nat.exists_eq_add_of_le' this
end DL
/-! DLT: a dict with tuple keys that is written no more: walked by its keys -/
namespace DL
open PySem PySem.Spec PyProof.Rows L2
section
variable {S F O H : Hp} {σ : L2.St} {sd : DSt} {p : Addr} {o : HO}
/-- one's own thing at p, changed to o, stands for good from now on as d' -/
theorem RpS.freezeAs {i : Nat} {d d' : D} (r : RpS S O σ sd) (h : sd[i]? = some (some (.ow d))) (hv : σ[i]? = some (some (V.ref p))) (b : O p ≠ none) (hs : S p = none) (rd : Rp (upd S p o) (.ref p) d') : RpS (upd S p o) (off O p) σ (sd.set i (some (.fr d'))) := by
  have hi : i < sd.length := (List.getElem?_eq_some_iff.mp h).1
  have ss : Same S (upd S p o) := same_new hs
  have get : ∀ {j : Nat} {x : SV}, (sd.set i (some (.fr d')))[j]? = some (some x) → (j = i ∧ x = .fr d') ∨ (j ≠ i ∧ sd[j]? = some (some x)) := fun {j x} h1 => by
    by_cases e : i = j
    · subst e
      rw [List.getElem?_set_self hi] at h1
      cases h1
      exact .inl ⟨rfl, rfl⟩
    · rw [List.getElem?_set_ne e] at h1
      exact .inr ⟨fun z => e z.symm, h1⟩
  refine ⟨by rw [List.length_set]; exact r.len, fun j e h1 => ?_, fun j e h1 => ?_, fun j l e e' p2 h1 h2 h3 h4 => ?_, fun j e h1 => ?_⟩
  · rcases get h1 with ⟨rfl, z⟩ | ⟨_, h1⟩
    · cases z
      exact ⟨_, hv, rd⟩
    · obtain ⟨w, a1, a2⟩ := r.fr j e h1
      exact ⟨w, a1, a2.mono ss⟩
  · rcases get h1 with ⟨_, z⟩ | ⟨n, h1⟩
    · cases z
    · obtain ⟨p', o', a1, a2, a3⟩ := r.ow j e h1
      refine ⟨p', o', a1, ?_, a3.mono ss⟩
      rw [off_ne]
      · exact a2
      · intro z
        subst z
        exact n (r.ne i j _ _ _ h h1 hv a1).symm
  · rcases get h1 with ⟨_, z⟩ | ⟨_, h1⟩
    · cases z
    · rcases get h2 with ⟨_, z⟩ | ⟨_, h2⟩
      · cases z
      · exact r.ne j l e e' p2 h1 h2 h3 h4
  · rcases get h1 with ⟨_, z⟩ | ⟨_, h1⟩
    · cases z
    · exact r.nb j e h1
end
/-- the slot's own dict is written no more -/
def lck (i : Nat) (sd : DSt) : DSt := match sd[i]? with
  | some (some (.ow (.dt kvs))) => sd.set i (some (.fr (.ft kvs)))
  | _ => sd
def sLck {G : Type} (i : Nat) (f : DSt → G → OutS G) : DSt → G → OutS G := fun sd g => f (lck i sd) g
section
variable {X : Cx} {Z : Eff} {W : WX} {st : Stmt} {f : DSt → Z.G → OutS Z.G}
theorem ds_lck {i : Nat} (h : DS X Z W st f) : DS X Z W st (sLck i f) := ⟨fun pins s σ H D I q => by
  obtain ⟨S, F, O, sd, g, i0, r, hR, hp⟩ := q
  unfold sLck lck at hp
  split at hp
  · rename_i kds hsl
    obtain ⟨q, o, a, b, c⟩ := r.ow i _ hsl
    obtain ⟨c, _⟩ := c
    cases c with
    | dt rt =>
      rename_i kvs
      obtain ⟨od, I1⟩ := I.lock (i0.o _ _ b) True.intro
      have st1 := Stp.write (o' := .frz od (.dT kvs)) i0 b
      have st2 := Stp.give st1.inn (p := q) (o := .frz od (.dT kvs)) upd_same
      have st := st1.trans i0 st2
      have eO : off (upd O q (.frz od (.dT kvs))) q = off O q := funext fun x => by
        by_cases e : x = q
        · rw [e, off_same, off_same]
        · rw [off_ne e, off_ne e, upd_ne e]
      rw [eO] at st
      have hs := i0.os (nn_of b)
      exact h.run pins s σ _ D I1 ⟨_, _, _, _, g, st.inn, r.freezeAs hsl a (nn_of b) hs (.ft upd_same (rt.mono (same_new hs))), Z.mono _ _ _ _ st.ss hR, endQ_from i0 st hp⟩
  · exact h.run pins s σ H D I ⟨S, F, O, sd, g, i0, r, hR, hp⟩⟩
end
/-! ### for k in d: .. -/
def keyD : Key → D
  | .inl i => .int i
  | .inr x => .str x.cps.toList
def keysD (k : List Key) : D := .tup (k.map keyD)
theorem rp_key {S : Hp} : ∀ k : Key, Rp S (kV k) (keyD k)
  | .inl i => .int i
  | .inr ⟨x⟩ => by
    have r : Rp S (.str ⟨x.toList.toArray⟩) (.str x.toList) := .str _
    rw [Array.toArray_toList] at r
    exact r
theorem rpl_keys {S : Hp} : ∀ k : List Key, RpL S (k.map kV) (k.map keyD)
  | [] => .nil
  | a :: k => .cons (rp_key a) (rpl_keys k)
theorem rpT_keys {S : Hp} : ∀ {kvs : List (List Key × V)} {kds : List (List Key × D)}, RpT S kvs kds → kvs.length = kds.length ∧ ∀ (i : Nat) (k : List Key) (v : V), kvs[i]? = some (k, v) → ∃ d, kds[i]? = some (k, d)
  | _, _, .nil => ⟨rfl, fun i k v h => by cases h⟩
  | _, _, .cons (ds := kds) r t => by
    obtain ⟨h1, h2⟩ := rpT_keys t
    refine ⟨congrArg (· + 1) h1, fun i k v h => ?_⟩
    cases i with
    | zero => cases h; exact ⟨_, rfl⟩
    | succ i => exact h2 i k v h
theorem jit_keysT {S0 O0 : Hp} {d : Addr} {o : Obj} {kvs : List (List Key × V)} {kds : List (List Key × D)} (hd : S0 d = some (.frz o (.dT kvs))) (r : RpT S0 kvs kds) : JIt S0 O0 (Itkt d o kvs) (kds.map fun p => keysD p.1) where
  go S F O H i I a _ hi := by
    rw [List.length_map, ← (rpT_keys r).1] at hi
    exact ⟨I.s _ _ (a _ _ hd), hi⟩
  yld S F O H i x H' I a _ hi y := by
    obtain ⟨rfl, k, v, q, hkv, rfl, hq⟩ := y
    obtain ⟨dd, hdd⟩ := (rpT_keys r).2 i k v hkv
    have hg : (kds.map fun p => keysD p.1)[i]? = some (keysD k) := by rw [List.getElem?_map, hdd]; rfl
    cases hs : S q with
    | some u =>
      have e := I.s q u hs
      rw [hq] at e
      cases e
      exact ⟨S, _, Stp.refl I, hg, .at hs (.tup (rpl_keys k))⟩
    | none => exact ⟨_, _, Stp.stand (Stp.refl I) hq (I.tupF hq) (I.tupO hq) hs (.inr (.inl ⟨_, hq⟩)), hg, .at upd_same (.tup (rpl_keys k))⟩
  stop S F O H I a _ := by
    rw [List.length_map, ← (rpT_keys r).1]
    exact ⟨I.s _ _ (a _ _ hd), Nat.le_refl _⟩
def keysO : D → Option (List D)
  | .ft kvs => some (kvs.map fun p => keysD p.1)
  | _ => none
def fKeys {G : Type} (f : DSt → G → Out G SV) : DSt → G → Out G (List D) := fun sd g => (toD f sd g).bind fun d g1 => Out.lift (keysO d) g1
theorem di_keys {X : Cx} {Z : Eff} {W : WX} {tg e : Expr} {f : DSt → Z.G → Out Z.G SV} {k : Bool} (h : DE X Z W e f) : DI k X Z W tg e (fKeys f) := ⟨fun pins s σ H R I q => by
  obtain ⟨S, F, O, sd, g, i, r, hR, hp⟩ := q
  refine (pi_keys h).run pins s σ H R I ?_
  refine (eg_d (Z := Z) (mg := X.mg) (W := W) (te := tE Z X.mg rV W f) eg_t) S F O H σ sd g _ i r hR (post_mono (post_bind.mp hp) (fun d g' q v S' F' H' st hR' rv => ?_) fun _ _ q => q)
  obtain ⟨ds, eds, q⟩ := post_lift.mp q
  unfold keysO at eds
  split at eds
  case h_2 => cases eds
  cases eds
  cases rv with
  | ft h1 h2 => exact ⟨_, _, rfl, .inr ⟨_, st.inn.s _ _ h1, q _ S' F' H' st hR' (jit_keysT h1 h2)⟩⟩
  | «at» h1 h2 => cases h2⟩
end DL
/-! DLV: raise of an own exception whose __init__ keeps one number -/
namespace DL
open PySem PySem.Spec PyProof.Rows L2
/-! ### the class's facts -/
def oexB (x : Str) (K : PySem.W.Frag) : Bool := (match K.lookup (He.ga K x) with
  | some ⟨.type "type", _, .cls cd, sl⟩ => (match cd.mro, sl.toList with
    | .ref z :: bm, [_, _, _, _, some (.builtin n), _] => decide (z = He.ga K x) && (decide (n = "ValueError.__new__") && (decide (cd.hasDel = false) && (cd.hasDict && PySem.HandSPX.refsVE bm)))
    | _, _ => false)
  | _ => false) && (decide (PySem.W.findIn K (.ref (He.ga K x)) "__setattr__" = some (some (.builtin "object.__setattr__"))) && (decide (PySem.W.subIn K (.ref (He.ga K x)) (.type "BaseException") = some true) && (decide (PySem.W.typeIn K (.ref (He.ga K x)) = some (.type "type")) && PySem.W.keepIn K (.ref (He.ga K x)))))
theorem oexB_ok {x : Str} {K : PySem.W.Frag} (h : oexB x K = true) : OexC K (He.ga K x) := by
  obtain ⟨h0, h⟩ := He.ba h
  obtain ⟨h1, h⟩ := He.ba h
  obtain ⟨h2, h⟩ := He.ba h
  obtain ⟨h3, h4⟩ := He.ba h
  refine ⟨?_, of_decide_eq_true h1, of_decide_eq_true h2, of_decide_eq_true h3, h4⟩
  split at h0
  · rename_i dd cd sl lk
    split at h0
    · rename_i z bm k0 k1 k2 k3 n k5 em es
      obtain ⟨a1, h0⟩ := He.ba h0
      obtain ⟨a2, h0⟩ := He.ba h0
      obtain ⟨a3, h0⟩ := He.ba h0
      obtain ⟨a4, a5⟩ := He.ba h0
      replace a1 := of_decide_eq_true a1
      replace a2 := of_decide_eq_true a2
      replace a3 := of_decide_eq_true a3
      obtain ⟨c1, c2, c3, c4, c5, c6, c7, c8, c9, c10, c11⟩ := cd
      dsimp only at em a3 a4
      have e2 : sl = #[k0, k1, k2, k3, some (.builtin n), k5] := by
        rw [← Array.toArray_toList (xs := sl), es]
      subst em a3 a4 e2 a2
      rw [a1] at lk
      exact ⟨_, _, _, _, _, _, _, _, _, _, _, _, _, _, _, lk, a5⟩
    · cases h0
  · cases h0
def winB (x : Str) (K : PySem.W.Frag) : Bool := decide (PySem.W.specialIn K (.ref (He.ga K x)) "__getattribute__" = some (some (.builtin "type.__getattribute__"))) && (PySem.W.readsIn K (He.ga K x) (.type "type") && (match PySem.W.findCls K (.ref (He.ga K x)) (.type "type") "__init__" with
  | some (.val (.builtin b)) => decide (b = "ValueError.__init__")
  | _ => false))
/-- the base class, as its __init__ is looked up -/
structure WinC (K : PySem.W.Frag) (C : Addr) : Prop where
  ga : PySem.W.specialIn K (.ref C) "__getattribute__" = some (some (.builtin "type.__getattribute__"))
  rd : PySem.W.readsIn K C (.type "type") = true
  fd : PySem.W.findCls K (.ref C) (.type "type") "__init__" = some (.val (.builtin "ValueError.__init__"))
theorem winB_ok {x : Str} {K : PySem.W.Frag} (h : winB x K = true) : WinC K (He.ga K x) := by
  obtain ⟨h1, h⟩ := He.ba h
  obtain ⟨h2, h3⟩ := He.ba h
  refine ⟨of_decide_eq_true h1, h2, ?_⟩
  split at h3
  · rename_i b e
    rw [e, of_decide_eq_true h3]
  · cases h3
/-! ### Base.__init__(self, ..) -/
theorem pe_winit {X : Cx} {x : Str} {C : Addr} {e : Expr} {es : List Expr} {ta : TA} {q1 q2 pos : Pos} {pl : Sem Bool} (w : WinC X.K C) (hg : Gl X x) (hm : X.mg x = some (.ref C)) (ha : PA X (e :: es) ta)
    (hc : eval (.Call (.Attribute (.Name x q1) "__init__" q2) (e :: es) [] pos) X.env = (do
      let v ← eval (.Name x q1) X.env
      standAt q2.atName
      let (m, us) ← holding [v] (getMethod v "__init__" pl)
      callWith pos m us (backTo pos (starEach (e :: es) X.env)) (backToKw pos (keywordEach [] X.env))) := by rfl)
    (hdb : (x == ("__debug__" : Str)) = false := by decide) (he : starEach (e :: es) X.env = (false, eval e X.env) :: starEach es X.env := by rfl) (hpl : (backTo pos (starEach es X.env)).any (·.1) = false := by rfl) :
    PE X (.Call (.Attribute (.Name x q1) "__init__" q2) (e :: es) [] pos) (tVeI X.K ta) := ⟨fun pins s σ H Q I h => by
  refine PySem.W.methodCall_KW (ld_glob I hg hm (PySem.W.method_cls I.kIn w.ga (PySem.W.cls_value I.kIn w.rd w.fd (by decide +kernel) ?_)) hdb) hc
  have step := ha.run pos pins { s with toks := s.toks + 1 } σ H (fun vs H' => ∃ (a D : Addr) (ws : List V), vs = .ref a :: ws ∧ ws.length ≤ 1000 ∧ OexC X.K D ∧ H' a = some (exo a D none) ∧ Q .non H') (I.tok _) h
  refine PyProof.Rows.callWith_method1 (thn step fun us s1 hu => ?_) he hpl
  obtain ⟨vs, H1, I1, r1, a, D, ws, rfl, hl, T, ea, q⟩ := hu
  cases r1 with
  | cons ra rr =>
    cases ra
    refine oinit_ok T I1 ea ?_ fun s2 J => ⟨V.non, H1, J, rfl, q⟩
    have := Paired.length rr
    rw [sizeLine_eq]
    omega⟩
/-! ### __init__ -/
/-- what __init__ does with self and one number -/
def spFld (K : PySem.W.Frag) (C : Addr) (f : Str) : Sp := fun vs H Q _ => ∃ (a : Addr) (k : Int), vs = [.ref a, .int k] ∧ OexC K C ∧ PySem.W.findIn K (.ref C) f = some none ∧ H a = some (exo a C none) ∧
  ∀ dx, H dx = none → dx ≠ a → Q .non (upd (upd H dx (exd dx [(f, .int k)])) a (exo a C (some dx)))
theorem fld_run {K : PySem.W.Frag} {C : Addr} {f m : Str} {N : List Str} {vs : List V} {H : Hp} {Q : VK} {E : XK} (h : spFld K C f vs H Q E) :
    tSeq (tDrop (tVeI K (tCons (tVar 0) (tCons (tC (.str m)) tNil)))) (tOst K f (tVar 0) (tVar 1)) { nx := fun _ H' => Q .non H', rt := Q } (start N vs) H := by
  obtain ⟨a, k, rfl, T, hno, ea, q⟩ := h
  refine ⟨V.ref a, rfl, a, C, [V.str m], rfl, by simp, T, ea, ?_⟩
  exact ⟨V.int k, rfl, V.ref a, rfl, a, C, rfl, T, hno, .inl ⟨ea, fun dx h1 h2 => q dx h1 h2⟩⟩
/-- a class whose __init__ keeps a number -/
structure XiF (P : Program) (w : World) (K : PySem.W.Frag) (mg : Str → Option Value) (base : Heap) (x f : Str) (k : Nat) : Prop where
  ex : ∃ (C fI : Addr) (fd : FuncData) (ps : List Str), mg x = some (.ref C) ∧ OexC K C ∧ PySem.W.findIn K (.ref C) f = some none ∧ PySem.W.findIn K (.ref C) "__init__" = some (some (.ref fI)) ∧ PySem.W.typeIn K (.ref fI) = some (.type "function") ∧
    FnOk P w K mg base (L2.CX P w) k fI fd ps (spFld K C f) ∧ Binds K fd ps []
def raiseF {G : Type} (x f : Str) (sd : DSt) : D → G → OutS G
  | .int k, g => .er ⟨x, some (f, k)⟩ sd g
  | _, _ => .bad
def sRaiseF {G : Type} (x f : Str) (fe : DSt → G → Out G SV) : DSt → G → OutS G := fun sd g => OutS.of sd (toD fe sd g) fun d g1 => raiseF x f sd d g1
theorem exc_gone {H : Hp} {a dx : Addr} {u v w z : HO} (ha : H a = none) (n : dx ≠ a) : upd (del (upd (upd (upd H a u) dx v) a w) a) dx z = upd H dx z := funext fun b => by
  by_cases e : b = dx
  · rw [e, upd_same, upd_same]
  · rw [upd_ne e, upd_ne e]
    by_cases e2 : b = a
    · rw [e2, del_same, ha]
    · rw [del_ne e2, upd_ne e2, upd_ne e, upd_ne e2]
section
variable {X : Cx} {Z : Eff} {W : WX}
theorem ds_raiseF {x f : Str} {k : Nat} {e : Expr} {fe : DSt → Z.G → Out Z.G SV} {p cpos pos : Pos} (c : XiF X.prog X.w X.K X.mg X.base x f k) (hr : Room (k + 1) X.A) (hc : X.calm = true) (tk : Takes X W) (he : DE X Z W e fe) (hg : Gl X x := by rfl) (hdb : (x == ("__debug__" : Str)) = false := by decide)
    (hse : starEach [e] X.env = (false, eval e X.env) :: starEach [] X.env := by rfl) (hpl : (backTo cpos (starEach [] X.env)).any (·.1) = false := by rfl) :
    DS X Z W (.Raise (some (.Call (.Name x p) [e] [] cpos)) none pos) (sRaiseF x f fe) := by
  obtain ⟨C, fI, fd, ps, h1, h2, h3, h4, h5, F, hb⟩ := c.ex
  have ha : PA X [e] (tA' Z X.mg rlD W (lArgs [toD fe])) := da_cons he da_nil hse
  refine ds_of (ps_raise hc tk (pmk_oex h2 h4 h5 F hr hb .nil (fun _ _ _ _ _ _ _ h => by
    obtain ⟨_, _, _, _, _, _, _, _, _, _, _, _, z⟩ := h
    exact z.elim) hg h1 ha hdb hse hpl)) fun S F' O H σ sd g D I rs hR hp => ?_
  refine ⟨S, F', O, sd, g, I, rs, hR, ?_⟩
  unfold sRaiseF at hp
  show post _ _ (lArgs [toD fe] sd g)
  unfold lArgs
  cases e0 : toD fe sd g with
  | bad => rw [e0] at hp; exact hp.elim
  | er z g' =>
    rw [e0] at hp
    exact fun cls dx S' F'' H' st hR' ex => hp cls dx σ S' F'' O H' st (rs.mono st.ss) hR' ex
  | ok d g1 =>
    rw [e0] at hp
    have hp : endQ Z X.mg W D S F' O H (raiseF x f sd d g1) := hp
    intro vs S1 F1 H1 st hR1 rv
    cases d with
    | int n =>
      have ev : vs = [V.int n] := by
        cases rv with
        | cons r1 r2 =>
          cases r2
          rw [rb_int (O := nil) (.inl r1)]
      subst ev
      refine ⟨by simp, fun a hn => ⟨a, n, rfl, h2, h3, upd_same, fun dx hdx na => ⟨rfl, dx, [(f, .int n)], upd_same, ?_, ?_, ?_⟩⟩⟩
      · rw [upd_ne na, upd_same]
      · rw [upd_ne na] at hdx
        exact hdx
      · rw [upd_ne na] at hdx
        rw [exc_gone hn na]
        have st2 := Stp.new (o := .xd [(f, .int n)]) st.inn hdx
        have st3 := st.trans I st2
        exact hp _ (some dx) σ _ F1 O _ st3 (rs.mono st3.ss) (Z.mono _ _ _ _ st2.ss hR1) ⟨h1, dx, rfl, upd_same⟩
    | _ => exact hp.elim
end
end DL
/-! DLW: the head's Hook: what the names reach, and the statics -/
namespace DL
open PySem PySem.Spec PyProof.Rows L2
def asS (g : Addr → Option Obj) (n : Nat) : List Addr := He.asD g n ++ [cStatics]
abbrev frS (n : Nat) (g : Addr → Option Obj) : PySem.W.Frag := He.frT g (asS g n)
def obsS (n : Nat) (fa : List He.Fa) (fn : List He.DefD) (tf : List He.Defn) (ex : PySem.W.Frag → Bool) (g : Addr → Option Obj) : He.AlD × Bool := (He.obsD fa fn (frS n g), ex (frS n g) && He.tabsB g tf (frS n g))
structure SaysS (fa : List He.Fa) (fn : List He.DefD) (tf : List He.Defn) (ex : PySem.W.Frag → Bool) (h : Heap) (K : PySem.W.Frag) : Prop where
  d : He.SaysD fa fn K
  more : ex K = true
  tab : ∀ p ∈ tf, PySem.W.codeHdIn K (He.cT K p).1 (He.cT K p).2 = true ∧ K.lookup (He.cT K p).2 = none ∧ h.get? (He.cT K p).2 = some { cls := .none, data := .fields #[] }
theorem saysS_of {n : Nat} {fa : List He.Fa} {fn : List He.DefD} {tf : List He.Defn} {ex : PySem.W.Frag → Bool} {h : Heap} (e : obsS n fa fn tf ex h.get? = (He.valD fn, true)) : SaysS fa fn tf ex h (frS n h.get?) := by
  have e1 : He.obsD fa fn (frS n h.get?) = He.valD fn := congrArg (fun z : He.AlD × Bool => z.1) e
  obtain ⟨e2, e3⟩ := He.ba (congrArg (fun z : He.AlD × Bool => z.2) e : (ex (frS n h.get?) && He.tabsB h.get? tf (frS n h.get?)) = true)
  refine ⟨e1, e2, fun p hp => ?_⟩
  obtain ⟨t1, t2⟩ := He.ba (List.all_eq_true.mp e3 p hp)
  cases q : h.get? (He.cT (frS n h.get?) p).2 with
  | none => rw [q] at t2; cases t2
  | some o =>
    rw [q] at t2
    exact ⟨t1, He.frT_none q t2, congrArg some (He.emptyTab_eq t2)⟩
def hookS (n : Nat) (fa : List He.Fa) (fn : List He.DefD) (tf : List He.Defn) (ex : PySem.W.Frag → Bool) : PySem.W.Hook where
  α := He.AlD × Bool
  obs := fun s => obsS n fa fn tf ex s.heap.get?
  val := fun _ => (He.valD fn, true)
  says := fun _ h => ∃ K : PySem.W.Frag, K.In h ∧ SaysS fa fn tf ex h K
  of := fun _ _ e => ⟨_, He.frT_in, saysS_of e⟩
  keeps := fun _ _ _ ⟨K, hK, c⟩ k => ⟨K, PySem.W.Frag.In.keeps hK k, c.d, c.more, fun p hp => ⟨(c.tab p hp).1, (c.tab p hp).2.1, k _ _ (c.tab p hp).2.2⟩⟩
theorem obsS_eq {n : Nat} {fa : List He.Fa} {fn : List He.DefD} {tf : List He.Defn} {ex : PySem.W.Frag → Bool} {g : Addr → Option Obj} {s : Shared} (h : ∀ a, g a = s.heap.get? a) : obsS n fa fn tf ex g = (hookS n fa fn tf ex).obs s := by
  rw [show g = s.heap.get? from funext h]
  rfl
end DL
/-! DLX: zip of a list and a text -/
namespace DL
open PySem PySem.Spec PyProof.Rows L2
/-! ### zip(list, text) is made -/
abbrev zu1 (hp : Heap) (la : Addr) : Heap := hp.push { cls := .type "list_iterator", data := .fields #[.ref la, .int 0 0] }
abbrev zu2 (hp : Heap) (la : Addr) (tx : Str) (tt : Tok) : Heap := (zu1 hp la).push { cls := .type (strIterType tx), data := .fields #[.str tx tt, .int 0 0] }
abbrev zu3 (hp : Heap) (la : Addr) (tx : Str) (tt : Tok) : Heap := (zu2 hp la tx tt).push { cls := .type "tuple", data := .seq #[.ref hp.objs.size, .ref (zu1 hp la).objs.size] }
abbrev zu4 (hp : Heap) (la : Addr) (tx : Str) (tt : Tok) : Heap := (zu3 hp la tx tt).push { cls := .type "tuple", data := .seq #[.none, .none] }
abbrev zu5 (hp : Heap) (la : Addr) (tx : Str) (tt : Tok) : Heap := (zu4 hp la tx tt).push { cls := .type "zip", data := .fields #[.none, .bool false, .bool false, .ref (zu2 hp la tx tt).objs.size, .ref (zu3 hp la tx tt).objs.size] }
theorem meets_zipU (la : Addr) (xs : Array Value) (tx : Str) (tt : Tok) :
    Meets (Builtin.«zip.__new__» ⟨[.type "zip", .ref la, .str tx tt], []⟩) (fun _ R s => s.heap.IsList la xs ∧ R (.ok (.ret (.ref (zu4 s.heap la tx tt).objs.size))) { s with heap := zu5 s.heap la tx tt }) :=
  .of_wp fun prog w A R s q => by
    obtain ⟨hp, g, d, tk, os⟩ := s
    obtain ⟨hla, q⟩ := q
    have hsub := sub_zip
    have hl : Heap.IsList (Shared.heap ⟨hp, g, d, tk, os⟩) la xs := hla
    wp_walk using wpAny_pyIter_list hl, wpAny_pyIter_strU
    exact ⟨_, rfl, q⟩
section
variable {prog : Program} {w : World} {A : Around} {E : Value → Shared → Prop} {s : Shared}
theorem call_zipU {la : Addr} {xs : Array Value} {tx : Str} {tt : Tok} {Q : Value → Shared → Prop} (hla : s.heap.IsList la xs)
    (k : ∀ h2, IsZip h2 (s.heap.objs.size + 4) (s.heap.objs.size + 2) (s.heap.objs.size + 3) .none → IsTupOf2 h2 (s.heap.objs.size + 2) (.ref s.heap.objs.size) (.ref (s.heap.objs.size + 1)) →
      IsTupOf2 h2 (s.heap.objs.size + 3) .none .none → h2.IsListIter s.heap.objs.size la 0 → h2.IsStrIter (s.heap.objs.size + 1) (strIterType tx) tx tt 0 →
      (∀ c o, s.heap.get? c = some o → h2.get? c = some o) → Q (.ref (s.heap.objs.size + 4)) { s with heap := h2 }) :
    wpAny (model prog w) A (call (.type "zip") [.ref la, .str tx tt]) Q E s := by
  refine callType_new F.called_zip (by decide) (F.typeCall_zip_2 _ _) (F.newCall_zip_2 _ _) (fun ob => F.args_object_init_3 ob _ _) F.entry_zip_new (meets_zipU la xs tx tt) ⟨hla, ?_⟩
  have n1 : (zu1 s.heap la).objs.size = s.heap.objs.size + 1 := Heap.size_push ..
  have n2 : (zu2 s.heap la tx tt).objs.size = s.heap.objs.size + 2 := by rw [Heap.size_push, n1]
  have n3 : (zu3 s.heap la tx tt).objs.size = s.heap.objs.size + 3 := by rw [Heap.size_push, n2]
  have n4 : (zu4 s.heap la tx tt).objs.size = s.heap.objs.size + 4 := by rw [Heap.size_push, n3]
  have up : ∀ {h : Heap} {o : Obj} {c u}, h.get? c = some u → (h.push o).get? c = some u := fun q => Heap.get?_push_of_some _ q
  have e5 : (zu5 s.heap la tx tt).get? (zu4 s.heap la tx tt).objs.size = some _ := Heap.get?_push_size _ rfl
  have e4 : (zu5 s.heap la tx tt).get? (zu3 s.heap la tx tt).objs.size = some _ := up (Heap.get?_push_size _ rfl)
  have e3 : (zu5 s.heap la tx tt).get? (zu2 s.heap la tx tt).objs.size = some _ := up (up (Heap.get?_push_size _ rfl))
  have e2 : (zu5 s.heap la tx tt).get? (zu1 s.heap la).objs.size = some _ := up (up (up (Heap.get?_push_size _ rfl)))
  have e1 : (zu5 s.heap la tx tt).get? s.heap.objs.size = some _ := up (up (up (up (Heap.get?_push_size _ rfl))))
  show _ ∧ _
  rw [n2, n3, n4] at e5
  rw [n1, n2] at e3
  rw [n3] at e4
  rw [n1] at e2
  rw [n4]
  exact ⟨⟨_, e5, rfl⟩, k _ e5 e3 e4 ⟨_, e1, rfl, rfl⟩ ⟨_, e2, rfl, rfl⟩ fun c o q => up (up (up (up (up q))))⟩
end
/-! ### its turns -/
def Itzu (K : PySem.W.Frag) (a : Addr) (x : Str) : It :=
  ⟨fun i H => (∃ xs v, SqL K H a xs ∧ xs[i]? = some v) ∧ i < x.cps.size,
   fun i H v H' => ∃ T y c, v = .ref T ∧ H T = none ∧ H' = upd H T (.tup [y, .str ⟨#[c]⟩]) ∧ (∀ xs, SqL K H a xs → xs[i]? = some y) ∧ x.cps[i]? = some c,
   fun i H => ∃ xs : List V, SqL K H a xs ∧ i ≤ xs.length ∧ i ≤ x.cps.size ∧ (i = xs.length ∨ i = x.cps.size)⟩
structure ZuSep (z TI TO i1 i2 a : Addr) : Prop where
  s : ZipSep2 z TI TO i1 i2 [i1, a] [i2]
  ai1 : a ≠ i1
theorem turn_zipU {P : Program} {w : World} {K : PySem.W.Frag} {elts : List Expr} {kk : Nat} {tpos : Pos} {a z TI TO i1 i2 : Addr} (x : Str) (t : Tok) (D : ZuSep z TI TO i1 i2 a) :
    Turn P w K (.Tuple elts kk tpos) (Itzu K a x) [z, TI, TO, i1, i2] z (fun i h => IsZip h z TI TO .none ∧ IsTupOf2 h TI (.ref i1) (.ref i2) ∧ (∃ x y, IsTupOf2 h TO x y) ∧ h.IsListIter i1 a i ∧ h.IsStrIter i2 (strIterType x) x t i) where
  mem := by simp
  obj := fun i h st c hc => by
    obtain ⟨qz, qI, ⟨u, u2, qO⟩, ⟨oa, ea, _, da⟩, ⟨ob, eb, _, db⟩⟩ := st
    have hc : c = z ∨ c = TI ∨ c = TO ∨ c = i1 ∨ c = i2 := by simpa using hc
    rcases hc with e | e | e | e | e
    · rw [e]; exact ⟨_, qz, fun v q => nomatch q⟩
    · rw [e]; exact ⟨_, qI, fun v q => nomatch q⟩
    · rw [e]; exact ⟨_, qO, fun v q => nomatch q⟩
    · rw [e]; exact ⟨oa, ea, fun v q => by rw [da] at q; cases q⟩
    · rw [e]; exact ⟨ob, eb, fun v q => by rw [db] at q; cases q⟩
  keep := fun i h h' st k => by
    obtain ⟨qz, qI, ⟨u, u2, qO⟩, ha, hb⟩ := st
    obtain ⟨ob, q1, q2⟩ := hb
    exact ⟨k z (by simp) _ qz, k TI (by simp) _ qI, ⟨u, u2, k TO (by simp) _ qO⟩, ha.at fun o q => k i1 (by simp) o q, ⟨ob, k i2 (by simp) ob q1, q2⟩⟩
  item := by
    intro X hP hw hK hc i pins s σ H E I hf st hg
    subst hP hw hK
    obtain ⟨qz, qI, ⟨u0, v0, qO⟩, ha, hb⟩ := st
    obtain ⟨⟨xs, y, hq, hy⟩, hlt⟩ := hg
    obtain ⟨its, rv, p, _⟩ := I.list hq
    have hh : X.A.in1.handled = none := I.ok.hd hc
    have hzl : z < s.heap.objs.size := Heap.lt_size qz
    have hn : i < its.toArray.size := by
      have e := rv.length
      have : i < xs.length := by
        obtain ⟨q, _⟩ := List.getElem?_eq_some_iff.mp hy
        exact q
      simp; omega
    refine wpAny_pyNext_zipD2_item D.s (Draws.list hh i1 a D.ai1 its.toArray) (Draws.text hh i2 x t) qz qI qO ⟨ha, p.isList⟩ hb hn hlt fun x1 x2 h' tk p1 p2 z' o' a' b' T' hsz hk => ?_
    obtain ⟨c, tu, hcx, rfl⟩ := p2
    obtain ⟨ra, _⟩ := a'
    obtain ⟨y', hy', ry⟩ : ∃ y', xs[i]? = some y' ∧ RelV y' x1 := by
      obtain ⟨u, hu, ru⟩ := rv.get hy
      have e : its[i]? = some x1 := by simpa using p1
      rw [hu] at e
      cases e
      exact ⟨y, hy, ru⟩
    refine ⟨_, rfl, wpAny_letOwnedTupleGo_zip (s := { s with heap := h', toks := tk }) z' fun h2 z2 sb => ?_⟩
    have T2 : h2.get? s.heap.objs.size = some { cls := .type "tuple", data := .seq #[x1, .str ⟨#[c]⟩ tu] } := (sb.2 _ (Nat.ne_of_gt hzl)).trans T'
    have nw : ObjOk X.prog X.w (upd H s.heap.objs.size (.tup [y', .str ⟨#[c]⟩])) h2 s.heap.objs.size (.tup [y', .str ⟨#[c]⟩]) :=
      ⟨by show 2 ≤ sizeLine; decide, [x1, .str ⟨#[c]⟩ tu], .cons ry (.cons ⟨_, rfl⟩ .nil), ⟨_, T2, rfl, _, rfl⟩⟩
    have I1 : Inv X pins σ (upd H s.heap.objs.size (.tup [y', .str ⟨#[c]⟩])) { s with heap := h2, toks := tk } :=
      I.turnedNew (ch := [z, TI, TO, i1, i2]) (fun b ob hb q => (sb.2 b (fun e => hb (by simp [e]))).trans (hk b ob (fun e => hb (by simp [e])) (fun e => hb (by simp [e])) (fun e => hb (by simp [e])) (fun e => hb (by simp [e])) q)) hf (Nat.le_refl _) nw
    have hz1 : i1 ≠ z := fun e => D.s.zi1 e.symm
    have hz2 : i2 ≠ z := fun e => D.s.zi2 e.symm
    refine ⟨.ref s.heap.objs.size, _, I1, rfl, ⟨_, y', c, rfl, I.hok.fresh (Nat.le_refl _), rfl, fun l hl => by rw [I.list_inj hl hq]; exact hy', hcx⟩, ⟨z2, ?_, ⟨x1, .str ⟨#[c]⟩ tu, ?_⟩, ?_, ?_⟩, fun b mb => ?_⟩
    · exact (sb.2 _ D.s.TIz).trans (hk _ _ D.s.TIz D.s.TITO D.s.TIi1 D.s.TIi2 qI)
    · exact (sb.2 _ D.s.TOz).trans o'
    · exact ra.at fun o q => (sb.2 _ hz1).trans q
    · obtain ⟨oo, q1, q2⟩ := b'
      exact ⟨oo, (sb.2 i2 hz2).trans q1, q2⟩
    · have hb' : b < s.heap.objs.size := by
        have e : b = z ∨ b = TI ∨ b = TO ∨ b = i1 ∨ b = i2 := by simpa using mb
        rcases e with e | e | e | e | e
        · rw [e]; exact hzl
        · rw [e]; exact Heap.lt_size qI
        · rw [e]; exact Heap.lt_size qO
        · rw [e]; obtain ⟨_, q, _⟩ := ha; exact Heap.lt_size q
        · rw [e]; obtain ⟨_, q, _⟩ := hb; exact Heap.lt_size q
      rw [upd_ne (Nat.ne_of_lt hb')]
      exact (hf b mb).1
  done := by
    intro X hP hw hK hc i pins s σ H E I hf st hg
    subst hP hw hK
    obtain ⟨qz, qI, ⟨u0, v0, qO⟩, ha, hb⟩ := st
    obtain ⟨xs, hq, l1, l2, l3⟩ := hg
    obtain ⟨its, rv, p, _⟩ := I.list hq
    have hh : X.A.in1.handled = none := I.ok.hd hc
    have e := rv.length
    exact wpAny_pyNext_zipD2_end D.s (Draws.list hh i1 a D.ai1 its.toArray) (Draws.text hh i2 x t) qz qI qO ⟨ha, p.isList⟩ hb (by simp; omega) l2 (by rcases l3 with q | q; exact .inl (by simp; omega); exact .inr q) fun h' tk hk => ⟨rfl, I.turnedL (t' := tk) (ch := [z, TI, TO, i1, i2]) (fun c o hb q =>
      hk c o (fun e => hb (by simp [e])) (fun e => hb (by simp [e])) (fun e => hb (by simp [e])) (fun e => hb (by simp [e])) q) hf⟩
  self := fun A i s Q E st h => wpAny_pyIter_zip st.1 h
def iZipU (K : PySem.W.Frag) (ta : TA) : TI := fun σ H R => ta σ H fun vs H1 => ∃ a xs x, vs = [.ref a, .str x] ∧ SqL K H1 a xs ∧ R (Itzu K a x) H1
theorem zu_sep {n a : Nat} (h : a < n) : ZuSep (n + 4) (n + 2) (n + 3) n (n + 1) a := by
  have ne : ∀ {i j : Nat}, i ≠ j → (i : Addr) ≠ j := fun h => h
  have k1 : n + 2 ≠ n + 4 := by omega
  have k2 : n + 3 ≠ n + 4 := by omega
  have k3 : n + 2 ≠ n + 3 := by omega
  have k4 : n + 2 ≠ n := by omega
  have k5 : n + 4 ≠ n := by omega
  have k6 : n + 4 ≠ a := by omega
  have k7 : n + 3 ≠ n := by omega
  have k8 : n + 3 ≠ a := by omega
  have k9 : n + 2 ≠ n + 1 := by omega
  have ka : n + 4 ≠ n + 1 := by omega
  have kb : n + 3 ≠ n + 1 := by omega
  have kc : n ≠ n + 1 := by omega
  have kd : n + 1 ≠ n := by omega
  have ke : n + 1 ≠ a := by omega
  have m2 : ∀ {x y z : Nat}, x ≠ y → x ≠ z → ¬ x ∈ ([y, z] : List Nat) := fun h1 h2 h => by
    rcases List.mem_cons.mp h with e | e
    · exact h1 e
    · exact h2 (List.mem_singleton.mp e)
  have m1 : ∀ {x y : Nat}, x ≠ y → ¬ x ∈ ([y] : List Nat) := fun h1 h => h1 (List.mem_singleton.mp h)
  exact ⟨⟨k1, k2, k3, k4, List.mem_cons_self, m2 k5 k6, m2 k7 k8, k9, List.mem_cons_self, m1 ka, m1 kb, m1 kc, m2 kd ke⟩, Nat.ne_of_lt h⟩
theorem pi_zipU {X : Cx} {e e2 : Expr} {ta : TA} {p pos tpos : Pos} {elts : List Expr} {kk : Nat} (hg : Gl X "zip") (hm : X.mg "zip" = none) (ha : PA X [e, e2] ta)
    (h1 : starEach [e, e2] X.env = (false, eval e X.env) :: starEach [e2] X.env := by rfl) (h2 : (backTo pos (starEach [e2] X.env)).any (·.1) = false := by rfl) :
    PI X (.Tuple elts kk tpos) (.Call (.Name "zip" p) [e, e2] [] pos) (iZipU X.K ta) := by
  refine ⟨fun pins s σ H R I q => ?_⟩
  refine Call_ (ld_blt I hg hm PyProof.Rows.boot_zip (PyProof.Rows.callWith_type1 (thn (ha.run pos pins s σ H _ I q) fun us s1 ⟨vs, H1, I1, r1, q1⟩ => ?_) h1 h2))
  obtain ⟨a, xs, x, ev, hq, q⟩ := q1
  subst ev
  cases r1 with
  | cons ra rr =>
    cases rr with
    | cons rb rr =>
      cases rr
      cases ra
      obtain ⟨t, rfl⟩ := rb
      obtain ⟨its, rv, p1, _⟩ := I1.list hq
      refine call_zipU p1.isList fun h' qz qI qO qa qb hk => wpAny_pyIter_zip qz ?_
      have I2 : Inv X pins σ H1 { s1 with heap := h' } := I1.kept (t' := s1.toks) hk
      refine ⟨s1.heap.objs.size + 4, [s1.heap.objs.size + 4, s1.heap.objs.size + 2, s1.heap.objs.size + 3, s1.heap.objs.size, s1.heap.objs.size + 1], _, _, H1, rfl, I2, turn_zipU x t (zu_sep p1.lt), ⟨qz, qI, ⟨_, _, qO⟩, qa, qb⟩, fun c hc => ?_, q⟩
      have hc : c = s1.heap.objs.size + 4 ∨ c = s1.heap.objs.size + 2 ∨ c = s1.heap.objs.size + 3 ∨ c = s1.heap.objs.size ∨ c = s1.heap.objs.size + 1 := by simpa using hc
      have hle : s1.heap.objs.size ≤ c := by
        rcases hc with z | z | z | z | z
        · rw [z]; exact Nat.le_add_right _ _
        · rw [z]; exact Nat.le_add_right _ _
        · rw [z]; exact Nat.le_add_right _ _
        · rw [z]; exact Nat.le_refl _
        · rw [z]; exact Nat.le_add_right _ _
      exact I1.fpOk hle (I1.hok.fresh hle)
/-! ### by data -/
def zipF : List D → List D → List D
  | a :: as, b :: bs => .tup [a, b] :: zipF as bs
  | _, _ => []
theorem zipF_len : ∀ (as bs : List D), (zipF as bs).length = min as.length bs.length
  | [], _ => by simp [zipF]
  | _ :: _, [] => by simp [zipF]
  | a :: as, b :: bs => by
    show (zipF as bs).length + 1 = _
    rw [zipF_len as bs, List.length_cons, List.length_cons]
    omega
theorem zipF_get : ∀ (as bs : List D) (i : Nat) (a b : D), as[i]? = some a → bs[i]? = some b → (zipF as bs)[i]? = some (.tup [a, b])
  | [], _, _, _, _, h, _ => by simp at h
  | _ :: _, [], _, _, _, _, h => by simp at h
  | a :: as, b :: bs, 0, _, _, h, h' => by simp at h h'; subst h h'; rfl
  | a :: as, b :: bs, i + 1, c, d, h, h' => by
    show (zipF as bs)[i]? = _
    exact zipF_get as bs i c d (by simpa using h) (by simpa using h')
theorem yld_tup2 {S F O H : Hp} {T : Addr} {u v : V} {c d : D} (I : Inn S F O H) (hT : H T = none) (r : Rp S u c) (r' : Rp S v d) : ∃ S', Stp S F O H S' F O (upd H T (.tup [u, v])) ∧ Rp S' (.ref T) (.tup [c, d]) := by
  refine ⟨_, Stp.new I hT, .at upd_same (.tup ?_)⟩
  exact .cons (r.mono (same_new (I.noS hT))) (.cons (r'.mono (same_new (I.noS hT))) .nil)
theorem jit_zipU {K : PySem.W.Frag} {S0 O0 : Hp} {p : Addr} {ds : List D} {vs : List V} (x : List Nat) (h : ∀ S F O H, Inn S F O H → Same S0 S → Same O0 O → H p = some (.lst vs)) (r : RpL S0 vs ds) : JIt S0 O0 (Itzu K p (mk x)) (zipF ds (signs x)) where
  go S F O H i I a b hi := by
    have q := h S F O H I a b
    rw [zipF_len, ← r.length, signs, List.length_map] at hi
    have h1 : i < vs.length := by omega
    exact ⟨⟨vs, vs[i], SqL.of q, List.getElem?_eq_getElem h1⟩, by show i < x.length; omega⟩
  yld S F O H i v H' I a b hi y := by
    have q := h S F O H I a b
    obtain ⟨T, u, c, e1, hT, e2, y1, y2⟩ := y
    subst e1 e2
    obtain ⟨d, h1, h2⟩ := r.get' (y1 vs (SqL.of q))
    have y2 : x[i]? = some c := by simpa [mk] using y2
    obtain ⟨S', st, rp⟩ := yld_tup2 I hT (h2.mono a) (Rp.str (S := S) [c])
    exact ⟨S', _, st, zipF_get _ _ _ _ _ h1 (signs_get y2), rp⟩
  stop S F O H I a b := by
    refine ⟨vs, SqL.of (h S F O H I a b), ?_⟩
    rw [zipF_len, r.length, signs, List.length_map]
    show _ ∧ min ds.length x.length ≤ x.length ∧ (_ ∨ min ds.length x.length = x.length)
    omega
def zipB : D → D → Option (List D)
  | .lst ds, .str x => some (zipF ds (signs x))
  | _, _ => none
section
variable {X : Cx} {Z : Eff} {W : WX} {e e2 : Expr} {pos p : Pos} {f f2 : DSt → Z.G → Out Z.G SV} {k : Bool}
def fZip {G : Type} (k : Bool) (f f2 : DSt → G → Out G SV) : DSt → G → Out G (List D) := fun sd g => (lArgs ([f, f2].map (toK k)) sd g).bind fun ds g1 => Out.lift (match ds with
  | [d, d2] => zipB d d2
  | _ => none) g1
theorem rlk_two {S O : Hp} {vs : List V} {d d2 : D} (r : rlK k S O vs [d, d2]) : ∃ v v2, vs = [v, v2] ∧ (if k = true then RpB S O v d else Rp S v d) ∧ (if k = true then RpB S O v2 d2 else Rp S v2 d2) := by
  cases k with
  | true => exact rbl_two r
  | false =>
    have r : RpL S vs [d, d2] := r
    cases r with
    | cons a b =>
      cases b with
      | cons b c => cases c; exact ⟨_, _, rfl, a, b⟩
theorem di_zip {elts : List Expr} {kk : Nat} {tpos : Pos} (ha : DKs k X Z W [e, e2] [f, f2]) (hm : X.mg "zip" = none) (hg : Gl X "zip" := by rfl) (h1 : starEach [e, e2] X.env = (false, eval e X.env) :: starEach [e2] X.env := by rfl) (h2 : (backTo pos (starEach [e2] X.env)).any (·.1) = false := by rfl) :
    DI k X Z W (.Tuple elts kk tpos) (.Call (.Name "zip" p) [e, e2] [] pos) (fZip k f f2) := ⟨fun pins s σ H R I q => by
  obtain ⟨S, F, O, sd, g, i, r, hR, hp⟩ := q
  refine (pi_zipU hg hm ha h1 h2).run pins s σ H R I ?_
  have hp := post_bind.mp hp
  cases e0 : lArgs ([f, f2].map (toK k)) sd g with
  | bad => rw [e0] at hp; exact hp.elim
  | er x g' =>
    rw [e0] at hp
    exact ⟨S, F, O, sd, g, i, r, hR, by rw [e0]; exact hp⟩
  | ok ds g' =>
    rw [e0] at hp
    obtain ⟨ds2, e2, q2⟩ := post_lift.mp hp
    split at e2
    · rename_i d d2
      unfold zipB at e2
      split at e2
      · cases e2
        refine ⟨S, F, O, sd, g, i, r, hR, ?_⟩
        rw [e0]
        intro vs S1 F1 H1 st1 hR1 r1
        obtain ⟨v, v2, rfl, r2, r3⟩ := rlk_two r1
        obtain ⟨p, xs, rfl, h1, h2, h3⟩ := rp_seq st1.inn r2
        rw [rb_str (kb_of r3)]
        exact ⟨p, xs, _, rfl, SqL.of h1, q2 _ _ _ _ st1 hR1 (jit_zipU _ h3 h2)⟩
      · cases e2
    · cases e2⟩
end
end DL
/-! DLY: tuple(..), str of a text, extend, f(..).append, a displayed dict of texts, d.get(k, x); dicts and tuples of the module's top -/
namespace DL
open PySem PySem.Spec PyProof.Rows L2
/-! ### tuple(..), str(..) -/
def cTup : List D → Option SV
  | [.lst x] => some (.fr (.tup x))
  | [.tup x] => some (.fr (.tup x))
  | _ => none
theorem cs_tup {K : PySem.W.Frag} : ClS (fun xs H Q => ∃ p ys, xs = [.ref p] ∧ ((SqL K H p ys ∧ ∀ l, H l = none → Q (.ref l) (upd H l (.tup ys))) ∨ (SqT K H p ys ∧ Q (.ref p) H))) cTup := fun S F O H vs ds z Q I r e k => by
  unfold cTup at e
  split at e
  · cases e
    obtain ⟨v, rfl, r1⟩ := rbl_one r
    obtain ⟨p, vs, rfl, hp, rp⟩ := rb_lst I r1
    exact ⟨p, vs, rfl, .inl ⟨SqL.of hp, new_tup I rp k⟩⟩
  · cases e
    obtain ⟨v, rfl, r1⟩ := rbl_one r
    rcases r1 with r1 | ⟨p, o, e1, e2, e3⟩
    · obtain ⟨p, vs, rfl, hp, rp⟩ := rp_tup I r1
      exact ⟨p, vs, rfl, .inr ⟨SqT.of hp, k _ S H (Stp.refl I) r1⟩⟩
    · exact absurd rfl (e3.2 _)
  · cases e
noncomputable def cStrA : List D → Option SV
  | [.str x] => some (.fr (.str x))
  | ds => cStr ds
def rStrA : List V → Hp → VK → Prop := fun xs H Q => (∃ i : Int, xs = [.int i] ∧ i.natAbs.log2 < 1920 ∧ Q (.str (toString i)) H) ∨ ∃ a, xs = [.str a] ∧ Q (.str a) H
theorem call_strA {X : Cx} : CallR X (.type "str") rStrA := CallR.or call_str_int SkE.call_str_str
theorem cs_strA : ClS rStrA cStrA := fun S F O H vs ds z Q I r e k => by
  unfold cStrA at e
  split at e
  · cases e
    obtain ⟨v, rfl, r1⟩ := rbl_one r
    rw [rb_str r1]
    exact .inr ⟨_, rfl, k _ S H (Stp.refl I) (.str _)⟩
  · exact .inl (cs_str S F O H vs _ z Q I r e k)
section
variable {X : Cx} {Z : Eff} {W : WX} {st : Stmt} {sts rest : List Stmt} {e a b c o i i2 : Expr} {es : List Expr} {pos p : Pos} {S F O H S1 F1 O1 H1 : Hp} {σ : L2.St} {sd : DSt} {g : Z.G} {f fa fb fc fo fi fx : DSt → Z.G → Out Z.G SV}
/-! ### xs.extend(ys) -/
def sExt {G : Type} (i : Nat) (f : DSt → G → Out G SV) : DSt → G → OutS G := fun sd g => match ownL i sd with
  | some ds => OutS.of sd (toB f sd g) fun d g1 => match d with
    | .lst es => if ds.length + es.length ≤ lim then .nx (sd.set i (some (.ow (.lst (ds ++ es))))) g1 else .bad
    | _ => .bad
  | none => .bad
theorem ds_ext {i : Nat} {x : Str} {apos cpos p1 : Pos} {fe : DSt → Z.G → Out Z.G SV} (he : DE X Z W e fe) (hN : X.N[i]? = some x := by rfl) (hv : Vis X.env.scope x := by first | exact Or.inl rfl | exact Or.inr (Or.inl rfl) | exact Or.inr (Or.inr rfl)) (hd : (x == ("__debug__" : Str)) = false := by decide)
    (hcd : (x == ("__classdict__" : Str)) = false := by decide) (hs : swapsWith (.Call (.Attribute (.Name x p1) "extend" apos) [e] [] cpos) none pos.line X.env = pure false := by rfl)
    (hb0 : attributeBase (.Name x p1) "extend" X.env (eval (.Name x p1) X.env) = eval (.Name x p1) X.env := by rfl)
    (hf0 : ((backTo cpos (starEach [e] X.env)).all (fun x => !x.1) && (backToKw cpos (keywordEach [] X.env)).all (fun x => x.1.isSome) && decide ([e].length + ([] : List Keyword).length + (if ([] : List Keyword).isEmpty then 0 else 1) < 30)) = true := by rfl)
    (hl0 : (apos.endLine == cpos.line) = true := by rfl) (hse : starEach [e] X.env = (false, eval e X.env) :: starEach [] X.env := by rfl) (hp0 : (backTo cpos (starEach [] X.env)).any (·.1) = false := by rfl) :
    DS X Z W (.Expr (.Call (.Attribute (.Name x p1) "extend" apos) [e] [] cpos) pos) (sExt i fe) :=
  ds_of (ps_expr (pe_bm PySem.F.plainAttrs_list PySem.F.slot_list_extend PySem.F.type_list_extend mt_extend (pe_var hN hv hd hcd) (pa_cons he pa_nil hse) hb0 hf0 hl0 hse hp0) hs) fun S F O H σ sd g D I rs hR hp => by
    have kk : EG Z X.mg rB W (tE Z X.mg rV W fe) (toB fe) := eg_b eg_t
    unfold sExt at hp
    cases e0 : ownL i sd with
    | none => rw [e0] at hp; exact hp.elim
    | some ds =>
      rw [e0] at hp
      obtain ⟨q, vs, a, b, c⟩ := rs.ownL e0
      refine ⟨_, a, .inl ⟨rfl, _, SqL.of (I.o _ _ b)⟩, ?_⟩
      refine of_eg kk I rs hR hp fun d g' v S' F' H' st hR' rv rs' hq => ?_
      split at hq
      · rename_i es
        split at hq
        · rename_i hlt
          have b' : H' q = some (.lst vs) := st.inn.o _ _ b
          obtain ⟨q2, ws, rfl, hq2, rq⟩ := rb_lst st.inn rv
          refine ⟨q, q2, vs, ws, rfl, rfl, b', hq2, by rw [c.length, rq.length, lim_eq]; exact hlt, ?_⟩
          have w := Stp.write (o' := .lst (vs ++ ws)) st.inn b
          exact hq σ S' F' (upd O q (.lst (vs ++ ws))) _ (st.trans I w) (rs'.write (ownL_get e0) a (rw_lst ((c.mono st.ss).app rq))) hR'
        · exact hq.elim
      · exact hq.elim
/-! ### f(..).append(v): what f answered is nobody's -/
def sAppE {G : Type} (f fv : DSt → G → Out G SV) : DSt → G → OutS G := fun sd g => OutS.of sd (f sd g) fun x g1 => match x with
  | .ow (.lst ds) => OutS.of sd (toD fv sd g1) fun _ g2 => if ds.length < lim then .nx sd g2 else .bad
  | _ => .bad
theorem ds_appE {apos cpos : Pos} {fo fe : DSt → Z.G → Out Z.G SV} (ho : DE X Z W o fo) (he : DE X Z W e fe) (hs : swapsWith (.Call (.Attribute o "append" apos) [e] [] cpos) none pos.line X.env = pure false := by rfl)
    (hb0 : attributeBase o "append" X.env (eval o X.env) = eval o X.env := by rfl)
    (hf0 : ((backTo cpos (starEach [e] X.env)).all (fun x => !x.1) && (backToKw cpos (keywordEach [] X.env)).all (fun x => x.1.isSome) && decide ([e].length + ([] : List Keyword).length + (if ([] : List Keyword).isEmpty then 0 else 1) < 30)) = true := by rfl)
    (hl0 : (apos.endLine == cpos.line) = true := by rfl) (hse : starEach [e] X.env = (false, eval e X.env) :: starEach [] X.env := by rfl) (hp0 : (backTo cpos (starEach [] X.env)).any (·.1) = false := by rfl) :
    DS X Z W (.Expr (.Call (.Attribute o "append" apos) [e] [] cpos) pos) (sAppE fo fe) :=
  ds_of (ps_expr (pe_bm PySem.F.plainAttrs_list PySem.F.slot_list_append PySem.F.type_list_append mt_append ho (pa_cons he pa_nil hse) hb0 hf0 hl0 hse hp0) hs) fun S F O H σ sd g D I rs hR hp => by
    have kk : EG Z X.mg rD W (tE Z X.mg rV W fe) (toD fe) := eg_d eg_t
    refine of_eg (eg_t (f := fo)) I rs hR hp fun x g1 v S1 F1 H1 st1 hR1 rv rs1 q1 => ?_
    split at q1
    · rename_i ds
      obtain ⟨q, u, e1, e2, e3, e4, e5, e6, e7⟩ := rv
      subst e1
      obtain ⟨e3, _⟩ := e3
      cases e3 with
      | @lst vs _ r3 =>
        refine ⟨.inl ⟨rfl, _, SqL.of e2⟩, ?_⟩
        refine kk S1 F1 O H1 σ sd g1 _ st1.inn rs1 hR1 ?_
        cases e : toD fe sd g1 with
        | bad => rw [e] at q1; exact q1.elim
        | er x g' =>
          rw [e] at q1
          exact fun cls dx S' F' H' st' hR' ex => q1 cls dx σ S' F' O H' (st1.trans I st') (rs1.mono st'.ss) hR' ex
        | ok d g2 =>
          rw [e] at q1
          intro w S2 F2 H2 st2 hR2 rw2
          have q2 : endQ Z X.mg W D S F O H (if ds.length < lim then .nx sd g2 else .bad) := q1
          split at q2
          · rename_i hlt
            have h2 : H2 q = some (.lst vs) := st2.keep _ _ e2 e5 e6
            have hs2 : S2 q = none := st2.none_s e2 e4 e5 e6
            have hf2 : F2 q = none := st2.none_f e2 e5
            refine ⟨q, vs, w, rfl, rfl, h2, by rw [r3.length, lim_eq]; exact hlt, ?_⟩
            exact q2 σ S2 F2 O _ ((st1.trans I st2).tempW e7 hs2 hf2 e6) (rs1.mono st2.ss) hR2
          · exact q2.elim
    · exact q1.elim
/-! ### {k: v, ..}, texts -/
def kvD (kvs : List (List Nat × List Nat)) : List (Key × D) := kvs.map fun kv => (.inr (mk kv.1), .str kv.2)
def kvV (kvs : List (List Nat × List Nat)) : List (Key × V) := kvs.map fun kv => (.inr (mk kv.1), .str (mk kv.2))
theorem rpk_kv {S : Hp} : ∀ kvs : List (List Nat × List Nat), RpK S (kvV kvs) (kvD kvs)
  | [] => .nil
  | _ :: r => .cons (.str _) (rpk_kv r)
def fDsp {G : Type} (kvs : List (List Nat × List Nat)) : DSt → G → Out G SV := fun _ g => .ok (.ow (.dk (kvD kvs))) g
theorem de_dsp3 {k1 k2 k3 v1 v2 v3 : Str} {j1 j2 j3 l1 l2 l3} {q1 q2 q3 r1 r2 r3 : Pos} (kvs : List (List Nat × List Nat)) (he : kvV kvs = [(.inr k1, .str v1), (.inr k2, .str v2), (.inr k3, .str v3)] := by rfl) (hm : mergeK [] (kvV kvs) = kvV kvs := by rfl) :
    DE X Z W (.Dict [some (.Constant (.str k1) j1 q1), some (.Constant (.str k2) j2 q2), some (.Constant (.str k3) j3 q3)] [.Constant (.str v1) l1 r1, .Constant (.str v2) l2 r2, .Constant (.str v3) l3 r3] pos) (fDsp kvs) :=
  de_of (pe_disp (pps_cons pe_str pe_str (pps_cons pe_str pe_str (pps_cons pe_str pe_str pps_nil))) rfl rfl (fun z => nomatch z) (by show 3 ≤ 15; omega)) fun S F O H σ sd g Q I rs hR hp => by
    intro p hn
    have st0 := Stp.temp (o := .dK []) I hn
    refine ⟨upd_same, kvV kvs, by rw [he]; rfl, by rw [he]; show 3 ≤ 15; omega, ?_⟩
    rw [hm]
    exact hp _ S F _ (st0.tempW hn (I.noS hn) (I.noF hn) (I.noO hn)) hR ⟨p, _, rfl, upd_same, ⟨.dk (rpk_kv kvs), fun xs z => nomatch z⟩, I.noS hn, I.noF hn, I.noO hn, hn⟩
/-! ### d.get(k, x) -/
def fDGet2 {G : Type} (fo fi fx : DSt → G → Out G SV) : DSt → G → Out G SV := fun sd g => (toB fo sd g).bind fun x g1 => if isDk x = true then (toB fi sd g1).bind fun y g2 => (toD fx sd g2).bind fun z g3 => match DL.getD x y with
  | some (some d) => .ok (.fr d) g3
  | some none => .ok (.fr z) g3
  | none => .bad
  else .bad
theorem de_get2 {j : Nat} {apos : Pos} (ho : DE X Z W o fo) (hi : DE X Z W i fi) (hx : DE X Z W i2 fx) (hr : Room (j + 1) X.A) (m : M2 X o "get" apos i i2 pos := by exact ⟨rfl, rfl, rfl, rfl⟩) : DE X Z W (.Call (.Attribute o "get" apos) [i, i2] [] pos) (fDGet2 fo fi fx) :=
  de_of (pe_dget2 (by have := units1 hr; omega) ho hi hx m) fun S F O H σ sd g Q I rs hR hp => by
    have ko : EG Z X.mg rB W (tE Z X.mg rV W fo) (toB fo) := eg_b eg_t
    have ki : EG Z X.mg rB W (tE Z X.mg rV W fi) (toB fi) := eg_b eg_t
    have kx : EG Z X.mg rD W (tE Z X.mg rV W fx) (toD fx) := eg_d eg_t
    refine ko S F O H σ sd g _ I rs hR (post_mono (post_bind.mp hp) (fun dx g1 q1 x S1 F1 H1 st1 hR1 rx => ?_) fun _ _ q => q)
    split at q1
    · rename_i hd
      obtain ⟨q, rfl, hq⟩ := isD_of st1.inn rx hd
      refine ⟨q, rfl, hq, ki S1 F1 O H1 σ sd g1 _ st1.inn (rs.mono st1.ss) hR1 (post_mono (post_bind.mp q1) (fun dy g2 q2 y S2 F2 H2 st2 hR2 ry => ?_) fun _ _ q => erQ_from I st1 q)⟩
      have st := st1.trans I st2
      refine kx S2 F2 O H2 σ sd g2 _ st2.inn (rs.mono st.ss) hR2 (post_mono (post_bind.mp q2) (fun dz g3 q3 z S3 F3 H3 st3 hR3 rz => ?_) fun _ _ q => erQ_from I st q)
      have st' := st.trans I st3
      split at q3
      · rename_i d e
        obtain ⟨a, ov, e1, dg, h3⟩ := dget_of st3.inn ((rx.mono st2.ss).mono st3.ss) (ry.mono st3.ss) e
        cases e1
        cases ov with
        | none => exact h3.elim
        | some v => exact ⟨_, dg, q3 v S3 F3 H3 st' hR3 h3⟩
      · rename_i e
        obtain ⟨a, ov, e1, dg, h3⟩ := dget_of st3.inn ((rx.mono st2.ss).mono st3.ss) (ry.mono st3.ss) e
        cases e1
        cases ov with
        | none => exact ⟨_, dg, q3 z S3 F3 H3 st' hR3 rz⟩
        | some v => exact h3.elim
      · exact q3.elim
    · exact q1.elim
end
end DL
/-! DLZ: dicts and tuples of texts at the module's top -/
namespace DL
open PySem PySem.Spec PyProof.Rows L2
def txV : Value → Option (List Nat)
  | .str x _ => some x.cps.toList
  | _ => none
theorem txV_of {v : Value} {x : List Nat} (h : txV v = some x) : ∃ t, v = .str (mk x) t := by
  cases v with
  | str y t =>
    refine ⟨t, ?_⟩
    cases y with
    | mk c =>
      have e : c.toList = x := Option.some.inj h
      rw [← e]
  | _ => cases h
/-- at x: a dict, its keys and values are these texts -/
def kdB (x : Str) (kvs : List (List Nat × List Nat)) (K : PySem.W.Frag) : Bool := match K.lookup (He.ga K x) with
  | some ⟨_, _, .dict es _, _⟩ => decide (es.toList.map (fun e => (txV e.key, txV e.val)) = kvs.map fun kv => (some kv.1, some kv.2))
  | _ => false
/-- at x: a tuple of these texts -/
def ktB (x : Str) (xs : List (List Nat)) (K : PySem.W.Frag) : Bool := match K.lookup (He.ga K x) with
  | some ⟨.type c, _, .seq its _, _⟩ => decide (c = "tuple") && decide (its.toList.map txV = xs.map some)
  | _ => false
structure KD (K : PySem.W.Frag) (w : World) (mg : Str → Option Value) (x : Str) (kvs : List (List Nat × List Nat)) : Prop where
  ex : ∃ d es n, mg x = some (.ref d) ∧ KDict K w d es n ∧ es.toList.map (fun e => (txV e.key, txV e.val)) = kvs.map fun kv => (some kv.1, some kv.2)
structure KT' (K : PySem.W.Frag) (mg : Str → Option Value) (x : Str) (xs : List (List Nat)) : Prop where
  ex : ∃ a o its n, mg x = some (.ref a) ∧ K.lookup a = some o ∧ o.cls = .type "tuple" ∧ o.data = .seq its n ∧ its.toList.map txV = xs.map some
theorem kdB_ok {K : PySem.W.Frag} {w : World} {mg : Str → Option Value} {x : Str} {kvs : List (List Nat × List Nat)} (h : kdB x kvs K = true) (hm : mg x = some (.ref (He.ga K x))) (hd : ∃ es n, KDict K w (He.ga K x) es n) : KD K w mg x kvs := by
  obtain ⟨es, n, D⟩ := hd
  refine ⟨_, es, n, hm, D, ?_⟩
  unfold kdB at h
  rw [D.at_] at h
  exact of_decide_eq_true h
theorem ktB_ok {K : PySem.W.Frag} {mg : Str → Option Value} {x : Str} {xs : List (List Nat)} (h : ktB x xs K = true) (hm : mg x = some (.ref (He.ga K x))) : KT' K mg x xs := by
  unfold ktB at h
  split at h
  · rename_i c od its n osl e
    obtain ⟨h1, h2⟩ := He.ba h
    have h1 := of_decide_eq_true h1
    subst h1
    exact ⟨_, _, its, n, hm, e, rfl, rfl, of_decide_eq_true h2⟩
  · cases h
def tbl (kvs : List (List Nat × List Nat)) (z : List Nat) : Option (List Nat) := (kvs.find? fun kv => decide (kv.1 = z)).map (·.2)
theorem ent_find (z : List Nat) : ∀ (es : List DictEntry) (kvs : List (List Nat × List Nat)), es.map (fun e => (txV e.key, txV e.val)) = kvs.map (fun kv => (some kv.1, some kv.2)) →
    (match tbl kvs z with
      | some v => ∃ e, es.find? (fun e => e.key.isStr (mk z)) = some e ∧ txV e.val = some v
      | none => es.find? (fun e => e.key.isStr (mk z)) = none) ∧ es.any (·.refKey) = false
  | [], [], _ => ⟨rfl, rfl⟩
  | [], _ :: _, h => by cases h
  | _ :: _, [], h => by cases h
  | e :: es, kv :: kvs, h => by
    injection h with h1 h2
    obtain ⟨i1, i2⟩ := ent_find z es kvs h2
    injection h1 with hk hv
    obtain ⟨t, ek⟩ := txV_of hk
    have rk : e.refKey = false := by unfold DictEntry.refKey; rw [ek]
    have is : e.key.isStr (mk z) = decide (kv.1 = z) := by
      rw [ek]
      show (mk kv.1 == mk z) = decide (kv.1 = z)
      by_cases q : kv.1 = z
      · rw [q]; simp
      · rw [decide_eq_false q]
        refine beq_false_of_ne fun y => q ?_
        have := congrArg (fun s : Str => s.cps.toList) y
        exact this
    refine ⟨?_, by rw [List.any_cons, rk, i2]; rfl⟩
    unfold tbl
    rw [List.find?_cons, List.find?_cons, is]
    cases q : decide (kv.1 = z) with
    | true => exact ⟨e, rfl, hv⟩
    | false => exact i1
theorem kd_ns {K : PySem.W.Frag} {w : World} {d : Addr} {es : Array DictEntry} {n : Nat} {kvs : List (List Nat × List Nat)} (D : KDict K w d es n) (h : es.toList.map (fun e => (txV e.key, txV e.val)) = kvs.map fun kv => (some kv.1, some kv.2)) (z : List Nat) :
    match tbl kvs z with
      | some v => ∃ u, PySem.W.nsIn K d (mk z) = some (some u) ∧ RelV (.str (mk v)) u
      | none => PySem.W.nsIn K d (mk z) = some none := by
  obtain ⟨h1, h2⟩ := ent_find z es.toList kvs h
  have e0 : PySem.W.nsIn K d (mk z) = (match es.toList.find? (·.key.isStr (mk z)) with
      | some e => some (some e.val)
      | none => if es.toList.any (·.refKey) then none else some none) := by
    unfold PySem.W.nsIn
    rw [D.at_]
    rfl
  rw [e0]
  split at h1
  · obtain ⟨e, h3, h4⟩ := h1
    rw [h3]
    obtain ⟨t, h5⟩ := txV_of h4
    exact ⟨_, rfl, t, h5⟩
  · rw [h1, h2]; rfl
section
variable {X : Cx} {Z : Eff} {W : WX} {a b : Expr} {pos p : Pos} {fa : DSt → Z.G → Out Z.G SV} {x : Str} {kvs : List (List Nat × List Nat)} {xs : List (List Nat)}
/-! ### k in TABLE, TABLE[k] -/
def fTIn {G : Type} (n : Bool) (kvs : List (List Nat × List Nat)) (f : DSt → G → Out G SV) : DSt → G → Out G SV := fun sd g => (toB f sd g).bind fun x g1 => match x with
  | .str z => .ok (.fr (.bl (xor n (tbl kvs z).isSome))) g1
  | _ => .bad
def fTGet {G : Type} (kvs : List (List Nat × List Nat)) (f : DSt → G → Out G SV) : DSt → G → Out G SV := fun sd g => (toB f sd g).bind fun x g1 => match x with
  | .str z => (match tbl kvs z with
    | some v => .ok (.fr (.str v)) g1
    | none => .bad)
  | _ => .bad
theorem tin_of {n : Bool} {K : PySem.W.Frag} {w : World} {mg : Str → Option Value} {d : Addr} {es : Array DictEntry} {m : Nat} (D : KDict K w d es m) (he : es.toList.map (fun e => (txV e.key, txV e.val)) = kvs.map fun kv => (some kv.1, some kv.2)) {r : R2}
    (hr : ∀ (z : List Nat) (o : Option Value) (H : Hp) (Q : VK), PySem.W.nsIn K d (mk z) = some o → Q (.bl (xor n o.isSome)) H → r (.str (mk z)) (.ref d) H Q) :
    EG Z mg rV W (tOp r (tE Z mg rV W fa) (tC (.ref d))) (fTIn n kvs fa) := fun S F O H σ sd g Q I rs hR hp => by
  have ka : EG Z mg rB W (tE Z mg rV W fa) (toB fa) := eg_b eg_t
  refine ka S F O H σ sd g _ I rs hR (post_mono (post_bind.mp hp) (fun dx g1 q1 x S1 F1 H1 st1 hR1 rx => ?_) fun _ _ q => q)
  split at q1
  · rename_i z
    have ns := kd_ns D he z
    rw [rb_str rx]
    have q2 := q1 _ S1 F1 H1 st1 hR1 (.bl _)
    split at ns
    · rename_i v e
      obtain ⟨u, h1, _⟩ := ns
      rw [e] at q2
      exact hr z (some u) H1 _ h1 q2
    · rename_i e
      rw [e] at q2
      exact hr z none H1 _ ns q2
  · exact q1.elim
theorem xor_f (b : Bool) : xor false b = b := by cases b <;> rfl
theorem xor_t (b : Bool) : xor true b = !b := by cases b <;> rfl
theorem de_tin (D : KD X.K X.w X.mg x kvs) (ha : DE X Z W a fa) (hg : Gl X x := by rfl) (hd : (x == ("__debug__" : Str)) = false := by decide) : DE X Z W (.Compare a [.In] [.Name x p] pos) (fTIn false kvs fa) := by
  obtain ⟨d, es, n, hm, D0, he⟩ := D.ex
  exact de_of (pe_cmpR (op_in_kd D0) ha (pe_glob (v := .ref d) hg hm rfl hd) rfl) (tin_of D0 he fun z o H Q h1 h2 => ⟨mk z, o, rfl, rfl, h1, by rw [xor_f] at h2; exact h2⟩)
theorem dt_tin (D : KD X.K X.w X.mg x kvs) (ha : DE X Z W a fa) (hg : Gl X x := by rfl) (hd : (x == ("__debug__" : Str)) = false := by decide) : DT X Z W (.Compare a [.In] [.Name x p] pos) (asB (fTIn false kvs fa)) := by
  obtain ⟨d, es, n, hm, D0, he⟩ := D.ex
  exact dt_of (pt_cmpR (op_in_kd D0) ha (pe_glob (v := .ref d) hg hm rfl hd) rfl) (bg_test (tin_of D0 he fun z o H Q h1 h2 => ⟨mk z, o, rfl, rfl, h1, by rw [xor_f] at h2; exact h2⟩))
theorem de_tnin (D : KD X.K X.w X.mg x kvs) (ha : DE X Z W a fa) (hg : Gl X x := by rfl) (hd : (x == ("__debug__" : Str)) = false := by decide) : DE X Z W (.Compare a [.NotIn] [.Name x p] pos) (fTIn true kvs fa) := by
  obtain ⟨d, es, n, hm, D0, he⟩ := D.ex
  exact de_of (pe_cmpR (op_notIn_kd D0) ha (pe_glob (v := .ref d) hg hm rfl hd) rfl) (tin_of D0 he fun z o H Q h1 h2 => ⟨mk z, o, rfl, rfl, h1, by rw [xor_t] at h2; exact h2⟩)
theorem dt_tnin (D : KD X.K X.w X.mg x kvs) (ha : DE X Z W a fa) (hg : Gl X x := by rfl) (hd : (x == ("__debug__" : Str)) = false := by decide) : DT X Z W (.Compare a [.NotIn] [.Name x p] pos) (asB (fTIn true kvs fa)) := by
  obtain ⟨d, es, n, hm, D0, he⟩ := D.ex
  exact dt_of (pt_cmpR (op_notIn_kd D0) ha (pe_glob (v := .ref d) hg hm rfl hd) rfl) (bg_test (tin_of D0 he fun z o H Q h1 h2 => ⟨mk z, o, rfl, rfl, h1, by rw [xor_t] at h2; exact h2⟩))
theorem de_tget (D : KD X.K X.w X.mg x kvs) (ha : DE X Z W a fa) (hg : Gl X x := by rfl) (hd : (x == ("__debug__" : Str)) = false := by decide) (hs : PlainIx a := by exact fun _ _ => rfl) : DE X Z W (.Subscript (.Name x p) a pos) (fTGet kvs fa) := by
  obtain ⟨d, es, n, hm, D0, he⟩ := D.ex
  refine de_of (pe_ix ix_kdict (pe_glob (v := .ref d) hg hm rfl hd) ha hs) (fun S F O H σ sd g Q I rs hR hp => ?_)
  have ka : EG Z X.mg rB W (tE Z X.mg rV W fa) (toB fa) := eg_b eg_t
  refine ka S F O H σ sd g _ I rs hR (post_mono (post_bind.mp hp) (fun dx g1 q1 x S1 F1 H1 st1 hR1 rx => ?_) fun _ _ q => q)
  split at q1
  · rename_i z
    have ns := kd_ns D0 he z
    rw [rb_str rx]
    split at q1
    · rename_i v e
      rw [e] at ns
      obtain ⟨u, h1, h2⟩ := ns
      exact ⟨d, mk z, .str (mk v), rfl, rfl, ⟨es, n, u, D0.at_, D0.lit, h1, h2⟩, q1 _ S1 F1 H1 st1 hR1 (.str _)⟩
    · exact q1.elim
  · exact q1.elim
/-! ### k in a tuple of texts -/
def fKIn {G : Type} (xs : List (List Nat)) (f : DSt → G → Out G SV) : DSt → G → Out G SV := fun sd g => (toB f sd g).bind fun x g1 => match x with
  | .str z => .ok (.fr (.bl (xs.any fun y => decide (y = z)))) g1
  | _ => .bad
theorem vals_tx : ∀ {us : List Value} {xs : List (List Nat)}, us.map txV = xs.map some → Vals (xs.map fun x => V.str (mk x)) us
  | [], [], _ => .nil
  | [], _ :: _, h => by cases h
  | _ :: _, [], h => by cases h
  | u :: us, x :: xs, h => by
    injection h with h1 h2
    obtain ⟨t, e⟩ := txV_of h1
    exact .cons ⟨t, e⟩ (vals_tx h2)
theorem inV_tx (z : List Nat) : ∀ xs : List (List Nat), inV (.str (mk z)) (xs.map fun x => V.str (mk x)) = xs.any fun y => decide (y = z)
  | [] => rfl
  | x :: xs => by
    show (eqV (.str (mk x)) (.str (mk z)) || inV (.str (mk z)) (xs.map fun x => V.str (mk x))) = (decide (x = z) || xs.any fun y => decide (y = z))
    rw [inV_tx z xs]
    congr 1
    show (mk x == mk z) = decide (x = z)
    by_cases q : x = z
    · rw [q]; simp
    · rw [decide_eq_false q]
      refine beq_false_of_ne fun y => q ?_
      exact congrArg (fun s : Str => s.cps.toList) y
theorem de_kin (D : KT' X.K X.mg x xs) (ha : DE X Z W a fa) (hz : xs.length ≤ 100 := by decide) (hg : Gl X x := by rfl) (hd : (x == ("__debug__" : Str)) = false := by decide) : DE X Z W (.Compare a [.In] [.Name x p] pos) (fKIn xs fa) ∧ DT X Z W (.Compare a [.In] [.Name x p] pos) (asB (fKIn xs fa)) := by
  obtain ⟨d, o, its, n, hm, hl, hc, hdt, he⟩ := D.ex
  have key : EG Z X.mg rV W (tOp (rIn X.K false) (tE Z X.mg rV W fa) (tC (.ref d))) (fKIn xs fa) := fun S F O H σ sd g Q I rs hR hp => by
    have ka : EG Z X.mg rB W (tE Z X.mg rV W fa) (toB fa) := eg_b eg_t
    refine ka S F O H σ sd g _ I rs hR (post_mono (post_bind.mp hp) (fun dx g1 q1 x S1 F1 H1 st1 hR1 rx => ?_) fun _ _ q => q)
    split at q1
    · rename_i z
      rw [rb_str rx]
      have hlen : its.size = xs.length := by
        have := congrArg List.length he
        rw [List.length_map, List.length_map, Array.length_toList] at this
        exact this
      refine ⟨d, xs.map fun x => V.str (mk x), rfl, .inr (.inr ⟨o, its, n, hl, hc, hdt, ?_, vals_tx he⟩), rfl, ?_, ?_⟩
      · rw [hlen, sizeLine_eq]; omega
      · rw [List.all_eq_true]
        intro v hv
        obtain ⟨y, _, rfl⟩ := List.mem_map.mp hv
        rfl
      · rw [inV_tx]
        exact q1 _ S1 F1 H1 st1 hR1 (.bl _)
    · exact q1.elim
  exact ⟨de_of (pe_cmpR op_in_seq ha (pe_glob (v := .ref d) hg hm rfl hd) rfl) key, dt_of (pt_cmpR op_in_seq ha (pe_glob (v := .ref d) hg hm rfl hd) rfl) (bg_test key)⟩
/-! ### for k in TABLE -/
def Itkd (kvs : List (List Nat × List Nat)) : It := ⟨fun i _ => i < kvs.length, fun i H v H' => H' = H ∧ ∃ k u, kvs[i]? = some (k, u) ∧ v = .str (mk k), fun i _ => kvs.length ≤ i⟩
theorem turn_kd {P : Program} {w : World} {K : PySem.W.Frag} {tg : Expr} {d : Addr} {es : Array DictEntry} {n : Nat} (it : Addr) (D : KDict K w d es n) (he : es.toList.map (fun e => (txV e.key, txV e.val)) = kvs.map fun kv => (some kv.1, some kv.2)) :
    Turn P w K tg (Itkd kvs) [it] it (fun i h => h.IsKeyIter it d i kvs.length n) where
  mem := by simp
  obj := fun i h st b hb => by
    have e : b = it := by simpa using hb
    rw [e]
    obtain ⟨oi, q, _, dd⟩ := st
    exact ⟨oi, q, fun v z => by rw [dd] at z; cases z⟩
  keep := fun i h h' st k => st.at fun oi q => k it (by simp) oi q
  item := by
    intro X hP hw hK hc i pins s σ H E I hf st hg
    subst hP hw hK
    have hg : i < kvs.length := hg
    obtain ⟨f0, f1, f2, f3, f4, f5⟩ := hf it (by simp)
    have gd := I.kIn d _ D.at_
    have hlen : es.size = kvs.length := by
      have := congrArg List.length he
      rw [List.length_map, List.length_map, Array.length_toList] at this
      exact this
    have hi : i < es.size := by omega
    have ek : txV es[i].key = some kvs[i].1 := by
      have e := congrArg (fun l => l[i]?) he
      simp only [List.getElem?_map, Array.getElem?_toList, Array.getElem?_eq_getElem hi, List.getElem?_eq_getElem hg, Option.map_some] at e
      exact (Prod.mk.inj (Option.some.inj e)).1
    obtain ⟨t, ek⟩ := txV_of ek
    refine next_key_item st gd rfl hlen (Array.getElem?_eq_getElem hi) fun h' st' sb => ?_
    have I1 : Inv X pins σ H { s with heap := h' } := I.turned (t' := s.toks) (fun b ob hb e => (sb.2 b hb).trans e) f0 f1 f3 f4 f5
    obtain ⟨oi, e, c, dd⟩ := id st'
    exact ⟨es[i].key, rfl, go_of (s := { s with heap := h' }) e c dd (by decide) ⟨.str (mk kvs[i].1), H, I1, ⟨t, ek⟩, ⟨rfl, kvs[i].1, kvs[i].2, List.getElem?_eq_getElem hg, rfl⟩, st', fun b hb => (hf b hb).1⟩⟩
  done := by
    intro X hP hw hK hc i pins s σ H E I hf st hg
    subst hP hw hK
    obtain ⟨f0, f1, f2, f3, f4, f5⟩ := hf it (by simp)
    have gd := I.kIn d _ D.at_
    have hlen : es.size = kvs.length := by
      have := congrArg List.length he
      rw [List.length_map, List.length_map, Array.length_toList] at this
      exact this
    exact next_key_end (I.ok.hd hc) st gd rfl hlen hg fun h' eb => ⟨rfl, I.turned (t' := s.toks) (fun b ob hb e => eb b ob hb e) f0 f1 f3 f4 f5⟩
  self := fun A i s Q E st h => wpAny_pyIter_keyiter st h
def kdKeys (kvs : List (List Nat × List Nat)) : List D := kvs.map fun kv => .str kv.1
theorem jit_kd {S0 O0 : Hp} : JIt S0 O0 (Itkd kvs) (kdKeys kvs) where
  go S F O H i I a b hi := by rw [kdKeys, List.length_map] at hi; exact hi
  yld S F O H i v H' I a b hi y := by
    obtain ⟨e, k, u, h1, h2⟩ := y
    subst e h2
    exact ⟨S, .str k, Stp.refl I, by rw [kdKeys, List.getElem?_map, h1]; rfl, .str k⟩
  stop S F O H I a b := by show kvs.length ≤ _; rw [kdKeys, List.length_map]; exact Nat.le_refl _
def fTKeys {G : Type} (kvs : List (List Nat × List Nat)) : DSt → G → Out G (List D) := fun _ g => .ok (kdKeys kvs) g
theorem di_kd {k : Bool} {tg : Expr} (D : KD X.K X.w X.mg x kvs) (hg : Gl X x := by rfl) (hd : (x == ("__debug__" : Str)) = false := by decide) : DI k X Z W tg (.Name x p) (fTKeys kvs) := ⟨fun pins s σ H R I q => by
  obtain ⟨d, es, n, hm, D0, he⟩ := D.ex
  obtain ⟨S, F, O, sd, g, i, r, hR, hp⟩ := q
  have gd := I.kIn d _ D0.at_
  refine ld_glob I hg hm (iter_keys D0.low gd ⟨rfl, rfl, rfl⟩ rfl (pi_one (tk := s.toks) I _ (turn_kd _ D0 he) ⟨_, Heap.get?_push_size _ rfl, rfl, ?_⟩ (hp _ S F H (Stp.refl i) hR jit_kd))) hd
  have hlen : es.size = kvs.length := by
    have := congrArg List.length he
    rw [List.length_map, List.length_map, Array.length_toList] at this
    exact this
  rw [hlen]
  rfl⟩
end
end DL
/-! HW: what the defs of the program and of the laws answer, by data -/
namespace HW
open PySem PySem.Spec PyProof.Rows L2 DL
abbrev WH : Nat := 1000
noncomputable def f__law_sign (p : Addr) (ns : List Int) : DSt → Gs → OutS Gs :=
  sSeq (sSet 1 (fC (.str [32, 33, 34, 35, 36, 38, 39, 40, 41, 42, 43, 44, 45, 46, 47, 48, 49, 50, 51, 52, 53, 54, 55, 56, 57, 58, 59, 60, 61, 62, 63, 64, 65, 66, 67, 68, 69, 70, 71, 72, 73, 74, 75, 76, 77, 78, 79, 80, 81, 82, 83, 84, 85, 86, 87, 88, 89, 90, 91, 93, 94, 95, 96, 97, 98, 99, 100, 101, 102, 103, 104, 105, 106, 107, 108, 109, 110, 111, 112, 113, 114, 115, 116, 117, 118, 119, 120, 121, 122, 123, 124, 125, 126, 10]))) (sRet (fOp oIx (toB (fLst [fOp oIx (toB (fC (.str [97, 98, 32, 10]))) (toB (fFn (drawR p ns) [fVar 0, fC (.int 4)])), fOp oIx (toB (fVar 1)) (toB (fFn (drawR p ns) [fVar 0, fCall cLen [fVar 1]]))])) (toB (fOp oDiv (toB (fFn (drawR p ns) [fVar 0, fC (.int 4)])) (toB (fC (.int 3)))))))
noncomputable def run__law_sign (p : Addr) (ns : List Int) : List D → Gs → Out Gs SV := runD 2 (f__law_sign p ns)
noncomputable def f__law_put (p : Addr) (ns : List Int) : DSt → Gs → OutS Gs :=
  sSeq (sSet 2 (fLst [fC (.str [97]), fC (.str [97, 98]), fC (.str [98]), fC (.str [97, 98, 97]), fC (.str [32]), fC (.str [10]), fC (.str [44]), fC (.str [97, 98, 99, 100, 101, 102, 103, 104]), fC (.str [])])) (sSeq (sSet 3 (fC (.str []))) (sSeq (sFor (fRng [fFn (drawR p ns) [fVar 0, fOp oIx (toB (fLst [fC (.int 3), fC (.int 8), fC (.int 30)])) (toB (fFn (drawR p ns) [fVar 0, fC (.int 3)]))]]) (gNm 4) (sSet 3 (fOp oAdd (toB (fVar 3)) (toB (fOp oIx (toB (fLst [fOp oIx (toB (fVar 2)) (toB (fFn (drawR p ns) [fVar 0, fC (.int 9)])), fFn (run__law_sign p ns) [fVar 0]])) (toB (fOp oDiv (toB (fFn (drawR p ns) [fVar 0, fC (.int 3)])) (toB (fC (.int 2)))))))))) (sRet (fSlice (fVar 3) (fNo) (fSo (fVar 1))))))
noncomputable def run__law_put (p : Addr) (ns : List Int) : List D → Gs → Out Gs SV := runD 5 (f__law_put p ns)
noncomputable def f__law_sheet (p : Addr) (ns : List Int) : DSt → Gs → OutS Gs :=
  sRet (fSlice (fOp oMul (toB (fFn (run__law_put p ns) [fVar 0, fC (.int 60)])) (toB (fOp oAdd (toB (fC (.int 1))) (toB (fFn (drawR p ns) [fVar 0, fC (.int 5)]))))) (fNo) (fSo (fOp oIx (toB (fLst [fC (.int 200), fC (.int 20)])) (toB (fFn (drawR p ns) [fVar 0, fC (.int 2)])))))
noncomputable def run__law_sheet (p : Addr) (ns : List Int) : List D → Gs → Out Gs SV := runD 1 (f__law_sheet p ns)
noncomputable def f__law_numbers : DSt → Unit → OutS Unit :=
  sSeq (sPar3 1 2 3 (fDispT (fTup [fC (.int 0), fC (.int 0)]) (fC (.int 0))) (fC (.int 0)) (fC (.int 0))) (sSeq (sFor (fEnum false (fVar 0)) (gTp (gCo (gNm 4) (gCo (gNm 5) (gNo)))) (sSeq (sAsg (gTp (gCo (gNm 2) (gCo (gNm 3) (gNo)))) (fOp oIx (toB (fLst [fTup [fVar 2, fOp oAdd (toB (fVar 3)) (toB (fC (.int 1)))], fTup [fOp oAdd (toB (fVar 2)) (toB (fC (.int 1))), fC (.int 0)]])) (toB (fCall cInt [fOp oEq (toB (fVar 5)) (toB (fC (.str [10])))])))) (sDPutF 1 (fTup [fVar 2, fVar 3]) (fOp oAdd (toB (fVar 4)) (toB (fC (.int 1))))))) (sRet (fVar 1)))
noncomputable def run__law_numbers : List D → Unit → Out Unit SV := runD 6 f__law_numbers
noncomputable def f__law_after : DSt → Unit → OutS Unit :=
  sSeq (sSet 2 (fFn (up0 run__law_numbers) [fVar 0])) (sSeq (sPar2 3 4 (fDGet (fVar 2) (fOp oIx (toB (fVar 1)) (toB (fC (.int 0))))) (fDGet (fVar 2) (fOp oIx (toB (fVar 1)) (toB (fC (.int 1)))))) (sRet (fOp oAdd (toB (fOp oAdd (toB (fSlice (fVar 0) (fNo) (fSo (fVar 3)))) (toB (fOp oIx (toB (fVar 1)) (toB (fC (.int 2))))))) (toB (fSlice (fVar 0) (fSo (fVar 4)) (fNo))))))
noncomputable def run__law_after : List D → Unit → Out Unit SV := runD 5 f__law_after
noncomputable def f__law_at : DSt → Unit → OutS Unit :=
  sSeq (sAsg (gTp (gCo (gNm 2) (gCo (gNm 3) (gNo)))) (fTup [fC (.int 0), fC (.int 0)])) (sSeq (sFor (fSeq false (fSlice (fVar 0) (fNo) (fSo (fVar 1)))) (gNm 4) (sAsg (gTp (gCo (gNm 2) (gCo (gNm 3) (gNo)))) (fOp oIx (toB (fLst [fTup [fVar 2, fOp oAdd (toB (fVar 3)) (toB (fC (.int 1)))], fTup [fOp oAdd (toB (fVar 2)) (toB (fC (.int 1))), fC (.int 0)]])) (toB (fCall cInt [fOp oEq (toB (fVar 4)) (toB (fC (.str [10])))]))))) (sRet (fTup [fVar 2, fVar 3])))
noncomputable def run__law_at : List D → Unit → Out Unit SV := runD 5 f__law_at
noncomputable def f__law_edit (p : Addr) (ns : List Int) : DSt → Gs → OutS Gs :=
  sSeq (sSet 2 (fCall cSorted [fLst [fFn (drawR p ns) [fVar 0, fOp oAdd (toB (fCall cLen [fVar 1])) (toB (fC (.int 1)))], fFn (drawR p ns) [fVar 0, fOp oAdd (toB (fCall cLen [fVar 1])) (toB (fC (.int 1)))]]])) (sSeq (sIf (asB (fOp oGt (toB (fFn (drawR p ns) [fVar 0, fC (.int 3)])) (toB (fC (.int 0))))) (sPut 2 (fC (.int 1)) (fCall cMin [fCall cLen [fVar 1], fOp oAdd (toB (fOp oIx (toB (fVar 2)) (toB (fC (.int 0))))) (toB (fFn (drawR p ns) [fVar 0, fC (.int 4)]))])) (sNx)) (sSeq (sSet 3 (fFn (run__law_put p ns) [fVar 0, fCall cMin [fC (.int 40), fOp oSub (toB (fOp oAdd (toB (fOp oSub (toB (fC (.int 200))) (toB (fCall cLen [fVar 1])))) (toB (fOp oIx (toB (fVar 2)) (toB (fC (.int 1))))))) (toB (fOp oIx (toB (fVar 2)) (toB (fC (.int 0)))))]])) (sFrz 3 (sRet (fTup [fFn (up0 run__law_at) [fVar 1, fOp oIx (toB (fVar 2)) (toB (fC (.int 0)))], fFn (up0 run__law_at) [fVar 1, fOp oIx (toB (fVar 2)) (toB (fC (.int 1)))], fVar 3])))))
noncomputable def run__law_edit (p : Addr) (ns : List Int) : List D → Gs → Out Gs SV := runD 4 (f__law_edit p ns)
noncomputable def f__law_edits (p : Addr) (ns : List Int) : DSt → Gs → OutS Gs :=
  sSeq (sSet 3 (fLst [])) (sSeq (sFor (fRng [fFn (drawR p ns) [fVar 0, fOp oAdd (toB (fVar 2)) (toB (fC (.int 1)))]]) (gNm 4) (sSeq (sApp 3 (fFn (run__law_edit p ns) [fVar 0, fVar 1])) (sSet 1 (fFn (up0 run__law_after) [fVar 1, fOp oIx (toB (fVar 3)) (toB (fUn uNeg (toB (fC (.int 1)))))])))) (sFrz 3 (sRet (fTup [fVar 3, fVar 1]))))
noncomputable def run__law_edits (p : Addr) (ns : List Int) : List D → Gs → Out Gs SV := runD 5 (f__law_edits p ns)
noncomputable def f_is_text : DSt → Unit → OutS Unit :=
  sSeq (sIf (gOr (gNot (asB (fCall cIsi [fVar 0, fC (.obj (.ty "str"))]))) (asB (fOp oGt (toB (fCall cLen [fVar 0])) (toB (fVar 1))))) (sRet (fC (.bl false))) (sNx)) (sRet (fOp oEq (toB (fLc [2] (fSeq true (fVar 0)) (gNm 2) (gAnd (asB (fOp oNe (toB (fVar 2)) (toB (fC (.str [10]))))) (gNot (asB (fChain oLe oLe (toB (fC (.str [32]))) (toB (fVar 2)) (toB (fC (.str [126]))))))) (fVar 2))) (toB (fLst []))))
noncomputable def run_is_text : List D → Unit → Out Unit SV := runD 3 f_is_text
noncomputable def f_need_sheet : DSt → Unit → OutS Unit :=
  sIf (gNot (asB (fFn (up0 run_is_text) [fVar 0, fC (.int 200)]))) (sBad) (sNx)
noncomputable def run_need_sheet : List D → Unit → Out Unit SV := runD 1 f_need_sheet
noncomputable def f_number_at : DSt → Unit → OutS Unit :=
  sSeq (sSet 2 (fM1 mSplit (fVar 0) (fC (.str [10])))) (sRet (fOp oAdd (toB (fCall cSum [fLc [3] (fSeq true (fSlice (fVar 2) (fNo) (fSo (fOp oIx (toB (fVar 1)) (toB (fC (.int 0))))))) (gNm 3) (gYes) (fOp oAdd (toB (fCall cLen [fVar 3])) (toB (fC (.int 1))))])) (toB (fOp oIx (toB (fVar 1)) (toB (fC (.int 1)))))))
noncomputable def run_number_at : List D → Unit → Out Unit SV := runD 4 f_number_at
noncomputable def f_is_number : DSt → Unit → OutS Unit :=
  sRet (fAnd (fCall cIsi [fVar 0, fC (.obj (.ty "int"))]) (fAnd (fNot (fCall cIsi [fVar 0, fC (.obj (.ty "bool"))])) (fChain oLe oLe (toB (fVar 1)) (toB (fVar 0)) (toB (fVar 2)))))
noncomputable def run_is_number : List D → Unit → Out Unit SV := runD 3 f_is_number
noncomputable def f_is_place : DSt → Unit → OutS Unit :=
  sSeq (sIf (gOr (gNot (asB (fCall cIsi [fVar 1, fC (.obj (.ty "tuple"))]))) (asB (fOp oNe (toB (fCall cLen [fVar 1])) (toB (fC (.int 2)))))) (sRet (fC (.bl false))) (sNx)) (sSeq (sSet 2 (fM1 mSplit (fVar 0) (fC (.str [10])))) (sRet (fAnd (fFn (up0 run_is_number) [fOp oIx (toB (fVar 1)) (toB (fC (.int 0))), fC (.int 0), fOp oSub (toB (fCall cLen [fVar 2])) (toB (fC (.int 1)))]) (fFn (up0 run_is_number) [fOp oIx (toB (fVar 1)) (toB (fC (.int 1))), fC (.int 0), fCall cLen [fOp oIx (toB (fVar 2)) (toB (fOp oIx (toB (fVar 1)) (toB (fC (.int 0)))))]]))))
noncomputable def run_is_place : List D → Unit → Out Unit SV := runD 3 f_is_place
noncomputable def f_span : DSt → Unit → OutS Unit :=
  sSeq (sIf (gOr (gNot (asB (fCall cIsi [fVar 1, fC (.obj (.ty "tuple"))]))) (gOr (asB (fOp oNe (toB (fCall cLen [fVar 1])) (toB (fC (.int 3))))) (gNot (asB (fFn (up0 run_is_text) [fOp oIx (toB (fVar 1)) (toB (fC (.int 2))), fC (.int 40)]))))) (sRet (fC .non)) (sNx)) (sSeq (sIf (gOr (gNot (asB (fFn (up0 run_is_place) [fVar 0, fOp oIx (toB (fVar 1)) (toB (fC (.int 0)))]))) (gNot (asB (fFn (up0 run_is_place) [fVar 0, fOp oIx (toB (fVar 1)) (toB (fC (.int 1)))])))) (sRet (fC .non)) (sNx)) (sSeq (sPar2 2 3 (fFn (up0 run_number_at) [fVar 0, fOp oIx (toB (fVar 1)) (toB (fC (.int 0)))]) (fFn (up0 run_number_at) [fVar 0, fOp oIx (toB (fVar 1)) (toB (fC (.int 1)))])) (sSeq (sIf (gOr (asB (fOp oGt (toB (fVar 2)) (toB (fVar 3)))) (asB (fOp oGt (toB (fOp oAdd (toB (fOp oAdd (toB (fOp oSub (toB (fCall cLen [fVar 0])) (toB (fVar 3)))) (toB (fVar 2)))) (toB (fCall cLen [fOp oIx (toB (fVar 1)) (toB (fC (.int 2)))])))) (toB (fC (.int 200)))))) (sRet (fC .non)) (sNx)) (sFrz 2 (sFrz 3 (sRet (fTup [fVar 2, fVar 3, fOp oIx (toB (fVar 1)) (toB (fC (.int 2)))])))))))
noncomputable def run_span : List D → Unit → Out Unit SV := runD 4 f_span
noncomputable def f_spans : DSt → Unit → OutS Unit :=
  sSeq (sSet 2 (fLst [])) (sSeq (sFor (fEnum false (fVar 1)) (gTp (gCo (gNm 3) (gCo (gNm 4) (gNo)))) (sSeq (sSet 5 (fFn (up0 run_span) [fVar 0, fVar 4])) (sSeq (sIf (gOr (asB (fUn uIsN (toB (fVar 5)))) (asB (fOp oGe (toB (fVar 3)) (toB (fC (.int 8)))))) (sBad) (sNx)) (sSeq (sFrz 5 (sApp 2 (fVar 5))) (sSet 0 (fOp oAdd (toB (fOp oAdd (toB (fSlice (fVar 0) (fNo) (fSo (fOp oIx (toB (fVar 5)) (toB (fC (.int 0))))))) (toB (fOp oIx (toB (fVar 5)) (toB (fC (.int 2))))))) (toB (fSlice (fVar 0) (fSo (fOp oIx (toB (fVar 5)) (toB (fC (.int 1))))) (fNo))))))))) (sFrz 2 (sRet (fTup [fVar 2, fVar 0]))))
noncomputable def run_spans : List D → Unit → Out Unit SV := runD 6 f_spans
noncomputable def f_place_at : DSt → Unit → OutS Unit :=
  sSeq (sSet 2 (fM1 mSplit (fSlice (fVar 0) (fNo) (fSo (fVar 1))) (fC (.str [10])))) (sRet (fTup [fOp oSub (toB (fCall cLen [fVar 2])) (toB (fC (.int 1))), fCall cLen [fOp oIx (toB (fVar 2)) (toB (fUn uNeg (toB (fC (.int 1)))))]]))
noncomputable def run_place_at : List D → Unit → Out Unit SV := runD 3 f_place_at
noncomputable def f_back : DSt → Unit → OutS Unit :=
  sSeq (sExpr (fFn (up0 run_need_sheet) [fVar 0])) (sSeq (sSet 2 (fLst [])) (sSeq (sFor (fSeq false (fOp oIx (toB (fFn (up0 run_spans) [fVar 0, fVar 1])) (toB (fC (.int 0))))) (gTp (gCo (gNm 3) (gCo (gNm 4) (gCo (gNm 5) (gNo))))) (sSeq (sSet 6 (fOp oAdd (toB (fOp oAdd (toB (fSlice (fVar 0) (fNo) (fSo (fVar 3)))) (toB (fVar 5)))) (toB (fSlice (fVar 0) (fSo (fVar 4)) (fNo))))) (sSeq (sFrz 6 (sApp 2 (fTup [fFn (up0 run_place_at) [fVar 6, fVar 3], fFn (up0 run_place_at) [fVar 6, fOp oAdd (toB (fVar 3)) (toB (fCall cLen [fVar 5]))], fSlice (fVar 0) (fSo (fVar 3)) (fSo (fVar 4))]))) (sFrz 6 (sSet 0 (fVar 6)))))) (sRet (fUn uRev (toB (fVar 2))))))
noncomputable def run_back : List D → Unit → Out Unit SV := runD 7 f_back
noncomputable def f__law_same (rec : List D → Unit → Out Unit SV) : DSt → Unit → OutS Unit :=
  sSeq (sIf (asB (fCall cIsi [fVar 1, fTup [fC (.obj (.ty "tuple")), fC (.obj (.ty "list"))]])) (sSeq (sIf (gOr (gNot (asB (fCall cIsi [fVar 0, fTup [fC (.obj (.ty "tuple")), fC (.obj (.ty "list"))]]))) (asB (fOp oNe (toB (fCall cIsi [fVar 0, fC (.obj (.ty "list"))])) (toB (fCall cIsi [fVar 1, fC (.obj (.ty "list"))]))))) (sRet (fC (.bl false))) (sNx)) (sSeq (sIf (asB (fOp oNe (toB (fCall cLen [fVar 0])) (toB (fCall cLen [fVar 1])))) (sRet (fC (.bl false))) (sNx)) (sRet (fOp oEq (toB (fLc [2] (fRng [fCall cLen [fVar 1]]) (gNm 2) (gNot (asB (fFn (up0 rec) [fOp oIx (toB (fVar 0)) (toB (fVar 2)), fOp oIx (toB (fVar 1)) (toB (fVar 2))]))) (fVar 2))) (toB (fLst [])))))) (sNx)) (sSeq (sIf (asB (fUn uIsN (toB (fVar 1)))) (sRet (fUn uIsN (toB (fVar 0)))) (sNx)) (sSeq (sIf (asB (fCall cIsi [fVar 1, fC (.obj (.ty "str"))])) (sRet (fAnd (fCall cIsi [fVar 0, fC (.obj (.ty "str"))]) (fOp oEq (toB (fVar 0)) (toB (fVar 1))))) (sNx)) (sSeq (sIf (gOr (asB (fCall cIsi [fVar 1, fC (.obj (.ty "bool"))])) (asB (fCall cIsi [fVar 0, fC (.obj (.ty "bool"))]))) (sRet (fAnd (fCall cIsi [fVar 1, fC (.obj (.ty "bool"))]) (fAnd (fCall cIsi [fVar 0, fC (.obj (.ty "bool"))]) (fOp oEq (toB (fVar 0)) (toB (fVar 1)))))) (sNx)) (sRet (fAnd (fCall cIsi [fVar 0, fC (.obj (.ty "int"))]) (fOp oEq (toB (fVar 0)) (toB (fVar 1))))))))
noncomputable def run__law_same : Nat → List D → Unit → Out Unit SV
  | 0 => fun _ _ => .bad
  | m + 1 => runD 3 (f__law_same (run__law_same m))
noncomputable def f_alike_ahead : DSt → Unit → OutS Unit :=
  sSeq (sSet 2 (fC (.int 0))) (sSeq (sWhile WH (gAnd (asB (fOp oLt (toB (fVar 2)) (toB (fCall cMin [fCall cLen [fVar 0], fCall cLen [fVar 1]])))) (asB (fOp oEq (toB (fOp oIx (toB (fVar 0)) (toB (fVar 2)))) (toB (fOp oIx (toB (fVar 1)) (toB (fVar 2))))))) (sSet 2 (fOp oAdd (toB (fVar 2)) (toB (fC (.int 1)))))) (sRet (fVar 2)))
noncomputable def run_alike_ahead : List D → Unit → Out Unit SV := runD 3 f_alike_ahead
noncomputable def f_together : DSt → Unit → OutS Unit :=
  sSeq (sExpr (fFn (up0 run_need_sheet) [fVar 0])) (sSeq (sSet 2 (fOp oIx (toB (fFn (up0 run_spans) [fVar 0, fVar 1])) (toB (fC (.int 1))))) (sSeq (sIf (asB (fOp oEq (toB (fVar 2)) (toB (fVar 0)))) (sRet (fC .non)) (sNx)) (sSeq (sFrz 2 (sSet 3 (fFn (up0 run_alike_ahead) [fVar 0, fVar 2]))) (sSeq (sPar2 4 5 (fSlice (fVar 0) (fSo (fVar 3)) (fNo)) (fSlice (fVar 2) (fSo (fVar 3)) (fNo))) (sSeq (sSet 6 (fFn (up0 run_alike_ahead) [fUn uRevS (toB (fVar 4)), fUn uRevS (toB (fVar 5))])) (sSeq (sSet 7 (fOp oSub (toB (fCall cLen [fVar 0])) (toB (fVar 6)))) (sFrz 7 (sFrz 3 (sRet (fTup [fFn (up0 run_place_at) [fVar 0, fVar 3], fFn (up0 run_place_at) [fVar 0, fVar 7], fSlice (fVar 2) (fSo (fVar 3)) (fSo (fOp oSub (toB (fCall cLen [fVar 2])) (toB (fVar 6))))]))))))))))
noncomputable def run_together : List D → Unit → Out Unit SV := runD 8 f_together
noncomputable def f__law_together : DSt → Unit → OutS Unit :=
  sSeq (sIf (asB (fOp oEq (toB (fVar 0)) (toB (fVar 1)))) (sRet (fC .non)) (sNx)) (sSeq (sSet 2 (fCall cMax [fLc [3] (fRng [fOp oAdd (toB (fCall cMin [fCall cLen [fVar 0], fCall cLen [fVar 1]])) (toB (fC (.int 1)))]) (gNm 3) (asB (fOp oEq (toB (fSlice (fVar 0) (fNo) (fSo (fVar 3)))) (toB (fSlice (fVar 1) (fNo) (fSo (fVar 3)))))) (fVar 3)])) (sSeq (sSet 4 (fOp oSub (toB (fCall cMin [fCall cLen [fVar 0], fCall cLen [fVar 1]])) (toB (fVar 2)))) (sSeq (sSet 5 (fCall cMax [fLc [3] (fRng [fOp oAdd (toB (fVar 4)) (toB (fC (.int 1)))]) (gNm 3) (asB (fOp oEq (toB (fSlice (fVar 0) (fSo (fOp oSub (toB (fCall cLen [fVar 0])) (toB (fVar 3)))) (fNo))) (toB (fSlice (fVar 1) (fSo (fOp oSub (toB (fCall cLen [fVar 1])) (toB (fVar 3)))) (fNo))))) (fVar 3)])) (sFrz 2 (sRet (fTup [fFn (up0 run__law_at) [fVar 0, fVar 2], fFn (up0 run__law_at) [fVar 0, fOp oSub (toB (fCall cLen [fVar 0])) (toB (fVar 5))], fSlice (fVar 1) (fSo (fVar 2)) (fSo (fOp oSub (toB (fCall cLen [fVar 1])) (toB (fVar 5))))]))))))
noncomputable def run__law_together : List D → Unit → Out Unit SV := runD 6 f__law_together
noncomputable def f__law_runs : DSt → Unit → OutS Unit :=
  sSeq (sSet 1 (fLst [])) (sSeq (sSet 2 (fC (.str [97, 98, 99, 100, 101, 102, 103, 104, 105, 106, 107, 108, 109, 110, 111, 112, 113, 114, 115, 116, 117, 118, 119, 120, 121, 122]))) (sSeq (sFor (fRng [fCall cLen [fVar 0]]) (gNm 3) (sIf (gAnd (asB (fOp oIn (toB (fOp oIx (toB (fVar 0)) (toB (fVar 3)))) (toB (fVar 2)))) (gOr (asB (fOp oEq (toB (fVar 3)) (toB (fC (.int 0))))) (asB (fOp oNotIn (toB (fOp oIx (toB (fVar 0)) (toB (fOp oSub (toB (fVar 3)) (toB (fC (.int 1))))))) (toB (fVar 2)))))) (sSeq (sSet 4 (fVar 3)) (sSeq (sWhile WH (gAnd (asB (fOp oLt (toB (fVar 4)) (toB (fCall cLen [fVar 0])))) (asB (fOp oIn (toB (fOp oIx (toB (fVar 0)) (toB (fVar 4)))) (toB (fVar 2))))) (sSet 4 (fOp oAdd (toB (fVar 4)) (toB (fC (.int 1)))))) (sFrz 4 (sApp 1 (fTup [fVar 3, fVar 4]))))) (sNx))) (sRet (fVar 1))))
noncomputable def run__law_runs : List D → Unit → Out Unit SV := runD 5 f__law_runs
noncomputable def f__law_name (p : Addr) (ns : List Int) : DSt → Gs → OutS Gs :=
  sSeq (sSet 2 (fFn (up0 run__law_runs) [fVar 1])) (sSeq (sIf (gAnd (asB (fOp oNe (toB (fVar 2)) (toB (fLst [])))) (asB (fOp oGt (toB (fFn (drawR p ns) [fVar 0, fC (.int 4)])) (toB (fC (.int 0)))))) (sSeq (sAsg (gTp (gCo (gNm 3) (gCo (gNm 4) (gNo)))) (fOp oIx (toB (fVar 2)) (toB (fFn (drawR p ns) [fVar 0, fCall cLen [fVar 2]])))) (sIf (gOr (asB (fOp oLt (toB (fOp oSub (toB (fVar 4)) (toB (fVar 3)))) (toB (fC (.int 9))))) (asB (fOp oEq (toB (fFn (drawR p ns) [fVar 0, fC (.int 2)])) (toB (fC (.int 0)))))) (sRet (fSlice (fSlice (fVar 1) (fSo (fVar 3)) (fSo (fVar 4))) (fNo) (fSo (fOp oAdd (toB (fC (.int 1))) (toB (fFn (drawR p ns) [fVar 0, fC (.int 8)])))))) (sNx))) (sNx)) (sSeq (sSet 5 (fOp oIx (toB (fLst [fC (.str [97, 98]), fC (.str [97, 98, 99, 100, 101, 102, 103, 104, 105, 106, 107, 108, 109, 110, 111, 112, 113, 114, 115, 116, 117, 118, 119, 120, 121, 122])])) (toB (fFn (drawR p ns) [fVar 0, fC (.int 2)])))) (sRet (fM1 mJoin (fC (.str [])) (fLc [6] (fRng [fOp oAdd (toB (fC (.int 1))) (toB (fFn (drawR p ns) [fVar 0, fC (.int 8)]))]) (gNm 6) (gYes) (fOp oIx (toB (fVar 5)) (toB (fFn (drawR p ns) [fVar 0, fCall cLen [fVar 5]]))))))))
noncomputable def run__law_name (p : Addr) (ns : List Int) : List D → Gs → Out Gs SV := runD 7 (f__law_name p ns)
noncomputable def f__law_want (p : Addr) (ns : List Int) : DSt → Gs → OutS Gs :=
  sSeq (sSet 2 (fFn (up0 run__law_at) [fVar 1, fFn (drawR p ns) [fVar 0, fOp oAdd (toB (fCall cLen [fVar 1])) (toB (fC (.int 1)))]])) (sSeq (sSet 3 (fFn (run__law_name p ns) [fVar 0, fVar 1])) (sFrz 2 (sFrz 3 (sRet (fOp oIx (toB (fLst [fTup [fC (.str [102, 105, 110, 100]), fVar 3], fTup [fC (.str [114, 111, 119, 115]), fVar 3], fTup [fC (.str [119, 111, 114, 100]), fVar 2], fTup [fC (.str [114, 101, 110, 97, 109, 101]), fVar 2, fVar 3]])) (toB (fFn (drawR p ns) [fVar 0, fC (.int 4)])))))))
noncomputable def run__law_want (p : Addr) (ns : List Int) : List D → Gs → Out Gs SV := runD 4 (f__law_want p ns)
noncomputable def f__law_tells : DSt → Unit → OutS Unit :=
  sSeq (sIf (asB (fOp oEq (toB (fOp oIx (toB (fVar 1)) (toB (fC (.int 0))))) (toB (fC (.str [102, 105, 110, 100]))))) (sSeq (sSet 2 (fCall cLen [fOp oIx (toB (fVar 1)) (toB (fC (.int 1)))])) (sRet (fLc [3] (fRng [fOp oAdd (toB (fOp oSub (toB (fCall cLen [fVar 0])) (toB (fVar 2)))) (toB (fC (.int 1)))]) (gNm 3) (asB (fOp oEq (toB (fSlice (fVar 0) (fSo (fVar 3)) (fSo (fOp oAdd (toB (fVar 3)) (toB (fVar 2)))))) (toB (fOp oIx (toB (fVar 1)) (toB (fC (.int 1))))))) (fFn (up0 run__law_at) [fVar 0, fVar 3])))) (sNx)) (sSeq (sIf (asB (fOp oEq (toB (fOp oIx (toB (fVar 1)) (toB (fC (.int 0))))) (toB (fC (.str [114, 111, 119, 115]))))) (sSeq (sSet 4 (fM1 mSplit (fVar 0) (fC (.str [10])))) (sRet (fLc [3] (fRng [fCall cLen [fVar 4]]) (gNm 3) (asB (fOp oIn (toB (fOp oIx (toB (fVar 1)) (toB (fC (.int 1))))) (toB (fOp oIx (toB (fVar 4)) (toB (fVar 3)))))) (fVar 3)))) (sNx)) (sSeq (sSet 5 (fDGet1' (fFn (up0 run__law_numbers) [fVar 0]) (fOp oIx (toB (fVar 1)) (toB (fC (.int 1)))))) (sSeq (sSet 6 (fLc [7] (fSeq true (fFn (up0 run__law_runs) [fVar 0])) (gNm 7) (gAnd (asB (fUn uNotN (toB (fVar 5)))) (asB (fChain oLe oLe (toB (fOp oIx (toB (fVar 7)) (toB (fC (.int 0))))) (toB (fVar 5)) (toB (fOp oIx (toB (fVar 7)) (toB (fC (.int 1)))))))) (fVar 7))) (sSeq (sIf (asB (fOp oEq (toB (fVar 6)) (toB (fLst [])))) (sRet (fC .non)) (sNx)) (sSeq (sAsg (gTp (gCo (gNm 8) (gCo (gNm 9) (gNo)))) (fOp oIx (toB (fVar 6)) (toB (fC (.int 0))))) (sSeq (sIf (asB (fOp oEq (toB (fOp oIx (toB (fVar 1)) (toB (fC (.int 0))))) (toB (fC (.str [119, 111, 114, 100]))))) (sRet (fTup [fFn (up0 run__law_at) [fVar 0, fVar 8], fFn (up0 run__law_at) [fVar 0, fVar 9]])) (sNx)) (sSeq (sSet 10 (fLc [7] (fSeq true (fFn (up0 run__law_runs) [fVar 0])) (gNm 7) (asB (fOp oEq (toB (fSlice (fVar 0) (fSo (fOp oIx (toB (fVar 7)) (toB (fC (.int 0))))) (fSo (fOp oIx (toB (fVar 7)) (toB (fC (.int 1))))))) (toB (fSlice (fVar 0) (fSo (fVar 8)) (fSo (fVar 9)))))) (fVar 7))) (sSeq (sIf (gOr (asB (fOp oGt (toB (fCall cLen [fVar 10])) (toB (fC (.int 8))))) (asB (fOp oGt (toB (fOp oAdd (toB (fCall cLen [fVar 0])) (toB (fOp oMul (toB (fCall cLen [fVar 10])) (toB (fOp oAdd (toB (fOp oSub (toB (fCall cLen [fOp oIx (toB (fVar 1)) (toB (fC (.int 2)))])) (toB (fVar 9)))) (toB (fVar 8)))))))) (toB (fC (.int 200)))))) (sRet (fC .non)) (sNx)) (sRet (fLc [7] (fSeq true (fUn uRev (toB (fVar 10)))) (gNm 7) (gYes) (fTup [fFn (up0 run__law_at) [fVar 0, fOp oIx (toB (fVar 7)) (toB (fC (.int 0)))], fFn (up0 run__law_at) [fVar 0, fOp oIx (toB (fVar 7)) (toB (fC (.int 1)))], fOp oIx (toB (fVar 1)) (toB (fC (.int 2)))])))))))))))
noncomputable def run__law_tells : List D → Unit → Out Unit SV := runD 11 f__law_tells
noncomputable def f_is_word : DSt → Unit → OutS Unit :=
  sSeq (sIf (gOr (gNot (asB (fCall cIsi [fVar 0, fC (.obj (.ty "str"))]))) (gNot (asB (fChain oLe oLe (toB (fC (.int 1))) (toB (fCall cLen [fVar 0])) (toB (fC (.int 8))))))) (sRet (fC (.bl false))) (sNx)) (sRet (fOp oEq (toB (fLc [1] (fSeq true (fVar 0)) (gNm 1) (asB (fOp oNotIn (toB (fVar 1)) (toB (fC (.str [97, 98, 99, 100, 101, 102, 103, 104, 105, 106, 107, 108, 109, 110, 111, 112, 113, 114, 115, 116, 117, 118, 119, 120, 121, 122]))))) (fVar 1))) (toB (fLst []))))
noncomputable def run_is_word : List D → Unit → Out Unit SV := runD 2 f_is_word
noncomputable def f_need_want : DSt → Unit → OutS Unit :=
  sSeq (sSet 2 (fAnd (fCall cIsi [fVar 1, fC (.obj (.ty "tuple"))]) (fAnd (fOp oGt (toB (fCall cLen [fVar 1])) (toB (fC (.int 1)))) (fCall cIsi [fOp oIx (toB (fVar 1)) (toB (fC (.int 0))), fC (.obj (.ty "str"))])))) (sSeq (sIf (gOr (gNot (asB (fVar 2))) (gOr (asB (fOp oNotIn (toB (fOp oIx (toB (fVar 1)) (toB (fC (.int 0))))) (toB (fTup [fC (.str [102, 105, 110, 100]), fC (.str [114, 111, 119, 115]), fC (.str [119, 111, 114, 100]), fC (.str [114, 101, 110, 97, 109, 101])])))) (asB (fOp oNe (toB (fCall cLen [fVar 1])) (toB (fOp oAdd (toB (fC (.int 2))) (toB (fCall cInt [fOp oEq (toB (fOp oIx (toB (fVar 1)) (toB (fC (.int 0))))) (toB (fC (.str [114, 101, 110, 97, 109, 101])))])))))))) (sBad) (sNx)) (sSeq (sIf (gAnd (asB (fOp oNe (toB (fOp oIx (toB (fVar 1)) (toB (fC (.int 0))))) (toB (fC (.str [119, 111, 114, 100]))))) (gNot (asB (fFn (up0 run_is_word) [fOp oIx (toB (fVar 1)) (toB (fUn uNeg (toB (fC (.int 1)))))])))) (sBad) (sNx)) (sIf (asB (fOp oIn (toB (fOp oIx (toB (fVar 1)) (toB (fC (.int 0))))) (toB (fTup [fC (.str [119, 111, 114, 100]), fC (.str [114, 101, 110, 97, 109, 101])])))) (sSeq (sSet 3 (fOp oIx (toB (fVar 1)) (toB (fC (.int 1))))) (sSeq (sIf (gOr (gNot (asB (fCall cIsi [fVar 3, fC (.obj (.ty "tuple"))]))) (gOr (asB (fOp oNe (toB (fCall cLen [fVar 3])) (toB (fC (.int 2))))) (asB (fOp oNe (toB (fLc [4] (fSeq true (fVar 3)) (gNm 4) (gNot (asB (fCall cIsi [fVar 4, fC (.obj (.ty "int"))]))) (fVar 4))) (toB (fLst [])))))) (sBad) (sNx)) (sFrz 3 (sIf (gNot (asB (fFn (up0 run_is_place) [fVar 0, fVar 3]))) (sBad) (sNx))))) (sNx))))
noncomputable def run_need_want : List D → Unit → Out Unit SV := runD 5 f_need_want
noncomputable def f_words_in : DSt → Unit → OutS Unit :=
  sSeq (sSet 1 (fLst [])) (sSeq (sSet 2 (fC .non)) (sSeq (sFor (fEnum false (fOp oAdd (toB (fVar 0)) (toB (fC (.str [32]))))) (gTp (gCo (gNm 3) (gCo (gNm 4) (gNo)))) (sSeq (sIf (gAnd (asB (fOp oIn (toB (fVar 4)) (toB (fC (.str [97, 98, 99, 100, 101, 102, 103, 104, 105, 106, 107, 108, 109, 110, 111, 112, 113, 114, 115, 116, 117, 118, 119, 120, 121, 122]))))) (asB (fUn uIsN (toB (fVar 2))))) (sSet 2 (fVar 3)) (sNx)) (sIf (gAnd (asB (fOp oNotIn (toB (fVar 4)) (toB (fC (.str [97, 98, 99, 100, 101, 102, 103, 104, 105, 106, 107, 108, 109, 110, 111, 112, 113, 114, 115, 116, 117, 118, 119, 120, 121, 122]))))) (asB (fUn uNotN (toB (fVar 2))))) (sSeq (sFrz 2 (sApp 1 (fTup [fVar 2, fVar 3]))) (sSet 2 (fC .non))) (sNx)))) (sRet (fVar 1))))
noncomputable def run_words_in : List D → Unit → Out Unit SV := runD 5 f_words_in
noncomputable def f_word_at : DSt → Unit → OutS Unit :=
  sSeq (sIf (gNot (asB (fFn (up0 run_is_place) [fVar 0, fVar 1]))) (sRet (fC .non)) (sNx)) (sSeq (sSet 2 (fFn (up0 run_number_at) [fVar 0, fVar 1])) (sSeq (sSet 3 (fLc [4] (fSeq true (fFn (up0 run_words_in) [fVar 0])) (gNm 4) (asB (fChain oLe oLe (toB (fOp oIx (toB (fVar 4)) (toB (fC (.int 0))))) (toB (fVar 2)) (toB (fOp oIx (toB (fVar 4)) (toB (fC (.int 1))))))) (fVar 4))) (sRet (fIf (asB (fOp oNe (toB (fVar 3)) (toB (fLst [])))) (fOp oIx (toB (fVar 3)) (toB (fC (.int 0)))) (fC .non)))))
noncomputable def run_word_at : List D → Unit → Out Unit SV := runD 5 f_word_at
noncomputable def f_renamed : DSt → Unit → OutS Unit :=
  sSeq (sSet 3 (fFn (up0 run_word_at) [fVar 0, fVar 1])) (sSeq (sIf (asB (fUn uIsN (toB (fVar 3)))) (sRet (fC .non)) (sNx)) (sSeq (sSet 4 (fSlice (fVar 0) (fSo (fOp oIx (toB (fVar 3)) (toB (fC (.int 0))))) (fSo (fOp oIx (toB (fVar 3)) (toB (fC (.int 1))))))) (sSeq (sSet 5 (fLc [6, 7] (fSeq true (fFn (up0 run_words_in) [fVar 0])) (gTp (gCo (gNm 6) (gCo (gNm 7) (gNo)))) (asB (fOp oEq (toB (fSlice (fVar 0) (fSo (fVar 6)) (fSo (fVar 7)))) (toB (fVar 4)))) (fTup [fVar 6, fVar 7]))) (sSeq (sIf (gOr (asB (fOp oGt (toB (fCall cLen [fVar 5])) (toB (fC (.int 8))))) (asB (fOp oGt (toB (fOp oAdd (toB (fCall cLen [fVar 0])) (toB (fOp oMul (toB (fCall cLen [fVar 5])) (toB (fOp oSub (toB (fCall cLen [fVar 2])) (toB (fCall cLen [fVar 4])))))))) (toB (fC (.int 200)))))) (sRet (fC .non)) (sNx)) (sRet (fLc [6, 7] (fSeq true (fUn uRev (toB (fVar 5)))) (gTp (gCo (gNm 6) (gCo (gNm 7) (gNo)))) (gYes) (fTup [fFn (up0 run_place_at) [fVar 0, fVar 6], fFn (up0 run_place_at) [fVar 0, fVar 7], fVar 2])))))))
noncomputable def run_renamed : List D → Unit → Out Unit SV := runD 8 f_renamed
noncomputable def f_finds : DSt → Unit → OutS Unit :=
  sRet (fLc [2] (fRng [fCall cLen [fVar 0]]) (gNm 2) (asB (fOp oEq (toB (fSlice (fVar 0) (fSo (fVar 2)) (fSo (fOp oAdd (toB (fVar 2)) (toB (fCall cLen [fVar 1])))))) (toB (fVar 1)))) (fVar 2))
noncomputable def run_finds : List D → Unit → Out Unit SV := runD 3 f_finds
noncomputable def f_said_of : DSt → Unit → OutS Unit :=
  sSeq (sIf (asB (fOp oEq (toB (fOp oIx (toB (fVar 1)) (toB (fC (.int 0))))) (toB (fC (.str [102, 105, 110, 100]))))) (sRet (fLc [2] (fSeq true (fFn (up0 run_finds) [fVar 0, fOp oIx (toB (fVar 1)) (toB (fC (.int 1)))])) (gNm 2) (gYes) (fFn (up0 run_place_at) [fVar 0, fVar 2]))) (sNx)) (sSeq (sIf (asB (fOp oEq (toB (fOp oIx (toB (fVar 1)) (toB (fC (.int 0))))) (toB (fC (.str [114, 111, 119, 115]))))) (sSeq (sSet 3 (fM1 mSplit (fVar 0) (fC (.str [10])))) (sRet (fLc [2] (fRng [fCall cLen [fVar 3]]) (gNm 2) (asB (fOp oIn (toB (fOp oIx (toB (fVar 1)) (toB (fC (.int 1))))) (toB (fOp oIx (toB (fVar 3)) (toB (fVar 2)))))) (fVar 2)))) (sNx)) (sSeq (sIf (asB (fOp oEq (toB (fOp oIx (toB (fVar 1)) (toB (fC (.int 0))))) (toB (fC (.str [114, 101, 110, 97, 109, 101]))))) (sRet (fFn (up0 run_renamed) [fVar 0, fOp oIx (toB (fVar 1)) (toB (fC (.int 1))), fOp oIx (toB (fVar 1)) (toB (fC (.int 2)))])) (sNx)) (sSeq (sSet 4 (fFn (up0 run_word_at) [fVar 0, fOp oIx (toB (fVar 1)) (toB (fC (.int 1)))])) (sRet (fIf (asB (fUn uIsN (toB (fVar 4)))) (fC .non) (fTup [fFn (up0 run_place_at) [fVar 0, fOp oIx (toB (fVar 4)) (toB (fC (.int 0)))], fFn (up0 run_place_at) [fVar 0, fOp oIx (toB (fVar 4)) (toB (fC (.int 1)))]]))))))
noncomputable def run_said_of : List D → Unit → Out Unit SV := runD 5 f_said_of
noncomputable def f_answer_of : DSt → Unit → OutS Unit :=
  sSeq (sExpr (fFn (up0 run_need_sheet) [fVar 0])) (sSeq (sExpr (fFn (up0 run_need_want) [fVar 0, fVar 1])) (sRet (fFn (up0 run_said_of) [fVar 0, fVar 1])))
noncomputable def run_answer_of : List D → Unit → Out Unit SV := runD 2 f_answer_of
noncomputable def f__law_word {G : Type} (M : CloM) (cc : Nat → G → Out G SV) : DSt → G → OutS G :=
  sTry [("BadAsk", true), ("BadEdit", true), ("BadFile", true), ("BadLetter", true), ("BadPlace", true), ("BadSheet", true), ("BadText", true), ("Fallen", true), ("NoAsk", true), ("NoFile", true), ("NotFallen", true), ("Old", true), ("Opened", true), ("TooMany", true)] 1 (sRet (fClo M 0 cc)) (fun a d e => sSeq (sSet 2 (fLst [fIsE 1 a d e [("BadAsk", false), ("BadEdit", false), ("BadFile", false), ("BadLetter", false), ("BadPlace", false), ("BadSheet", true), ("BadText", false), ("Fallen", false), ("NoAsk", false), ("NoFile", false), ("NotFallen", false), ("Old", false), ("Opened", false), ("TooMany", false)], fIsE 1 a d e [("BadAsk", false), ("BadEdit", false), ("BadFile", false), ("BadLetter", false), ("BadPlace", true), ("BadSheet", false), ("BadText", false), ("Fallen", false), ("NoAsk", false), ("NoFile", false), ("NotFallen", false), ("Old", false), ("Opened", false), ("TooMany", false)], fIsE 1 a d e [("BadAsk", false), ("BadEdit", true), ("BadFile", false), ("BadLetter", false), ("BadPlace", false), ("BadSheet", false), ("BadText", false), ("Fallen", false), ("NoAsk", false), ("NoFile", false), ("NotFallen", false), ("Old", false), ("Opened", false), ("TooMany", false)], fIsE 1 a d e [("BadAsk", false), ("BadEdit", false), ("BadFile", true), ("BadLetter", false), ("BadPlace", false), ("BadSheet", false), ("BadText", false), ("Fallen", false), ("NoAsk", false), ("NoFile", false), ("NotFallen", false), ("Old", false), ("Opened", false), ("TooMany", false)]])) (sSeq (sSet 2 (fOp oAdd (toB (fVar 2)) (toB (fLst [fIsE 1 a d e [("BadAsk", false), ("BadEdit", false), ("BadFile", false), ("BadLetter", false), ("BadPlace", false), ("BadSheet", false), ("BadText", false), ("Fallen", false), ("NoAsk", false), ("NoFile", false), ("NotFallen", false), ("Old", false), ("Opened", true), ("TooMany", false)], fIsE 1 a d e [("BadAsk", false), ("BadEdit", false), ("BadFile", false), ("BadLetter", false), ("BadPlace", false), ("BadSheet", false), ("BadText", false), ("Fallen", false), ("NoAsk", false), ("NoFile", true), ("NotFallen", false), ("Old", false), ("Opened", false), ("TooMany", false)], fIsE 1 a d e [("BadAsk", false), ("BadEdit", false), ("BadFile", false), ("BadLetter", false), ("BadPlace", false), ("BadSheet", false), ("BadText", false), ("Fallen", false), ("NoAsk", false), ("NoFile", false), ("NotFallen", false), ("Old", false), ("Opened", false), ("TooMany", true)], fIsE 1 a d e [("BadAsk", true), ("BadEdit", false), ("BadFile", false), ("BadLetter", false), ("BadPlace", false), ("BadSheet", false), ("BadText", false), ("Fallen", false), ("NoAsk", false), ("NoFile", false), ("NotFallen", false), ("Old", false), ("Opened", false), ("TooMany", false)]])))) (sSeq (sSet 2 (fOp oAdd (toB (fVar 2)) (toB (fLst [fIsE 1 a d e [("BadAsk", false), ("BadEdit", false), ("BadFile", false), ("BadLetter", false), ("BadPlace", false), ("BadSheet", false), ("BadText", false), ("Fallen", false), ("NoAsk", true), ("NoFile", false), ("NotFallen", false), ("Old", false), ("Opened", false), ("TooMany", false)], fIsE 1 a d e [("BadAsk", false), ("BadEdit", false), ("BadFile", false), ("BadLetter", false), ("BadPlace", false), ("BadSheet", false), ("BadText", false), ("Fallen", false), ("NoAsk", false), ("NoFile", false), ("NotFallen", false), ("Old", true), ("Opened", false), ("TooMany", false)], fIsE 1 a d e [("BadAsk", false), ("BadEdit", false), ("BadFile", false), ("BadLetter", false), ("BadPlace", false), ("BadSheet", false), ("BadText", false), ("Fallen", true), ("NoAsk", false), ("NoFile", false), ("NotFallen", false), ("Old", false), ("Opened", false), ("TooMany", false)], fIsE 1 a d e [("BadAsk", false), ("BadEdit", false), ("BadFile", false), ("BadLetter", false), ("BadPlace", false), ("BadSheet", false), ("BadText", false), ("Fallen", false), ("NoAsk", false), ("NoFile", false), ("NotFallen", true), ("Old", false), ("Opened", false), ("TooMany", false)]])))) (sSeq (sSet 2 (fOp oAdd (toB (fVar 2)) (toB (fLst [fIsE 1 a d e [("BadAsk", false), ("BadEdit", false), ("BadFile", false), ("BadLetter", true), ("BadPlace", false), ("BadSheet", false), ("BadText", false), ("Fallen", false), ("NoAsk", false), ("NoFile", false), ("NotFallen", false), ("Old", false), ("Opened", false), ("TooMany", false)], fIsE 1 a d e [("BadAsk", false), ("BadEdit", false), ("BadFile", false), ("BadLetter", false), ("BadPlace", false), ("BadSheet", false), ("BadText", true), ("Fallen", false), ("NoAsk", false), ("NoFile", false), ("NotFallen", false), ("Old", false), ("Opened", false), ("TooMany", false)]])))) (sSeq (sSet 3 (fLst [fC (.str [66, 97, 100, 83, 104, 101, 101, 116]), fC (.str [66, 97, 100, 80, 108, 97, 99, 101]), fC (.str [66, 97, 100, 69, 100, 105, 116]), fC (.str [66, 97, 100, 70, 105, 108, 101]), fC (.str [79, 112, 101, 110, 101, 100]), fC (.str [78, 111, 70, 105, 108, 101]), fC (.str [84, 111, 111, 77, 97, 110, 121]), fC (.str [66, 97, 100, 65, 115, 107]), fC (.str [78, 111, 65, 115, 107]), fC (.str [79, 108, 100])])) (sSeq (sSet 3 (fOp oAdd (toB (fVar 3)) (toB (fLst [fC (.str [70, 97, 108, 108, 101, 110]), fC (.str [78, 111, 116, 70, 97, 108, 108, 101, 110]), fC (.str [66, 97, 100, 76, 101, 116, 116, 101, 114]), fC (.str [66, 97, 100, 84, 101, 120, 116])])))) (sSeq (sIf (gOr (asB (fOp oNe (toB (fLM oCount (fVar 2) (fC (.bl true)))) (toB (fC (.int 1))))) (gNot (asB (fIsE 1 a d e [("BadAsk", true), ("BadEdit", true), ("BadFile", true), ("BadLetter", true), ("BadPlace", true), ("BadSheet", true), ("BadText", true), ("Fallen", true), ("NoAsk", true), ("NoFile", true), ("NotFallen", true), ("Old", true), ("Opened", true), ("TooMany", true)])))) (sRet (fTup [fC (.str [111, 116, 104, 101, 114]), fC (.int 0)])) (sNx)) (sSeq (sSet 4 (fOp oIx (toB (fVar 3)) (toB (fLM oIndexV (fVar 2) (fC (.bl true)))))) (sFrz 4 (sRet (fTup [fVar 4, fIf (asB (fOp oEq (toB (fVar 4)) (toB (fC (.str [66, 97, 100, 69, 100, 105, 116]))))) (fXa 1 a d e ["BadEdit"] "number") (fIf (asB (fOp oEq (toB (fVar 4)) (toB (fC (.str [66, 97, 100, 84, 101, 120, 116]))))) (fXa 1 a d e ["BadText"] "row") (fC (.int 0)))])))))))))))
noncomputable def run__law_word {G : Type} (M : CloM) (cc : Nat → G → Out G SV) : List D → G → Out G SV := runD 5 (f__law_word M cc)
noncomputable def f__law_all {G : Type} (M : CloM) (cc : Nat → G → Out G SV) : DSt → G → OutS G :=
  sRet (fOp oEq (toB (fLc [2] (fSeq true (fVar 0)) (gNm 2) (gNot (asB (fFn (up0 (run__law_same 5)) [fFn (run__law_word M cc) [fVar 2], fVar 1]))) (fVar 2))) (toB (fLst [])))
noncomputable def run__law_all {G : Type} (M : CloM) (cc : Nat → G → Out G SV) : List D → G → Out G SV := runD 3 (f__law_all M cc)
noncomputable def f_need_sheet_2 : DSt → Unit → OutS Unit :=
  sIf (gNot (asB (fFn (up0 run_is_text) [fVar 0, fC (.int 200)]))) (sRaise "BadSheet") (sNx)
noncomputable def run_need_sheet_2 : List D → Unit → Out Unit SV := runD 1 f_need_sheet_2
noncomputable def f_spans_2 : DSt → Unit → OutS Unit :=
  sSeq (sSet 2 (fLst [])) (sSeq (sFor (fEnum false (fVar 1)) (gTp (gCo (gNm 3) (gCo (gNm 4) (gNo)))) (sSeq (sSet 5 (fFn (up0 run_span) [fVar 0, fVar 4])) (sSeq (sIf (gOr (asB (fUn uIsN (toB (fVar 5)))) (asB (fOp oGe (toB (fVar 3)) (toB (fC (.int 8)))))) (sRaiseF "BadEdit" "number" (fVar 3)) (sNx)) (sSeq (sFrz 5 (sApp 2 (fVar 5))) (sSet 0 (fOp oAdd (toB (fOp oAdd (toB (fSlice (fVar 0) (fNo) (fSo (fOp oIx (toB (fVar 5)) (toB (fC (.int 0))))))) (toB (fOp oIx (toB (fVar 5)) (toB (fC (.int 2))))))) (toB (fSlice (fVar 0) (fSo (fOp oIx (toB (fVar 5)) (toB (fC (.int 1))))) (fNo))))))))) (sFrz 2 (sRet (fTup [fVar 2, fVar 0]))))
noncomputable def run_spans_2 : List D → Unit → Out Unit SV := runD 6 f_spans_2
noncomputable def f_edited : DSt → Unit → OutS Unit :=
  sSeq (sExpr (fFn (up0 run_need_sheet_2) [fVar 0])) (sRet (fOp oIx (toB (fFn (up0 run_spans_2) [fVar 0, fVar 1])) (toB (fC (.int 1)))))
noncomputable def run_edited : List D → Unit → Out Unit SV := runD 2 f_edited
noncomputable def f_together_2 : DSt → Unit → OutS Unit :=
  sSeq (sExpr (fFn (up0 run_need_sheet_2) [fVar 0])) (sSeq (sSet 2 (fOp oIx (toB (fFn (up0 run_spans_2) [fVar 0, fVar 1])) (toB (fC (.int 1))))) (sSeq (sIf (asB (fOp oEq (toB (fVar 2)) (toB (fVar 0)))) (sRet (fC .non)) (sNx)) (sSeq (sFrz 2 (sSet 3 (fFn (up0 run_alike_ahead) [fVar 0, fVar 2]))) (sSeq (sPar2 4 5 (fSlice (fVar 0) (fSo (fVar 3)) (fNo)) (fSlice (fVar 2) (fSo (fVar 3)) (fNo))) (sSeq (sSet 6 (fFn (up0 run_alike_ahead) [fUn uRevS (toB (fVar 4)), fUn uRevS (toB (fVar 5))])) (sSeq (sSet 7 (fOp oSub (toB (fCall cLen [fVar 0])) (toB (fVar 6)))) (sFrz 7 (sFrz 3 (sRet (fTup [fFn (up0 run_place_at) [fVar 0, fVar 3], fFn (up0 run_place_at) [fVar 0, fVar 7], fSlice (fVar 2) (fSo (fVar 3)) (fSo (fOp oSub (toB (fCall cLen [fVar 2])) (toB (fVar 6))))]))))))))))
noncomputable def run_together_2 : List D → Unit → Out Unit SV := runD 8 f_together_2
noncomputable def f_back_2 : DSt → Unit → OutS Unit :=
  sSeq (sExpr (fFn (up0 run_need_sheet_2) [fVar 0])) (sSeq (sSet 2 (fLst [])) (sSeq (sFor (fSeq false (fOp oIx (toB (fFn (up0 run_spans_2) [fVar 0, fVar 1])) (toB (fC (.int 0))))) (gTp (gCo (gNm 3) (gCo (gNm 4) (gCo (gNm 5) (gNo))))) (sSeq (sSet 6 (fOp oAdd (toB (fOp oAdd (toB (fSlice (fVar 0) (fNo) (fSo (fVar 3)))) (toB (fVar 5)))) (toB (fSlice (fVar 0) (fSo (fVar 4)) (fNo))))) (sSeq (sFrz 6 (sApp 2 (fTup [fFn (up0 run_place_at) [fVar 6, fVar 3], fFn (up0 run_place_at) [fVar 6, fOp oAdd (toB (fVar 3)) (toB (fCall cLen [fVar 5]))], fSlice (fVar 0) (fSo (fVar 3)) (fSo (fVar 4))]))) (sFrz 6 (sSet 0 (fVar 6)))))) (sRet (fUn uRev (toB (fVar 2))))))
noncomputable def run_back_2 : List D → Unit → Out Unit SV := runD 7 f_back_2
noncomputable def f__law_odd (p : Addr) (ns : List Int) : DSt → Gs → OutS Gs :=
  sSeq (sAsg (gTp (gCo (gNm 2) (gCo (gNm 3) (gCo (gNm 4) (gNo))))) (fFn (run__law_edit p ns) [fVar 0, fVar 1])) (sSeq (sSet 5 (fFn (drawR p ns) [fVar 0, fOp oPow (toB (fC (.int 10))) (toB (fC (.int 6)))])) (sSeq (sSet 6 (fM1 mSplit (fVar 1) (fC (.str [10])))) (sSeq (sSet 7 (fTup [fOp oSub (toB (fCall cLen [fVar 6])) (toB (fC (.int 1))), fCall cLen [fOp oIx (toB (fVar 6)) (toB (fUn uNeg (toB (fC (.int 1)))))]])) (sSeq (sFrz 7 (sSet 8 (fLst [fTup [fTup [fOp oAdd (toB (fCall cLen [fVar 6])) (toB (fVar 5)), fC (.int 0)], fVar 7, fVar 4], fTup [fVar 2, fTup [fC (.int 0), fOp oAdd (toB (fOp oAdd (toB (fCall cLen [fOp oIx (toB (fVar 6)) (toB (fC (.int 0)))])) (toB (fC (.int 1))))) (toB (fVar 5))], fVar 4]]))) (sSeq (sApp 8 (fTup [fTup [fOp oSub (toB (fC (.int 0))) (toB (fC (.int 1))), fC (.int 0)], fVar 3, fVar 4])) (sSeq (sSet 8 (fOp oAdd (toB (fVar 8)) (toB (fLst [fTup [fVar 2, fVar 3, fOp oMul (toB (fC (.str [97]))) (toB (fOp oSub (toB (fOp oAdd (toB (fC (.int 41))) (toB (fVar 5)))) (toB (fOp oMul (toB (fOp oDiv (toB (fVar 5)) (toB (fC (.int 9))))) (toB (fC (.int 9)))))))], fTup [fVar 2, fVar 3, fOp oAdd (toB (fSlice (fVar 4) (fNo) (fSo (fC (.int 39))))) (toB (fC (.str [9])))], fTup [fVar 2, fVar 3]])))) (sSeq (sSet 8 (fOp oAdd (toB (fVar 8)) (toB (fLst [fTup [fVar 2, fVar 3, fVar 4, fVar 4], fTup [], fTup [fVar 2, fTup [fC (.int 0)], fVar 4], fTup [fVar 2, fVar 3, fC (.int 0)], fTup [fC (.int 0), fVar 3, fVar 4]])))) (sSeq (sApp 8 (fTup [fVar 2, fTup [fC (.int 0), fOp oSub (toB (fC (.int 0))) (toB (fC (.int 1)))], fVar 4])) (sSeq (sIf (asB (fOp oNe (toB (fVar 1)) (toB (fC (.str []))))) (sFrz 7 (sSet 8 (fOp oAdd (toB (fVar 8)) (toB (fOp oMul (toB (fLst [fTup [fVar 7, fTup [fC (.int 0), fC (.int 0)], fVar 4]])) (toB (fC (.int 3)))))))) (sNx)) (sSeq (sIf (asB (fOp oGt (toB (fCall cLen [fVar 1])) (toB (fC (.int 160))))) (sSet 8 (fOp oAdd (toB (fVar 8)) (toB (fOp oMul (toB (fLst [fTup [fTup [fC (.int 0), fC (.int 0)], fTup [fC (.int 0), fC (.int 0)], fOp oMul (toB (fC (.str [97]))) (toB (fOp oSub (toB (fC (.int 201))) (toB (fCall cLen [fVar 1]))))]])) (toB (fC (.int 3))))))) (sNx)) (sRet (fOp oIx (toB (fVar 8)) (toB (fFn (drawR p ns) [fVar 0, fCall cLen [fVar 8]]))))))))))))))
noncomputable def run__law_odd (p : Addr) (ns : List Int) : List D → Gs → Out Gs SV := runD 9 (f__law_odd p ns)
noncomputable def f_moved_by : DSt → Unit → OutS Unit :=
  sSeq (sFor (fSeq false (fVar 0)) (gTp (gCo (gNm 2) (gCo (gNm 3) (gCo (gNm 4) (gNo))))) (sSeq (sIf (asB (fChain oLt oLt (toB (fVar 2)) (toB (fVar 1)) (toB (fVar 3)))) (sRet (fC .non)) (sNx)) (sIf (gAnd (asB (fOp oGe (toB (fVar 1)) (toB (fVar 3)))) (asB (fOp oGt (toB (fVar 1)) (toB (fVar 2))))) (sSet 1 (fOp oAdd (toB (fOp oAdd (toB (fOp oSub (toB (fVar 1)) (toB (fVar 3)))) (toB (fVar 2)))) (toB (fCall cLen [fVar 4])))) (sNx)))) (sRet (fVar 1))
noncomputable def run_moved_by : List D → Unit → Out Unit SV := runD 5 f_moved_by
noncomputable def f_moved : DSt → Unit → OutS Unit :=
  sSeq (sExpr (fFn (up0 run_need_sheet_2) [fVar 0])) (sSeq (sAsg (gTp (gCo (gNm 3) (gCo (gNm 4) (gNo)))) (fFn (up0 run_spans_2) [fVar 0, fVar 1])) (sSeq (sIf (gNot (asB (fFn (up0 run_is_place) [fVar 0, fVar 2]))) (sRaise "BadPlace") (sNx)) (sSeq (sSet 5 (fFn (up0 run_moved_by) [fVar 3, fFn (up0 run_number_at) [fVar 0, fVar 2]])) (sFrz 5 (sRet (fIf (asB (fUn uIsN (toB (fVar 5)))) (fC .non) (fFn (up0 run_place_at) [fVar 4, fVar 5])))))))
noncomputable def run_moved : List D → Unit → Out Unit SV := runD 6 f_moved
noncomputable def f_number_of : DSt → Unit → OutS Unit :=
  sSeq (sExpr (fFn (up0 run_need_sheet_2) [fVar 0])) (sSeq (sIf (gNot (asB (fFn (up0 run_is_place) [fVar 0, fVar 1]))) (sRaise "BadPlace") (sNx)) (sRet (fFn (up0 run_number_at) [fVar 0, fVar 1])))
noncomputable def run_number_of : List D → Unit → Out Unit SV := runD 2 f_number_of
noncomputable def f_place_of : DSt → Unit → OutS Unit :=
  sSeq (sExpr (fFn (up0 run_need_sheet_2) [fVar 0])) (sSeq (sIf (gNot (asB (fFn (up0 run_is_number) [fVar 1, fC (.int 0), fCall cLen [fVar 0]]))) (sRaise "BadPlace") (sNx)) (sRet (fFn (up0 run_place_at) [fVar 0, fVar 1])))
noncomputable def run_place_of : List D → Unit → Out Unit SV := runD 2 f_place_of
noncomputable def f__law_play (p : Addr) (ns : List Int) : DSt → Gs → OutS Gs :=
  sSeq (sSet 2 (fLst [])) (sSeq (sFor (fRng [fFn (drawR p ns) [fVar 0, fC (.int 25)]]) (gNm 3) (sSeq (sPar2 4 5 (fFn (drawR p ns) [fVar 0, fC (.int 15)]) (fFn (drawR p ns) [fVar 0, fVar 1])) (sSeq (sSet 6 (fFn (drawR p ns) [fVar 0, fOp oIx (toB (fLst [fC (.int 4), fC (.int 1000)])) (toB (fOp oDiv (toB (fFn (drawR p ns) [fVar 0, fC (.int 9)])) (toB (fC (.int 8)))))])) (sSeq (sSet 7 (fSlice (fFn (run__law_sheet p ns) [fVar 0]) (fNo) (fSo (fC (.int 60))))) (sSeq (sFrz 7 (sFrz 5 (sSet 8 (fLst [fTup [fC (.str [111, 112, 101, 110]), fVar 5, fVar 7], fTup [fC (.str [111, 112, 101, 110]), fVar 5, fVar 7], fTup [fC (.str [101, 100, 105, 116]), fVar 5, fCall cTup [fOp oIx (toB (fFn (run__law_edits p ns) [fVar 0, fVar 7, fC (.int 2)])) (toB (fC (.int 0)))]]])))) (sSeq (sFrz 5 (sSet 8 (fOp oAdd (toB (fVar 8)) (toB (fLst [fTup [fC (.str [101, 100, 105, 116]), fVar 5, fTup [fTup [fTup [fC (.int 0), fC (.int 0)], fTup [fC (.int 0), fC (.int 0)], fFn (run__law_put p ns) [fVar 0, fC (.int 9)]]]], fTup [fC (.str [99, 108, 111, 115, 101]), fVar 5]]))))) (sSeq (sFrz 7 (sFrz 6 (sFrz 5 (sSet 8 (fOp oAdd (toB (fVar 8)) (toB (fLst [fTup [fC (.str [97, 115, 107]), fVar 5, fFn (run__law_want p ns) [fVar 0, fVar 7]], fTup [fC (.str [97, 115, 107]), fVar 5, fFn (run__law_want p ns) [fVar 0, fVar 7]], fTup [fC (.str [111, 102, 102]), fVar 6]]))))))) (sSeq (sFrz 6 (sSet 8 (fOp oAdd (toB (fVar 8)) (toB (fLst [fTup [fC (.str [116, 97, 107, 101]), fVar 6], fTup [fC (.str [99, 97, 114, 114, 121])], fTup [fC (.str [98, 114, 105, 110, 103])], fTup [fC (.str [119, 111, 114, 107]), fVar 6], fTup [fC (.str [102, 97, 108, 108])], fTup [fC (.str [97, 110, 101, 119])], fTup [fC (.str [115, 101, 116, 116, 108, 101])]]))))) (sApp 2 (fOp oIx (toB (fVar 8)) (toB (fVar 4)))))))))))) (sRet (fVar 2)))
noncomputable def run__law_play (p : Addr) (ns : List Int) : List D → Gs → Out Gs SV := runD 9 (f__law_play p ns)
noncomputable def f_number_of_2 : DSt → Unit → OutS Unit :=
  sSeq (sIf (gOr (gNot (asB (fChain oLe oLe (toB (fC (.int 1))) (toB (fCall cLen [fVar 0])) (toB (fC (.int 3)))))) (asB (fOp oNe (toB (fLc [1] (fSeq true (fVar 0)) (gNm 1) (asB (fOp oNotIn (toB (fVar 1)) (toB (fC (.str [48, 49, 50, 51, 52, 53, 54, 55, 56, 57]))))) (fVar 1))) (toB (fLst []))))) (sRet (fC .non)) (sNx)) (sRet (fIf (gOr (asB (fOp oEq (toB (fVar 0)) (toB (fC (.str [48]))))) (asB (fOp oNe (toB (fOp oIx (toB (fVar 0)) (toB (fC (.int 0))))) (toB (fC (.str [48])))))) (fCall cInt [fVar 0]) (fC .non)))
noncomputable def run_number_of_2 : List D → Unit → Out Unit SV := runD 2 f_number_of_2
noncomputable def f_unquoted : DSt → Unit → OutS Unit :=
  sSeq (sIf (asB (fOp oEq (toB (fVar 0)) (toB (fOp oAdd (toB (fC (.str [126]))) (toB (fC (.str [46]))))))) (sRet (fC (.str []))) (sNx)) (sSeq (sSet 1 (fC (.str []))) (sSeq (sSet 2 (fC (.int 0))) (sSeq (sWhile WH (asB (fOp oLt (toB (fVar 2)) (toB (fCall cLen [fVar 0])))) (sSeq (sSet 3 (fLc [4] (fTKeys [([32], [95]), ([10], [47]), ([126], [126])]) (gNm 4) (asB (fOp oEq (toB (fSlice (fVar 0) (fSo (fVar 2)) (fSo (fOp oAdd (toB (fVar 2)) (toB (fC (.int 2))))))) (toB (fOp oAdd (toB (fC (.str [126]))) (toB (fTGet [([32], [95]), ([10], [47]), ([126], [126])] (fVar 4))))))) (fVar 4))) (sSeq (sIf (gAnd (asB (fOp oEq (toB (fOp oIx (toB (fVar 0)) (toB (fVar 2)))) (toB (fC (.str [126]))))) (asB (fOp oEq (toB (fVar 3)) (toB (fLst []))))) (sRet (fC .non)) (sNx)) (sSeq (sSet 1 (fOp oAdd (toB (fVar 1)) (toB (fIf (asB (fOp oNe (toB (fVar 3)) (toB (fLst [])))) (fOp oIx (toB (fVar 3)) (toB (fC (.int 0)))) (fOp oIx (toB (fVar 0)) (toB (fVar 2))))))) (sSet 2 (fOp oAdd (toB (fOp oAdd (toB (fVar 2)) (toB (fC (.int 1))))) (toB (fCall cLen [fVar 3])))))))) (sRet (fIf (asB (fOp oNe (toB (fVar 1)) (toB (fC (.str []))))) (fVar 1) (fC .non))))))
noncomputable def run_unquoted : List D → Unit → Out Unit SV := runD 5 f_unquoted
noncomputable def f_parts_of : DSt → Unit → OutS Unit :=
  sSeq (sIf (asB (fOp oNe (toB (fCall cLen [fVar 0])) (toB (fCall cLen [fVar 1])))) (sRet (fC .non)) (sNx)) (sSeq (sSet 2 (fLc [3, 4] (fZip true (fVar 0) (fVar 1)) (gTp (gCo (gNm 3) (gCo (gNm 4) (gNo)))) (gYes) (fIf (asB (fOp oEq (toB (fVar 4)) (toB (fC (.str [110]))))) (fFn (up0 run_number_of_2) [fVar 3]) (fFn (up0 run_unquoted) [fVar 3])))) (sRet (fIf (asB (fOp oIn (toB (fC .non)) (toB (fVar 2)))) (fC .non) (fVar 2))))
noncomputable def run_parts_of : List D → Unit → Out Unit SV := runD 5 f_parts_of
noncomputable def f_ask_from : DSt → Unit → OutS Unit :=
  sSeq (sIf (gOr (asB (fOp oLt (toB (fCall cLen [fVar 0])) (toB (fC (.int 3))))) (asB (fTIn true [([102, 105, 110, 100], [116]), ([114, 111, 119, 115], [116]), ([119, 111, 114, 100], [110, 110]), ([114, 101, 110, 97, 109, 101], [110, 110, 116])] (fOp oIx (toB (fVar 0)) (toB (fC (.int 1))))))) (sRet (fC .non)) (sNx)) (sSeq (sPar2 1 2 (fFn (up0 run_number_of_2) [fOp oIx (toB (fVar 0)) (toB (fC (.int 0)))]) (fFn (up0 run_parts_of) [fSlice (fVar 0) (fSo (fC (.int 2))) (fNo), fTGet [([102, 105, 110, 100], [116]), ([114, 111, 119, 115], [116]), ([119, 111, 114, 100], [110, 110]), ([114, 101, 110, 97, 109, 101], [110, 110, 116])] (fOp oIx (toB (fVar 0)) (toB (fC (.int 1))))])) (sSeq (sIf (gOr (asB (fUn uIsN (toB (fVar 1)))) (asB (fUn uIsN (toB (fVar 2))))) (sRet (fC .non)) (sNx)) (sSeq (sIf (asB (fOp oNe (toB (fTGet [([102, 105, 110, 100], [116]), ([114, 111, 119, 115], [116]), ([119, 111, 114, 100], [110, 110]), ([114, 101, 110, 97, 109, 101], [110, 110, 116])] (fOp oIx (toB (fVar 0)) (toB (fC (.int 1)))))) (toB (fC (.str [116]))))) (sSet 2 (fOp oAdd (toB (fLst [fCall cTup [fSlice (fVar 2) (fNo) (fSo (fC (.int 2)))]])) (toB (fSlice (fVar 2) (fSo (fC (.int 2))) (fNo))))) (sNx)) (sFrz 1 (sRet (fTup [fC (.str [97, 115, 107]), fVar 1, fCall cTup [fOp oAdd (toB (fLst [fOp oIx (toB (fVar 0)) (toB (fC (.int 1)))])) (toB (fVar 2))]]))))))
noncomputable def run_ask_from : List D → Unit → Out Unit SV := runD 3 f_ask_from
noncomputable def f_edit_from : DSt → Unit → OutS Unit :=
  sSeq (sSet 1 (fIf (asB (fOp oNe (toB (fVar 0)) (toB (fLst [])))) (fFn (up0 run_parts_of) [fVar 0, fOp oAdd (toB (fC (.str [110]))) (toB (fOp oMul (toB (fC (.str [110, 110, 110, 110, 116]))) (toB (fOp oDiv (toB (fCall cLen [fVar 0])) (toB (fC (.int 5)))))))]) (fC .non))) (sSeq (sIf (asB (fUn uIsN (toB (fVar 1)))) (sRet (fC .non)) (sNx)) (sSeq (sSet 2 (fLst [])) (sSeq (sFor (fRng3 [fC (.int 1), fCall cLen [fVar 1], fC (.int 5)]) (gNm 3) (sApp 2 (fTup [fTup [fOp oIx (toB (fVar 1)) (toB (fVar 3)), fOp oIx (toB (fVar 1)) (toB (fOp oAdd (toB (fVar 3)) (toB (fC (.int 1)))))], fTup [fOp oIx (toB (fVar 1)) (toB (fOp oAdd (toB (fVar 3)) (toB (fC (.int 2))))), fOp oIx (toB (fVar 1)) (toB (fOp oAdd (toB (fVar 3)) (toB (fC (.int 3)))))], fOp oIx (toB (fVar 1)) (toB (fOp oAdd (toB (fVar 3)) (toB (fC (.int 4)))))]))) (sRet (fTup [fC (.str [101, 100, 105, 116]), fOp oIx (toB (fVar 1)) (toB (fC (.int 0))), fCall cTup [fVar 2]])))))
noncomputable def run_edit_from : List D → Unit → Out Unit SV := runD 4 f_edit_from
noncomputable def f_step_from : DSt → Unit → OutS Unit :=
  sSeq (sIf (asB (fKIn [[99, 97, 114, 114, 121], [98, 114, 105, 110, 103], [102, 97, 108, 108], [97, 110, 101, 119], [115, 101, 116, 116, 108, 101]] (fOp oIx (toB (fVar 0)) (toB (fC (.int 0)))))) (sRet (fIf (asB (fOp oEq (toB (fCall cLen [fVar 0])) (toB (fC (.int 1))))) (fTup [fOp oIx (toB (fVar 0)) (toB (fC (.int 0)))]) (fC .non))) (sNx)) (sSeq (sIf (asB (fOp oEq (toB (fOp oIx (toB (fVar 0)) (toB (fC (.int 0))))) (toB (fC (.str [97, 115, 107]))))) (sRet (fFn (up0 run_ask_from) [fSlice (fVar 0) (fSo (fC (.int 1))) (fNo)])) (sNx)) (sSeq (sIf (asB (fOp oEq (toB (fOp oIx (toB (fVar 0)) (toB (fC (.int 0))))) (toB (fC (.str [101, 100, 105, 116]))))) (sRet (fFn (up0 run_edit_from) [fSlice (fVar 0) (fSo (fC (.int 1))) (fNo)])) (sNx)) (sSeq (sSet 1 (fIf (asB (fTIn false [([99, 108, 111, 115, 101], [110]), ([111, 102, 102], [110]), ([116, 97, 107, 101], [110]), ([119, 111, 114, 107], [110]), ([111, 112, 101, 110], [110, 116])] (fOp oIx (toB (fVar 0)) (toB (fC (.int 0)))))) (fFn (up0 run_parts_of) [fSlice (fVar 0) (fSo (fC (.int 1))) (fNo), fTGet [([99, 108, 111, 115, 101], [110]), ([111, 102, 102], [110]), ([116, 97, 107, 101], [110]), ([119, 111, 114, 107], [110]), ([111, 112, 101, 110], [110, 116])] (fOp oIx (toB (fVar 0)) (toB (fC (.int 0))))]) (fC .non))) (sRet (fIf (asB (fUn uIsN (toB (fVar 1)))) (fC .non) (fCall cTup [fOp oAdd (toB (fLst [fOp oIx (toB (fVar 0)) (toB (fC (.int 0)))])) (toB (fVar 1))]))))))
noncomputable def run_step_from : List D → Unit → Out Unit SV := runD 2 f_step_from
noncomputable def f_read : DSt → Unit → OutS Unit :=
  sSeq (sSet 1 (fLst [])) (sSeq (sFor (fEnum false (fIf (asB (fOp oNe (toB (fVar 0)) (toB (fC (.str []))))) (fM1 mSplit (fVar 0) (fC (.str [10]))) (fLst []))) (gTp (gCo (gNm 2) (gCo (gNm 3) (gNo)))) (sSeq (sSet 4 (fFn (up0 run_step_from) [fM1 mSplit (fVar 3) (fC (.str [32]))])) (sSeq (sIf (asB (fUn uIsN (toB (fVar 4)))) (sBad) (sNx)) (sFrz 4 (sApp 1 (fVar 4)))))) (sRet (fVar 1)))
noncomputable def run_read : List D → Unit → Out Unit SV := runD 5 f_read
noncomputable def f_quoted : DSt → Unit → OutS Unit :=
  sSeq (sIf (asB (fOp oEq (toB (fVar 0)) (toB (fC (.str []))))) (sRet (fOp oAdd (toB (fC (.str [126]))) (toB (fC (.str [46]))))) (sNx)) (sRet (fM1 mJoin (fC (.str [])) (fLc [1] (fSeq true (fVar 0)) (gNm 1) (gYes) (fIf (asB (fTIn false [([32], [95]), ([10], [47]), ([126], [126])] (fVar 1))) (fOp oAdd (toB (fC (.str [126]))) (toB (fTGet [([32], [95]), ([10], [47]), ([126], [126])] (fVar 1)))) (fVar 1)))))
noncomputable def run_quoted : List D → Unit → Out Unit SV := runD 2 f_quoted
noncomputable def f_words_of : DSt → Unit → OutS Unit :=
  sSeq (sSet 1 (fOp oIx (toB (fVar 0)) (toB (fC (.int 0))))) (sSeq (sIf (asB (fOp oEq (toB (fVar 1)) (toB (fC (.str [97, 115, 107]))))) (sSeq (sSet 2 (fLst [fOp oIx (toB (fVar 0)) (toB (fC (.int 1))), fOp oIx (toB (fOp oIx (toB (fVar 0)) (toB (fC (.int 2))))) (toB (fC (.int 0)))])) (sFor (fSeq false (fSlice (fOp oIx (toB (fVar 0)) (toB (fC (.int 2)))) (fSo (fC (.int 1))) (fNo))) (gNm 3) (sExt 2 (fIf (asB (fCall cIsi [fVar 3, fC (.obj (.ty "tuple"))])) (fCall cList [fVar 3]) (fLst [fVar 3]))))) (sIf (asB (fOp oEq (toB (fVar 1)) (toB (fC (.str [101, 100, 105, 116]))))) (sSeq (sSet 2 (fLst [fOp oIx (toB (fVar 0)) (toB (fC (.int 1)))])) (sFor (fSeq false (fOp oIx (toB (fVar 0)) (toB (fC (.int 2))))) (gTp (gCo (gNm 4) (gCo (gNm 5) (gCo (gNm 6) (gNo))))) (sExt 2 (fLst [fOp oIx (toB (fVar 4)) (toB (fC (.int 0))), fOp oIx (toB (fVar 4)) (toB (fC (.int 1))), fOp oIx (toB (fVar 5)) (toB (fC (.int 0))), fOp oIx (toB (fVar 5)) (toB (fC (.int 1))), fFn (up0 run_quoted) [fVar 6]])))) (sSet 2 (fLc [3] (fSeq true (fSlice (fVar 0) (fSo (fC (.int 1))) (fNo))) (gNm 3) (gYes) (fIf (asB (fCall cIsi [fVar 3, fC (.obj (.ty "str"))])) (fFn (up0 run_quoted) [fVar 3]) (fVar 3)))))) (sFrz 1 (sRet (fOp oAdd (toB (fLst [fVar 1])) (toB (fLc [3] (fSeq true (fVar 2)) (gNm 3) (gYes) (fCall cStrA [fVar 3])))))))
noncomputable def run_words_of : List D → Unit → Out Unit SV := runD 7 f_words_of
noncomputable def f_written : DSt → Unit → OutS Unit :=
  sRet (fM1 mJoin (fC (.str [10])) (fLc [1] (fSeq true (fVar 0)) (gNm 1) (gYes) (fM1 mJoin (fC (.str [32])) (fFn (up0 run_words_of) [fVar 1]))))
noncomputable def run_written : List D → Unit → Out Unit SV := runD 2 f_written
noncomputable def f__law_quoted : DSt → Unit → OutS Unit :=
  sSeq (sSet 1 (fC (.str []))) (sSeq (sFor (fSeq false (fVar 0)) (gNm 2) (sSet 1 (fOp oAdd (toB (fVar 1)) (toB (fDGet2 (fDsp [([32], [126, 95]), ([10], [126, 47]), ([126], [126, 126])]) (fVar 2) (fVar 2)))))) (sRet (fIf (asB (fOp oNe (toB (fVar 0)) (toB (fC (.str []))))) (fVar 1) (fC (.str [126, 46])))))
noncomputable def run__law_quoted : List D → Unit → Out Unit SV := runD 3 f__law_quoted
noncomputable def f__law_words : DSt → Unit → OutS Unit :=
  sSeq (sIf (asB (fOp oEq (toB (fOp oIx (toB (fVar 0)) (toB (fC (.int 0))))) (toB (fC (.str [101, 100, 105, 116]))))) (sSeq (sSet 1 (fLst [fCall cStr [fOp oIx (toB (fVar 0)) (toB (fC (.int 1)))]])) (sSeq (sFor (fSeq false (fOp oIx (toB (fVar 0)) (toB (fC (.int 2))))) (gTp (gCo (gNm 2) (gCo (gNm 3) (gCo (gNm 4) (gNo))))) (sSet 1 (fOp oAdd (toB (fOp oAdd (toB (fVar 1)) (toB (fLc [5] (fSeq true (fOp oAdd (toB (fVar 2)) (toB (fVar 3)))) (gNm 5) (gYes) (fCall cStr [fVar 5]))))) (toB (fLst [fFn (up0 run__law_quoted) [fVar 4]]))))) (sRet (fVar 1)))) (sNx)) (sSeq (sSet 1 (fLst [])) (sSeq (sFor (fSeq false (fSlice (fVar 0) (fSo (fC (.int 1))) (fNo))) (gNm 5) (sIf (asB (fCall cIsi [fVar 5, fC (.obj (.ty "tuple"))])) (sSeq (sApp 1 (fOp oIx (toB (fVar 5)) (toB (fC (.int 0))))) (sFor (fSeq false (fSlice (fVar 5) (fSo (fC (.int 1))) (fNo))) (gNm 6) (sSet 1 (fOp oAdd (toB (fVar 1)) (toB (fIf (asB (fCall cIsi [fVar 6, fC (.obj (.ty "tuple"))])) (fLc [7] (fSeq true (fVar 6)) (gNm 7) (gYes) (fCall cStr [fVar 7])) (fLst [fVar 6]))))))) (sApp 1 (fIf (asB (fCall cIsi [fVar 5, fC (.obj (.ty "str"))])) (fFn (up0 run__law_quoted) [fVar 5]) (fCall cStr [fVar 5]))))) (sRet (fVar 1))))
noncomputable def run__law_words : List D → Unit → Out Unit SV := runD 8 f__law_words
end HW
/-! HS: readings are reckoned (simp) -/
namespace DL
open PySem PySem.Spec PyProof.Rows L2
section
variable {G : Type} (sd : DSt) (g : G) (fa fb fc : DSt → G → Out G SV) (da db : DSt → G → Out G D) (ba bb : DSt → G → Out G Bool) (k f : DSt → G → OutS G)
@[simp] theorem e_var (i : Nat) : fVar i sd g = (match sd[i]? with
  | some (some (.fr d)) => .ok (.fr d) g
  | some (some (.ow d)) => .ok (.bo d) g
  | _ => .bad) := id rfl
@[simp] theorem e_c (d : D) : fC d sd g = .ok (.fr d) g := id rfl
@[simp] theorem e_op (op : D → D → Option SV) : fOp op da db sd g = (da sd g).bind fun x g1 => (db sd g1).bind fun y g2 => Out.lift (op x y) g2 := id rfl
@[simp] theorem e_un (op : D → Option SV) : fUn op da sd g = (da sd g).bind fun x g1 => Out.lift (op x) g1 := id rfl
@[simp] theorem e_toB : toB fa sd g = (fa sd g).bind fun x g' => .ok x.d g' := id rfl
@[simp] theorem e_toD : toD fa sd g = (fa sd g).bind fun x g' => Out.lift x.keep g' := id rfl
@[simp] theorem e_asB : asB fa sd g = (fa sd g).bind fun x g' => match x with
  | .fr (.bl b) => .ok b g'
  | _ => .bad := id rfl
@[simp] theorem e_chain (o o' : D → D → Option SV) (dc : DSt → G → Out G D) : fChain o o' da db dc sd g = (da sd g).bind fun x g1 => (db sd g1).bind fun y g2 => match o x y with
  | some (.fr (.bl true)) => (dc sd g2).bind fun z g3 => Out.lift (o' y z) g3
  | some (.fr (.bl false)) => .ok (.fr (.bl false)) g2
  | _ => .bad := id rfl
@[simp] theorem e_gAnd : gAnd ba bb sd g = (ba sd g).bind fun x g1 => if x = true then bb sd g1 else .ok false g1 := id rfl
@[simp] theorem e_gOr : gOr ba bb sd g = (ba sd g).bind fun x g1 => if x = true then .ok true g1 else bb sd g1 := id rfl
@[simp] theorem e_gNot : gNot ba sd g = (ba sd g).bind fun x g1 => .ok (!x) g1 := id rfl
@[simp] theorem e_gYes : gYes sd g = .ok true g := id rfl
@[simp] theorem e_and : fAnd fa fb sd g = (asB fa sd g).bind fun x g1 => if x = true then fb sd g1 else .ok (.fr (.bl false)) g1 := id rfl
@[simp] theorem e_or : fOr fa fb sd g = (asB fa sd g).bind fun x g1 => if x = true then .ok (.fr (.bl true)) g1 else fb sd g1 := id rfl
@[simp] theorem e_not : fNot fa sd g = (asB fa sd g).bind fun x g1 => .ok (.fr (.bl (!x))) g1 := id rfl
@[simp] theorem e_if : fIf ba fa fb sd g = (ba sd g).bind fun x g1 => if x = true then fa sd g1 else fb sd g1 := id rfl
@[simp] theorem e_no : fNo sd g = .ok none g := id rfl
@[simp] theorem e_so : fSo fa sd g = (toB fa sd g).bind fun x g1 => match x with
  | .int i => .ok (some i) g1
  | _ => .bad := id rfl
@[simp] theorem e_slice (lo hi : DSt → G → Out G (Option Int)) : fSlice fa lo hi sd g = (toB fa sd g).bind fun x g1 => (lo sd g1).bind fun l g2 => (hi sd g2).bind fun h g3 => Out.lift (oSl x l h) g3 := id rfl
@[simp] theorem e_nil : lArgs [] sd g = .ok [] g := id rfl
@[simp] theorem e_cons (fs : List (DSt → G → Out G D)) : lArgs (da :: fs) sd g = (da sd g).bind fun d g1 => (lArgs fs sd g1).bind fun ds g2 => .ok (d :: ds) g2 := id rfl
@[simp] theorem e_tup (fs : List (DSt → G → Out G SV)) : fTup fs sd g = (lArgs (fs.map toD) sd g).bind fun ds g1 => .ok (.fr (.tup ds)) g1 := id rfl
@[simp] theorem e_lst (fs : List (DSt → G → Out G SV)) : fLst fs sd g = (lArgs (fs.map toD) sd g).bind fun ds g1 => .ok (.ow (.lst ds)) g1 := id rfl
@[simp] theorem e_call (op : List D → Option SV) (fs : List (DSt → G → Out G SV)) : fCall op fs sd g = (lArgs (fs.map toB) sd g).bind fun ds g1 => Out.lift (op ds) g1 := id rfl
@[simp] theorem e_fn (run : List D → G → Out G SV) (fs : List (DSt → G → Out G SV)) : fFn run fs sd g = (lArgs (fs.map toD) sd g).bind fun ds g1 => run ds g1 := id rfl
@[simp] theorem e_up0 (run : List D → Unit → Out Unit SV) (ds : List D) : up0 run ds g = (match run ds () with
  | .ok a _ => .ok a g
  | .er e _ => .er e g
  | .bad => .bad) := id rfl
@[simp] theorem e_asStr : asStr fa sd g = (toB fa sd g).bind fun x g1 => match x with
  | .str l => .ok l g1
  | _ => .bad := id rfl
@[simp] theorem e_m1 (op : List Nat → D → Option SV) : fM1 op fa fb sd g = (asStr fa sd g).bind fun x g1 => (toB fb sd g1).bind fun y g2 => Out.lift (op x y) g2 := id rfl
@[simp] theorem e_seqT : fSeq true fa sd g = (toB fa sd g).bind fun d g1 => Out.lift (seqB d) g1 := id rfl
@[simp] theorem e_seqF : fSeq false fa sd g = (toD fa sd g).bind fun d g1 => Out.lift (seqB d) g1 := id rfl
@[simp] theorem e_rng (fs : List (DSt → G → Out G SV)) : fRng fs sd g = (lArgs (fs.map toB) sd g).bind fun ds g1 => Out.lift (rgB ds) g1 := id rfl
@[simp] theorem e_enumT : fEnum true fa sd g = (toB fa sd g).bind fun d g1 => Out.lift (enumB d) g1 := by
  unfold fEnum toK
  simp
  cases fa sd g <;> rfl
@[simp] theorem e_enumF : fEnum false fa sd g = (toD fa sd g).bind fun d g1 => Out.lift (enumB d) g1 := by
  unfold fEnum toK
  simp
  cases fa sd g with
  | ok x g => cases x <;> rfl
  | er => rfl
  | bad => rfl
@[simp] theorem e_lc (is : List Nat) (fi : DSt → G → Out G (List D)) (gf : D → DSt → Option DSt) : fLc is fi gf ba fa sd g = (fi sd g).bind fun ds g1 => if ds.length ≤ lim then (lcGo gf ba fa (wipeD sd is) ds g1).bind fun l g2 => .ok (.ow (.lst l)) g2 else .bad := id rfl
@[simp] theorem e_dispT : fDispT fa fb sd g = (toD fa sd g).bind fun k g1 => (toD fb sd g1).bind fun v g2 => match k with
  | .tup ds => Out.lift ((asKeys ds).map fun ks => .ow (.dt [(ks, v)])) g2
  | _ => .bad := id rfl
@[simp] theorem e_dget : fDGet fa fb sd g = (toB fa sd g).bind fun x g1 => (toB fb sd g1).bind fun y g2 => match DL.getD x y with
  | some (some d) => .ok (.fr d) g2
  | _ => .bad := id rfl
@[simp] theorem e_din (n : Bool) : fDIn n fa fb sd g = (toB fa sd g).bind fun y g1 => (toB fb sd g1).bind fun x g2 => match DL.getD x y with
  | some r => .ok (.fr (.bl (if n = true then !r.isSome else r.isSome))) g2
  | none => .bad := id rfl
/-! statements -/
@[simp] theorem e_of_ok {α : Type} (a : α) (k : α → G → OutS G) : OutS.of sd (.ok a g) k = k a g := id rfl
@[simp] theorem e_of_er {α : Type} (e : Exc) (k : α → G → OutS G) : OutS.of sd (.er e g : Out G α) k = .er e sd g := id rfl
@[simp] theorem e_of_bad {α : Type} (k : α → G → OutS G) : OutS.of sd (.bad : Out G α) k = .bad := id rfl
@[simp] theorem e_ofO_s : OutS.ofO (some sd) g = .nx sd g := id rfl
@[simp] theorem e_ofO_n : OutS.ofO none g = .bad := id rfl
@[simp] theorem e_seq : sSeq f k sd g = (match f sd g with
  | .nx sd g => k sd g
  | o => o) := id rfl
@[simp] theorem e_nx : sNx sd g = .nx sd g := id rfl
@[simp] theorem e_sbad : sBad sd g = .bad := id rfl
@[simp] theorem e_frz (i : Nat) : sFrz i f sd g = f (frz i sd) g := id rfl
@[simp] theorem e_set (i : Nat) : sSet i fa sd g = OutS.of sd (fa sd g) fun x g1 => .ofO (setSV i sd x) g1 := id rfl
@[simp] theorem e_asg (gf : D → DSt → Option DSt) : sAsg gf fa sd g = OutS.of sd (toD fa sd g) fun d g1 => .ofO (gf d sd) g1 := id rfl
@[simp] theorem e_par2 (i j : Nat) : sPar2 i j fa fb sd g = OutS.of sd (fa sd g) fun x g1 => OutS.of sd (fb sd g1) fun y g2 => .ofO ((setSV i sd x).bind fun sd' => setSV j sd' y) g2 := id rfl
@[simp] theorem e_par3 (i j l : Nat) : sPar3 i j l fa fb fc sd g = OutS.of sd (fa sd g) fun x g1 => OutS.of sd (fb sd g1) fun y g2 => OutS.of sd (fc sd g2) fun z g3 =>
  .ofO ((setSV i sd x).bind fun sd1 => (setSV j sd1 y).bind fun sd2 => setSV l sd2 z) g3 := id rfl
@[simp] theorem e_ret : sRet fa sd g = OutS.of sd (fa sd g) fun x g1 => .rt x g1 := id rfl
@[simp] theorem e_retN : sRetN sd g = .rt (.fr .non) g := id rfl
@[simp] theorem e_expr : sExpr fa sd g = OutS.of sd (fa sd g) fun _ g1 => .nx sd g1 := id rfl
@[simp] theorem e_sif : sIf ba f k sd g = OutS.of sd (ba sd g) fun b g1 => if b = true then f sd g1 else k sd g1 := id rfl
@[simp] theorem e_bk : sBk sd g = .bk sd g := id rfl
@[simp] theorem e_ct : sCt sd g = .ct sd g := id rfl
@[simp] theorem e_app (i : Nat) : sApp i fa sd g = (match ownL i sd with
  | some ds => OutS.of sd (toD fa sd g) fun d g1 => if ds.length < lim then .nx (sd.set i (some (.ow (.lst (ds ++ [d]))))) g1 else .bad
  | none => .bad) := id rfl
@[simp] theorem e_put (i : Nat) : sPut i fa fb sd g = OutS.of sd (toD fb sd g) fun d g1 => match ownL i sd with
  | some ds => OutS.of sd (toB fa sd g1) fun k g2 => match putL ds k d with
    | some ds' => .nx (sd.set i (some (.ow (.lst ds')))) g2
    | none => .bad
  | none => .bad := id rfl
@[simp] theorem e_dput (i : Nat) : sDPutF i fa fb sd g = OutS.of sd (toD fb sd g) fun d g1 => match ownD i sd with
  | some x => OutS.of sd (toB fa sd g1) fun y g2 => match putO x y d with
    | some x' => .nx (sd.set i (some (.ow x'))) g2
    | none => .bad
  | none => .bad := id rfl
@[simp] theorem e_for (fi : DSt → G → Out G (List D)) (gf : D → DSt → Option DSt) : sFor fi gf f sd g = OutS.of sd (fi sd g) fun ds g1 => forGo gf f ds sd g1 := id rfl
@[simp] theorem e_run (n : Nat) (ds : List D) : runD n f ds g = (f (startD n ds) g).out := id rfl
end
section
variable {G : Type} (g : G)
@[simp] theorem o_nx (sd : DSt) : (OutS.nx sd g).out = .ok (.fr .non) g := id rfl
@[simp] theorem o_rt (x : SV) : (OutS.rt x g).out = .ok (ownR x) g := id rfl
@[simp] theorem o_er (e : Exc) (sd : DSt) : (OutS.er e sd g).out = .er e g := id rfl
@[simp] theorem o_bad : (OutS.bad : OutS G).out = .bad := id rfl
@[simp] theorem ownR_fr (d : D) : ownR (.fr d) = .fr d := id rfl
@[simp] theorem ownR_ow (d : D) : ownR (.ow d) = .ow d := id rfl
@[simp] theorem ownR_bo (d : D) : ownR (.bo d) = .ow d := id rfl
@[simp] theorem sv_fr (d : D) : (SV.fr d).d = d := id rfl
@[simp] theorem sv_ow (d : D) : (SV.ow d).d = d := id rfl
@[simp] theorem sv_bo (d : D) : (SV.bo d).d = d := id rfl
@[simp] theorem kp_fr (d : D) : (SV.fr d).keep = some d := id rfl
@[simp] theorem kp_ow (d : D) : (SV.ow d).keep = some d := id rfl
@[simp] theorem kp_bo (d : D) : (SV.bo d).keep = none := id rfl
@[simp] theorem setSV_fr (i : Nat) (sd : DSt) (d : D) : setSV i sd (.fr d) = some (sd.set i (some (.fr d))) := id rfl
@[simp] theorem setSV_ow (i : Nat) (sd : DSt) (d : D) : setSV i sd (.ow d) = some (sd.set i (some (.ow d))) := id rfl
@[simp] theorem gNm_eq (i : Nat) (d : D) (sd : DSt) : gNm i d sd = some (sd.set i (some (.fr d))) := id rfl
@[simp] theorem gTp_eq (fs : List D → DSt → Option DSt) (ds : List D) (sd : DSt) : gTp fs (.tup ds) sd = fs ds sd := id rfl
@[simp] theorem gCo_eq (f : D → DSt → Option DSt) (fs : List D → DSt → Option DSt) (d : D) (ds : List D) (sd : DSt) : gCo f fs (d :: ds) sd = (f d sd).bind (fs ds) := id rfl
@[simp] theorem gNo_eq (sd : DSt) : gNo [] sd = some sd := id rfl
@[simp] theorem startD_eq (n : Nat) (ds : List D) : startD n ds = ds.map (fun d => some (.fr d)) ++ List.replicate (n - ds.length) none := id rfl
@[simp] theorem wipe_nil (sd : DSt) : wipeD sd [] = sd := id rfl
@[simp] theorem wipe_cons (sd : DSt) (v : Nat) (vs : List Nat) : wipeD sd (v :: vs) = (wipeD sd vs).set v none := id rfl
end
/-! operations -/
@[simp] theorem oAdd_int (i j : Int) : oAdd (.int i) (.int j) = some (.fr (.int (i + j))) := id rfl
@[simp] theorem oAdd_str (x y : List Nat) : oAdd (.str x) (.str y) = if x.length + y.length ≤ lim then some (.fr (.str (x ++ y))) else none := id rfl
@[simp] theorem oAdd_lst (x y : List D) : oAdd (.lst x) (.lst y) = if x.length + y.length ≤ lim then some (.ow (.lst (x ++ y))) else none := id rfl
@[simp] theorem oSub_int (i j : Int) : oSub (.int i) (.int j) = some (.fr (.int (i - j))) := id rfl
@[simp] theorem oMul_str (x : List Nat) (j : Int) : oMul (.str x) (.int j) = if 0 ≤ j ∧ x.length * j.toNat ≤ lim ∧ j.toNat ≤ lim then some (.fr (.str (List.replicate j.toNat x).flatten)) else none := id rfl
theorem oDiv_int {i j : Int} (h : 0 < j ∧ j < 2 ^ 200) : oDiv (.int i) (.int j) = some (.fr (.int (i / j))) := if_pos h
theorem oMul_int {i j : Int} (h : (-(2 ^ 64) < i ∧ i < 2 ^ 64) ∨ (-(2 ^ 64) < j ∧ j < 2 ^ 64)) : oMul (.int i) (.int j) = some (.fr (.int (i * j))) := if_pos h
@[simp] theorem oMod_int (i j : Int) : oMod (.int i) (.int j) = if 0 < j then some (.fr (.int (i % j))) else none := id rfl
@[simp] theorem uNeg_int (i : Int) : uNeg (.int i) = some (.fr (.int (-i))) := id rfl
@[simp] theorem oLt_int (i j : Int) : oLt (.int i) (.int j) = some (.fr (.bl (decide (i < j)))) := id rfl
@[simp] theorem oLe_int (i j : Int) : oLe (.int i) (.int j) = some (.fr (.bl (decide (i ≤ j)))) := id rfl
@[simp] theorem oGt_int (i j : Int) : oGt (.int i) (.int j) = some (.fr (.bl (decide (j < i)))) := id rfl
@[simp] theorem oGe_int (i j : Int) : oGe (.int i) (.int j) = some (.fr (.bl (decide (j ≤ i)))) := id rfl
@[simp] theorem oLe_str (i j : List Nat) : oLe (.str i) (.str j) = some (.fr (.bl (!decide (j < i)))) := id rfl
@[simp] theorem isNon_non : D.isNon .non = some true := id rfl
@[simp] theorem isNon_int (i : Int) : D.isNon (.int i) = some false := id rfl
@[simp] theorem isNon_tup (x : List D) : D.isNon (.tup x) = some false := id rfl
@[simp] theorem isNon_lst (x : List D) : D.isNon (.lst x) = some false := id rfl
@[simp] theorem isNon_str (x : List Nat) : D.isNon (.str x) = some false := id rfl
@[simp] theorem isNon_bl (x : Bool) : D.isNon (.bl x) = some false := id rfl
@[simp] theorem uIsN_eq (d : D) : uIsN d = d.isNon.map fun b => .fr (.bl b) := id rfl
@[simp] theorem uNotN_eq (d : D) : uNotN d = d.isNon.map fun b => .fr (.bl (!b)) := id rfl
@[simp] theorem oIx_eq (x y : D) : oIx x y = (oIxD x y).map .fr := id rfl
@[simp] theorem oIxD_lst (xs : List D) (i : Int) : oIxD (.lst xs) (.int i) = L2.atI xs i := id rfl
@[simp] theorem oIxD_tup (xs : List D) (i : Int) : oIxD (.tup xs) (.int i) = L2.atI xs i := id rfl
@[simp] theorem oIxD_str (x : List Nat) (i : Int) : oIxD (.str x) (.int i) = if x.length ≤ lim then (L2.atI x i).map fun c => .str [c] else none := id rfl
@[simp] theorem cLen_str (x : List Nat) : cLen [.str x] = if x.length ≤ lim then some (.fr (.int x.length)) else none := id rfl
@[simp] theorem cLen_lst (x : List D) : cLen [.lst x] = some (.fr (.int x.length)) := id rfl
@[simp] theorem cLen_tup (x : List D) : cLen [.tup x] = some (.fr (.int x.length)) := id rfl
@[simp] theorem cMin_eq (i j : Int) : cMin [.int i, .int j] = some (.fr (.int (minI i j))) := id rfl
@[simp] theorem cInt_bl (b : Bool) : cInt [.bl b] = some (.fr (.int (if b then 1 else 0))) := id rfl
@[simp] theorem cInt_int (i : Int) : cInt [.int i] = some (.fr (.int i)) := id rfl
@[simp] theorem cIsi_ty (d : D) (s : String) : cIsi [d, .obj (.ty s)] = (isT d s).map fun b => .fr (.bl b) := id rfl
@[simp] theorem cIsi_tup (d : D) (cs : List D) : cIsi [d, .tup cs] = if (d.typ).isSome = true then (isTs d cs).map fun b => .fr (.bl b) else none := id rfl
@[simp] theorem cSum_eq (x : List D) : cSum [.lst x] = (allInt x).map fun ns => .fr (.int ns.sum) := id rfl
@[simp] theorem cMax_eq (x : List D) : cMax [.lst x] = ((allInt x).bind maxL).map fun n => .fr (.int n) := id rfl
@[simp] theorem cSorted_eq (x : List D) : cSorted [.lst x] = (allInt x).map fun ns => .ow (.lst ((ns.mergeSort fun a b => decide (a ≤ b)).map .int)) := id rfl
@[simp] theorem cList_lst (x : List D) : cList [.lst x] = some (.ow (.lst x)) := id rfl
@[simp] theorem seqB_lst (x : List D) : seqB (.lst x) = some x := id rfl
@[simp] theorem seqB_tup (x : List D) : seqB (.tup x) = some x := id rfl
@[simp] theorem seqB_str (x : List Nat) : seqB (.str x) = some (signs x) := id rfl
@[simp] theorem enumB_lst (x : List D) : enumB (.lst x) = some (enumF 0 x) := id rfl
@[simp] theorem enumB_str (x : List Nat) : enumB (.str x) = some (enumF 0 (signs x)) := id rfl
theorem rgB1 {j : Int} (h : -1000000 ≤ j ∧ j ≤ 1000000) : rgB [.int j] = some (rng 0 j.toNat) := if_pos (by omega)
theorem rgB2 {i j : Int} (h : -1000000 ≤ i ∧ i ≤ 1000000 ∧ -1000000 ≤ j ∧ j ≤ 1000000) : rgB [.int i, .int j] = some (rng i (j - i).toNat) := if_pos (by omega)
@[simp] theorem mSplit_eq (x : List Nat) (s : Nat) : mSplit x (.str [s]) = if s < 256 ∧ x.length + 2 ≤ lim then some (.ow (.lst ((spl1 s x).map .str))) else none := id rfl
@[simp] theorem oSl_str (x : List Nat) (lo hi : Option Int) : oSl (.str x) lo hi = if x.length ≤ lim then some (.fr (.str (cutL x lo hi))) else none := id rfl
@[simp] theorem oSl_lst (x : List D) (lo hi : Option Int) : oSl (.lst x) lo hi = some (.ow (.lst (cutL x lo hi))) := id rfl
@[simp] theorem uRev_lst (x : List D) : uRev (.lst x) = some (.ow (.lst x.reverse)) := id rfl
@[simp] theorem uRevS_str (x : List Nat) : uRevS (.str x) = if x.length ≤ lim then some (.fr (.str x.reverse)) else none := id rfl
end DL
namespace HW
open PySem PySem.Spec PyProof.Rows L2 DL
theorem is_number_int (i lo hi : Int) : run_is_number [.int i, .int lo, .int hi] () = .ok (.fr (.bl (decide (lo ≤ i) && decide (i ≤ hi)))) () := by
  simp [run_is_number, f_is_number, isT]
  by_cases h : lo ≤ i
  · simp [h]
  · simp [h]
theorem need_sheet_ok (d : D) (h : run_is_text [d, .int 200] () = .ok (.fr (.bl true)) ()) : run_need_sheet [d] () = .ok (.fr .non) () := by
  simp [run_need_sheet, f_need_sheet, h]
end HW
/-! PM: places in a sheet, plainly -/
namespace PM
open DL (spl1 spl1_hit spl1_miss spl1_ne)
/-- the place behind all signs -/
def pos : List Nat → Nat × Nat
  | [] => (0, 0)
  | c :: l => if c = 10 then ((pos l).1 + 1, (pos l).2) else if (pos l).1 = 0 then (0, (pos l).2 + 1) else pos l
/-- a place's number in rows -/
def num (rows : List (List Nat)) (r c : Nat) : Nat := ((rows.take r).map fun l => l.length + 1).sum + c
theorem pos_nl (l : List Nat) : pos (10 :: l) = ((pos l).1 + 1, (pos l).2) := by
  show (if 10 = 10 then _ else _) = _
  rw [if_pos rfl]
theorem pos_c {c : Nat} (h : ¬ c = 10) (l : List Nat) : pos (c :: l) = if (pos l).1 = 0 then (0, (pos l).2 + 1) else pos l := by
  show (if c = 10 then _ else _) = _
  rw [if_neg h]
theorem pos_num : ∀ (x : List Nat) (n : Nat), n ≤ x.length → ∃ row, (spl1 10 x)[(pos (x.take n)).1]? = some row ∧ (pos (x.take n)).2 ≤ row.length ∧ num (spl1 10 x) (pos (x.take n)).1 (pos (x.take n)).2 = n
  | x, 0, _ => by
    rw [List.take_zero]
    cases e : spl1 10 x with
    | nil => exact absurd e (spl1_ne 10 x)
    | cons r rs => exact ⟨r, rfl, Nat.zero_le _, rfl⟩
  | [], n + 1, h => by simp at h
  | c :: t, n + 1, h => by
    obtain ⟨row, h1, h2, h3⟩ := pos_num t n (by simpa using h)
    rw [List.take_succ_cons]
    by_cases hc : c = 10
    · subst hc
      rw [pos_nl, spl1_hit]
      refine ⟨row, by simpa using h1, h2, ?_⟩
      unfold num at h3 ⊢
      simp only [List.take_succ_cons, List.map_cons, List.sum_cons, List.length_nil]
      omega
    · rw [pos_c hc, spl1_miss hc]
      cases e : spl1 10 t with
      | nil => exact absurd e (spl1_ne 10 t)
      | cons p ps =>
        rw [e] at h1 h3
        by_cases hz : (pos (t.take n)).1 = 0
        · rw [if_pos hz]
          rw [hz] at h1 h3
          have h1 : some p = some row := h1
          cases h1
          refine ⟨c :: row, rfl, by simp; omega, ?_⟩
          unfold num at h3 ⊢
          simp only [List.take_zero, List.map_nil, List.sum_nil] at h3 ⊢
          omega
        · rw [if_neg hz]
          obtain ⟨r, hr⟩ : ∃ r, (pos (t.take n)).1 = r + 1 := ⟨(pos (t.take n)).1 - 1, by omega⟩
          rw [hr] at h1 h3 ⊢
          refine ⟨row, by simpa using h1, h2, ?_⟩
          unfold num at h3 ⊢
          simp only [List.take_succ_cons, List.map_cons, List.sum_cons, List.length_cons] at h3 ⊢
          omega
theorem pos_inj {x : List Nat} {m n : Nat} (hm : m ≤ x.length) (hn : n ≤ x.length) (h : pos (x.take m) = pos (x.take n)) : m = n := by
  obtain ⟨_, _, _, a⟩ := pos_num x m hm
  obtain ⟨_, _, _, b⟩ := pos_num x n hn
  rw [h] at a
  omega
theorem pos_rows : ∀ l : List Nat, (spl1 10 l).length = (pos l).1 + 1 ∧ ∃ row, (spl1 10 l)[(pos l).1]? = some row ∧ row.length = (pos l).2
  | [] => ⟨rfl, [], rfl, rfl⟩
  | c :: t => by
    obtain ⟨h1, row, h2, h3⟩ := pos_rows t
    by_cases hc : c = 10
    · subst hc
      rw [pos_nl, spl1_hit]
      exact ⟨by simp [h1], row, by simpa using h2, h3⟩
    · rw [pos_c hc, spl1_miss hc]
      cases e : spl1 10 t with
      | nil => exact absurd e (spl1_ne 10 t)
      | cons p ps =>
        rw [e] at h1 h2
        by_cases hz : (pos t).1 = 0
        · rw [if_pos hz]
          rw [hz] at h1 h2
          have h2 : some p = some row := h2
          cases h2
          exact ⟨h1, c :: row, rfl, by simp [h3]⟩
        · rw [if_neg hz]
          obtain ⟨r, hr⟩ : ∃ r, (pos t).1 = r + 1 := ⟨(pos t).1 - 1, by omega⟩
          rw [hr] at h1 h2 ⊢
          exact ⟨h1, row, by simpa using h2, h3⟩
theorem pos_snoc (c : Nat) : ∀ l : List Nat, pos (l ++ [c]) = if c = 10 then ((pos l).1 + 1, 0) else ((pos l).1, (pos l).2 + 1)
  | [] => by
    by_cases h : c = 10
    · subst h; rfl
    · rw [if_neg h, List.nil_append, pos_c h]; rfl
  | d :: t => by
    have ih := pos_snoc c t
    rw [List.cons_append]
    by_cases hd : d = 10
    · subst hd
      rw [pos_nl, pos_nl, ih]
      by_cases h : c = 10
      · rw [if_pos h, if_pos h]
      · rw [if_neg h, if_neg h]
    · rw [pos_c hd, pos_c hd, ih]
      by_cases h : c = 10
      · rw [if_pos h, if_pos h]
        show (if (pos t).1 + 1 = 0 then _ else _) = _
        rw [if_neg (by omega)]
        by_cases hz : (pos t).1 = 0
        · rw [if_pos hz, hz]
        · rw [if_neg hz]
      · rw [if_neg h, if_neg h]
        show (if (pos t).1 = 0 then _ else _) = _
        by_cases hz : (pos t).1 = 0
        · rw [if_pos hz, if_pos hz]
        · rw [if_neg hz, if_neg hz]
/-- a sign of a sheet -/
def okc (c : Nat) : Bool := c == 10 || (decide (32 ≤ c) && decide (c ≤ 126))
/-- a sheet -/
def okt (x : List Nat) : Bool := x.all okc
theorem okt_app {x y : List Nat} : okt (x ++ y) = (okt x && okt y) := by unfold okt; rw [List.all_append]
theorem okt_take {x : List Nat} (n : Nat) (h : okt x = true) : okt (x.take n) = true := by
  unfold okt at *
  rw [List.all_eq_true] at *
  exact fun c hc => h c (List.mem_of_mem_take hc)
theorem okt_drop {x : List Nat} (n : Nat) (h : okt x = true) : okt (x.drop n) = true := by
  unfold okt at *
  rw [List.all_eq_true] at *
  exact fun c hc => h c (List.mem_of_mem_drop hc)
theorem okc_lt {c : Nat} (h : okc c = true) : c < 1114112 := by
  unfold okc at h
  simp at h
  omega
end PM
/-! HM: what comparisons, walks, comprehensions answer -/
namespace DL
open PySem PySem.Spec PyProof.Rows L2
/-- signs that a text may hold -/
def chs (x : List Nat) : Bool := x.all fun c => decide (c < 1114112)
@[simp] theorem fit_str (x : List Nat) : (D.str x).fit = chs x := by
  show (chs x && decide (0 ≤ 60)) = chs x
  simp
@[simp] theorem fit_int (i : Int) : (D.int i).fit = true := id rfl
@[simp] theorem fit_bl (i : Bool) : (D.bl i).fit = true := id rfl
@[simp] theorem fit_non : D.non.fit = true := id rfl
@[simp] theorem fit_nil : (D.lst []).fit = true := id rfl
@[simp] theorem ok_str (x : List Nat) : (D.str x).ok = chs x := id rfl
@[simp] theorem ok_int (i : Int) : (D.int i).ok = true := id rfl
@[simp] theorem ok_bl (i : Bool) : (D.bl i).ok = true := id rfl
@[simp] theorem ok_non : D.non.ok = true := id rfl
@[simp] theorem ok_lst (x : List D) : (D.lst x).ok = D.okAll x := id rfl
@[simp] theorem ok_tup (x : List D) : (D.tup x).ok = D.okAll x := id rfl
@[simp] theorem okAll_nil : D.okAll [] = true := id rfl
@[simp] theorem okAll_cons (d : D) (x : List D) : D.okAll (d :: x) = (d.ok && D.okAll x) := id rfl
@[simp] theorem dep_str (x : List Nat) : (D.str x).dep = 0 := id rfl
@[simp] theorem dep_int (i : Int) : (D.int i).dep = 0 := id rfl
@[simp] theorem dep_bl (i : Bool) : (D.bl i).dep = 0 := id rfl
@[simp] theorem dep_non : D.non.dep = 0 := id rfl
@[simp] theorem dep_lst (x : List D) : (D.lst x).dep = D.depAll x + 1 := id rfl
@[simp] theorem dep_tup (x : List D) : (D.tup x).dep = D.depAll x + 1 := id rfl
@[simp] theorem depAll_nil : D.depAll [] = 0 := id rfl
@[simp] theorem depAll_cons (d : D) (x : List D) : D.depAll (d :: x) = max d.dep (D.depAll x) := id rfl
theorem fit_iff (d : D) : d.fit = true ↔ d.ok = true ∧ d.dep ≤ 60 := by unfold D.fit; simp
theorem okAll_iff (ds : List D) : D.okAll ds = true ↔ ∀ d ∈ ds, d.ok = true := by
  induction ds with
  | nil => simp
  | cons d ds ih => simp [ih]
theorem depAll_le (ds : List D) (n : Nat) : D.depAll ds ≤ n ↔ ∀ d ∈ ds, d.dep ≤ n := by
  induction ds with
  | nil => simp
  | cons d ds ih => simp [Nat.max_le, ih]
theorem fit_lst {ds : List D} (h : ∀ d ∈ ds, d.ok = true ∧ d.dep ≤ 59) : (D.lst ds).fit = true := by
  rw [fit_iff]
  refine ⟨by rw [ok_lst, okAll_iff]; exact fun d hd => (h d hd).1, ?_⟩
  rw [dep_lst]
  have := (depAll_le ds 59).mpr fun d hd => (h d hd).2
  omega
theorem fit_tup {ds : List D} (h : ∀ d ∈ ds, d.ok = true ∧ d.dep ≤ 59) : (D.tup ds).fit = true := by
  rw [fit_iff]
  refine ⟨by rw [ok_tup, okAll_iff]; exact fun d hd => (h d hd).1, ?_⟩
  rw [dep_tup]
  have := (depAll_le ds 59).mpr fun d hd => (h d hd).2
  omega
mutual
theorem eqv_refl : ∀ d : D, d.ok = true → D.eqv d d = true
  | .non, _ => rfl
  | .bl b, _ => by show (b == b) = true; simp
  | .int i, _ => by show (i == i) = true; simp
  | .str x, _ => by show (mk x == mk x) = true; simp
  | .tup ds, h => eqvAll_refl ds h
  | .lst ds, h => eqvAll_refl ds h
  | .dk _, h => by cases h
  | .dt _, h => by cases h
  | .obj _, h => by cases h
  | .clo _ _, h => by cases h
  | .exn _ _ _ _, h => by cases h
  | .ft _, h => by cases h
theorem eqvAll_refl : ∀ ds : List D, D.okAll ds = true → PyData.eqvAll (D.pdAll ds) (D.pdAll ds) = true
  | [], _ => rfl
  | d :: ds, h => by
    have h' : (D.ok d && D.okAll ds) = true := h
    rw [Bool.and_eq_true] at h'
    have a := eqv_refl d h'.1
    have b := eqvAll_refl ds h'.2
    show (PyData.eqv d.pd d.pd && PyData.eqvAll (D.pdAll ds) (D.pdAll ds)) = true
    rw [b, show PyData.eqv d.pd d.pd = true from a]; rfl
end
theorem eqv_str (x y : List Nat) : D.eqv (.str x) (.str y) = (x == y) := mk_beq x y
theorem eqv_int (x y : Int) : D.eqv (.int x) (.int y) = (x == y) := rfl
theorem eqv_nil (l : List D) : D.eqv (.lst l) (.lst []) = l.isEmpty := by
  cases l <;> rfl
theorem oEq_of {a b : D} (ha : a.fit = true) (hb : b.fit = true) : oEq a b = some (.fr (.bl (a.eqv b))) := by unfold oEq; rw [if_pos ⟨ha, hb⟩]
theorem oNe_of {a b : D} (ha : a.fit = true) (hb : b.fit = true) : oNe a b = some (.fr (.bl (!a.eqv b))) := by unfold oNe; rw [if_pos ⟨ha, hb⟩]
theorem oEq_self {a : D} (ha : a.fit = true) : oEq a a = some (.fr (.bl true)) := by
  rw [oEq_of ha ha, eqv_refl a (fit_ok ha)]
theorem oNe_self {a : D} (ha : a.fit = true) : oNe a a = some (.fr (.bl false)) := by
  rw [oNe_of ha ha, eqv_refl a (fit_ok ha)]; rfl
@[simp] theorem oEq_int (i j : Int) : oEq (.int i) (.int j) = some (.fr (.bl (i == j))) := id rfl
@[simp] theorem oNe_int (i j : Int) : oNe (.int i) (.int j) = some (.fr (.bl (!(i == j)))) := id rfl
@[simp] theorem oEq_bl (i j : Bool) : oEq (.bl i) (.bl j) = some (.fr (.bl (i == j))) := id rfl
@[simp] theorem oNe_bl (i j : Bool) : oNe (.bl i) (.bl j) = some (.fr (.bl (!(i == j)))) := id rfl
theorem oEq_str {x y : List Nat} (hx : chs x = true) (hy : chs y = true) : oEq (.str x) (.str y) = some (.fr (.bl (x == y))) := by
  rw [oEq_of (by simpa using hx) (by simpa using hy), eqv_str]
theorem oNe_str {x y : List Nat} (hx : chs x = true) (hy : chs y = true) : oNe (.str x) (.str y) = some (.fr (.bl (!(x == y)))) := by
  rw [oNe_of (by simpa using hx) (by simpa using hy), eqv_str]
/-! comprehensions, loops -/
theorem lcGo_filter {G : Type} {gf : D → DSt → Option DSt} {ft : DSt → G → Out G Bool} {fe : DSt → G → Out G SV} {sd : DSt} {g : G} (t : D → Bool) (v : D → D) : ∀ (ds : List D),
    (∀ d ∈ ds, ∃ sd', gf d sd = some sd' ∧ ft sd' g = .ok (t d) g ∧ (t d = true → ∃ x, fe sd' g = .ok x g ∧ x.keep = some (v d))) → lcGo gf ft fe sd ds g = .ok ((ds.filter t).map v) g
  | [], _ => rfl
  | d :: ds, h => by
    obtain ⟨sd', h1, h2, h3⟩ := h d List.mem_cons_self
    have ih := lcGo_filter t v ds fun e he => h e (List.mem_cons_of_mem _ he)
    unfold lcGo
    rw [h1]
    dsimp only
    rw [h2]
    simp only [noEr, bind_ok]
    cases e : t d with
    | true =>
      obtain ⟨x, h4, h5⟩ := h3 e
      rw [if_pos rfl, e_toD, h4, bind_ok, h5]
      simp [e, ih]
    | false =>
      rw [if_neg (by simp), ih, List.filter_cons]
      simp [e]
theorem filter_true {α : Type} (l : List α) : l.filter (fun _ => true) = l := by simp
theorem lcGo_map {G : Type} {gf : D → DSt → Option DSt} {fe : DSt → G → Out G SV} {sd : DSt} {g : G} (v : D → D) (ds : List D)
    (h : ∀ d ∈ ds, ∃ sd', gf d sd = some sd' ∧ ∃ x, fe sd' g = .ok x g ∧ x.keep = some (v d)) : lcGo gf gYes fe sd ds g = .ok (ds.map v) g := by
  rw [lcGo_filter (fun _ => true) v ds fun d hd => by
    obtain ⟨sd', h1, h2⟩ := h d hd
    exact ⟨sd', h1, rfl, fun _ => h2⟩, filter_true]
/-- a loop by an invariant -/
theorem forGo_inv {G : Type} {gf : D → DSt → Option DSt} {body : DSt → G → OutS G} (P : List D → DSt → G → Prop) : ∀ (ds : List D) (sd : DSt) (g : G), P ds sd g →
    (∀ d r sd g, (∃ l, ds = l ++ d :: r) → P (d :: r) sd g → ∃ sd', gf d sd = some sd' ∧ ∃ sd2 g2, (body sd' g = .nx sd2 g2 ∨ body sd' g = .ct sd2 g2) ∧ P r sd2 g2) → ∃ sd' g', forGo gf body ds sd g = .nx sd' g' ∧ P [] sd' g'
  | [], sd, g, h, _ => ⟨sd, g, rfl, h⟩
  | d :: r, sd, g, h, step => by
    obtain ⟨sd', h1, sd2, g2, h2, h3⟩ := step d r sd g ⟨[], rfl⟩ h
    obtain ⟨sd3, g3, h4, h5⟩ := forGo_inv P r sd2 g2 h3 fun d' r' sd g ⟨l, e⟩ hp => step d' r' sd g ⟨d :: l, by rw [e]; rfl⟩ hp
    refine ⟨sd3, g3, ?_, h5⟩
    unfold forGo
    rw [h1]
    dsimp only
    rcases h2 with h2 | h2
    · rw [h2]; exact h4
    · rw [h2]; exact h4
/-- a loop as a fold: enc tells the slots by a state -/
theorem forGo_fold {G β : Type} {gf : D → DSt → Option DSt} {body : DSt → G → OutS G} {g : G} (enc : β → DSt) (step : β → D → β) : ∀ (ds : List D) (a : β),
    (∀ d a, d ∈ ds → ∃ sd', gf d (enc a) = some sd' ∧ body sd' g = .nx (enc (step a d)) g) → forGo gf body ds (enc a) g = .nx (enc (ds.foldl step a)) g
  | [], a, _ => rfl
  | d :: r, a, h => by
    obtain ⟨sd', h1, h2⟩ := h d a List.mem_cons_self
    unfold forGo
    rw [h1]
    dsimp only
    rw [h2]
    exact forGo_fold enc step r (step a d) fun d' a' hd => h d' a' (List.mem_cons_of_mem _ hd)
end DL
namespace HW
open PySem PySem.Spec PyProof.Rows L2 DL PM
theorem chs_okt {x : List Nat} (h : okt x = true) : chs x = true := by
  unfold okt at h
  unfold chs
  rw [List.all_eq_true] at *
  exact fun c hc => decide_eq_true (okc_lt (h c hc))
theorem signs_fit {x : List Nat} (h : chs x = true) {d : D} (hd : d ∈ DL.signs x) : ∃ c, d = .str [c] ∧ c ∈ x ∧ c < 1114112 := by
  obtain ⟨c, hc, rfl⟩ := List.mem_map.mp hd
  unfold chs at h
  rw [List.all_eq_true] at h
  exact ⟨c, rfl, hc, of_decide_eq_true (h c hc)⟩
theorem chs_one {c : Nat} (h : c < 1114112) : chs [c] = true := by simp [chs, h]
theorem one_lt (a b : Nat) : decide ([a] < [b]) = decide (a < b) := by
  rw [decide_eq_decide]
  simp [List.cons_lt_cons_iff]
theorem okAll_signs {x : List Nat} (h : chs x = true) {l : List D} (hl : ∀ d ∈ l, d ∈ DL.signs x) : (D.lst l).fit = true := fit_lst fun d hd => by
  obtain ⟨c, rfl, _, hc⟩ := signs_fit h (hl d hd)
  exact ⟨by simp [chs_one hc], by simp⟩
theorem is_text_eq (x : List Nat) (most : Int) (hx : chs x = true) (hl : x.length ≤ 16777216) : run_is_text [.str x, .int most] () = .ok (.fr (.bl (decide ((x.length : Int) ≤ most) && okt x))) () := by
  unfold run_is_text f_is_text
  simp [isT, hl]
  by_cases h : (x.length : Int) ≤ most
  · have h' : ¬ (most < (x.length : Int)) := by omega
    simp [h, h']
    have hs : (DL.signs x).length ≤ 16777216 := by rw [DL.signs, List.length_map]; exact hl
    rw [if_pos hs]
    rw [lcGo_filter (fun d => match d with | .str [c] => !okc c | _ => false) id (DL.signs x) fun d hd => ?_]
    · simp
      rw [oEq_of (okAll_signs hx fun d hd => (List.mem_filter.mp hd).1) fit_nil, eqv_nil]
      simp
      unfold okt DL.signs
      rw [Bool.eq_iff_iff]
      simp
    · obtain ⟨c, rfl, hc, hlt⟩ := signs_fit hx hd
      refine ⟨_, rfl, ?_, fun _ => ⟨_, rfl, rfl⟩⟩
      simp
      rw [oNe_str (chs_one hlt) (by decide), one_lt, one_lt]
      unfold okc
      by_cases h1 : c = 10
      · simp [h1]
      · by_cases h2 : c < 32
        · have h3 : ¬ 32 ≤ c := by omega
          simp [h1, h2, h3]
        · have h3 : 32 ≤ c := by omega
          by_cases h4 : 126 < c
          · have h5 : ¬ c ≤ 126 := by omega
            simp [h1, h2, h3, h4, h5]
          · have h5 : c ≤ 126 := by omega
            simp [h1, h2, h3, h4, h5]
  · have h' : most < (x.length : Int) := by omega
    simp [h, h']
theorem is_text_ok {x : List Nat} {most : Int} (hx : okt x = true) (hl : (x.length : Int) ≤ most) (hm : most ≤ 16777216) : run_is_text [.str x, .int most] () = .ok (.fr (.bl true)) () := by
  rw [is_text_eq x most (chs_okt hx) (by omega)]
  simp [hx, hl]
/-! places -/
def plD (x : List Nat) (n : Nat) : D := .tup [.int ((pos (x.take n)).1 : Nat), .int ((pos (x.take n)).2 : Nat)]
theorem atI_nat {α : Type} {xs : List α} {n : Nat} {a : α} (h : xs[n]? = some a) : L2.atI xs (n : Int) = some a := by
  have hn : n < xs.length := (List.getElem?_eq_some_iff.mp h).1
  unfold L2.atI
  have e : ixN xs.length (n : Int) = some n := by
    unfold ixN
    rw [if_pos (by omega), if_pos (by omega)]
    rfl
  rw [e]
  exact h
theorem rows_len (x : List Nat) : (spl1 10 x).length ≤ x.length + 1 := by
  induction x with
  | nil => simp [spl1]
  | cons c t ih =>
    by_cases hc : c = 10
    · subst hc; rw [spl1_hit]; simp; exact ih
    · rw [spl1_miss hc]
      cases e : spl1 10 t with
      | nil => exact absurd e (spl1_ne 10 t)
      | cons p ps => rw [e] at ih; simp at ih ⊢; omega
theorem row_len {x row : List Nat} (h : row ∈ spl1 10 x) : row.length ≤ x.length := by
  induction x generalizing row with
  | nil => simp [spl1] at h; rw [h]; simp
  | cons c t ih =>
    by_cases hc : c = 10
    · subst hc; rw [spl1_hit] at h
      rcases List.mem_cons.mp h with h | h
      · rw [h]; simp
      · have := ih h; simp; omega
    · rw [spl1_miss hc] at h
      cases e : spl1 10 t with
      | nil => exact absurd e (spl1_ne 10 t)
      | cons p ps =>
        rw [e] at h ih
        rcases List.mem_cons.mp h with h | h
        · rw [h]; have := ih List.mem_cons_self; simp; omega
        · have := ih (List.mem_cons_of_mem _ h); simp; omega
theorem rows_at {x : List Nat} {r : Nat} {row : List Nat} (h : (spl1 10 x)[r]? = some row) : L2.atI ((spl1 10 x).map D.str) (r : Int) = some (.str row) := atI_nat (by rw [List.getElem?_map, h]; rfl)
theorem is_place_ok {x : List Nat} {n : Nat} (hl : x.length ≤ 10000) (hn : n ≤ x.length) : run_is_place [.str x, plD x n] () = .ok (.fr (.bl true)) () := by
  obtain ⟨row, h1, h2, h3⟩ := pos_num x n hn
  have h4 := row_len (List.mem_of_getElem? h1)
  have h5 : (pos (x.take n)).1 < (spl1 10 x).length := (List.getElem?_eq_some_iff.mp h1).1
  unfold run_is_place f_is_place plD
  have hx : x.length + 2 ≤ 16777216 := by omega
  have a0 : L2.atI [D.int ((pos (x.take n)).1 : Nat), D.int ((pos (x.take n)).2 : Nat)] 0 = some (D.int ((pos (x.take n)).1 : Nat)) := rfl
  have a1 : L2.atI [D.int ((pos (x.take n)).1 : Nat), D.int ((pos (x.take n)).2 : Nat)] 1 = some (D.int ((pos (x.take n)).2 : Nat)) := rfl
  have hr : row.length ≤ 16777216 := by omega
  simp [isT, hx, a0, a1, is_number_int, rows_at h1, hr, h2]
  have h6 : ((pos (x.take n)).1 : Int) ≤ ((spl1 10 x).length : Int) - 1 := by omega
  simp [h6]
end HW
namespace DL
open PySem PySem.Spec PyProof.Rows L2
theorem cut_take {α : Type} (xs : List α) (n : Nat) : cutL xs none (some (n : Int)) = xs.take n := by
  unfold cutL
  rw [HT.sIx_none, HT.sIx_nat, List.drop_zero, Nat.sub_zero]
  by_cases h : n ≤ xs.length
  · rw [Nat.min_eq_left h]
  · rw [Nat.min_eq_right (by omega), List.take_of_length_le (Nat.le_refl _), List.take_of_length_le (by omega)]
theorem cut_drop {α : Type} (xs : List α) (n : Nat) : cutL xs (some (n : Int)) none = xs.drop n := by
  unfold cutL
  rw [HT.sIx_none, HT.sIx_nat]
  by_cases h : n ≤ xs.length
  · rw [Nat.min_eq_left h, List.take_of_length_le]
    rw [List.length_drop]
    exact Nat.le_refl _
  · rw [Nat.min_eq_right (by omega), Nat.sub_self, List.take_zero, List.drop_eq_nil_of_le (by omega)]
theorem cut_mid {α : Type} (xs : List α) (s e : Nat) (h : e ≤ xs.length) : cutL xs (some (s : Int)) (some (e : Int)) = (xs.take e).drop s := by
  unfold cutL
  rw [HT.sIx_nat, HT.sIx_nat, Nat.min_eq_left h, List.drop_take]
  by_cases h2 : s ≤ xs.length
  · rw [Nat.min_eq_left h2]
  · rw [Nat.min_eq_right (by omega), List.drop_eq_nil_of_le (Nat.le_refl _), List.drop_eq_nil_of_le (by omega)]
    simp
@[simp] theorem atI_0 {α : Type} (a : α) (l : List α) : L2.atI (a :: l) 0 = some a := HW.atI_nat (n := 0) rfl
@[simp] theorem atI_1 {α : Type} (a b : α) (l : List α) : L2.atI (a :: b :: l) 1 = some b := HW.atI_nat (n := 1) rfl
@[simp] theorem atI_2 {α : Type} (a b c : α) (l : List α) : L2.atI (a :: b :: c :: l) 2 = some c := HW.atI_nat (n := 2) rfl
theorem allInt_map2 {α : Type} (f : α → Int) (l : List α) : allInt (l.map fun x => D.int (f x)) = some (l.map f) := by
  have := allInt_map (l.map f)
  rw [List.map_map] at this
  exact this
theorem atI_last {α : Type} {xs : List α} {a : α} (h : xs.getLast? = some a) : L2.atI xs (-1) = some a := by
  have hn : xs ≠ [] := fun z => by rw [z] at h; cases h
  have hl : 0 < xs.length := List.length_pos_iff.mpr hn
  unfold L2.atI
  have e : ixN xs.length (-1) = some (xs.length - 1) := by
    unfold ixN
    rw [if_neg (by omega), if_pos (by omega)]
    congr 1
    omega
  rw [e]
  rw [List.getLast?_eq_getElem?] at h
  exact h
end DL
namespace HW
open PySem PySem.Spec PyProof.Rows L2 DL PM
theorem sum_rows (rows : List (List Nat)) (r c : Nat) : (((rows.take r).map fun l => (l.length : Int) + 1)).sum + (c : Int) = (num rows r c : Nat) := by
  unfold num
  have : ∀ l : List (List Nat), ((l.map fun l => (l.length : Int) + 1)).sum = (((l.map fun l => l.length + 1)).sum : Nat) := fun l => by
    induction l with
    | nil => rfl
    | cons a l ih => simp only [List.map_cons, List.sum_cons, ih]; omega
  rw [this]
  omega
theorem number_at_ok {x : List Nat} {n : Nat} (hl : x.length ≤ 10000) (hn : n ≤ x.length) : run_number_at [.str x, plD x n] () = .ok (.fr (.int (n : Int))) () := by
  obtain ⟨row, h1, h2, h3⟩ := pos_num x n hn
  unfold run_number_at f_number_at plD
  have hx : x.length + 2 ≤ 16777216 := by omega
  have hr := rows_len x
  simp [hx, cut_take]
  rw [if_pos (by show _ ≤ 16777216; omega)]
  rw [lcGo_map (fun d => match d with | .str l => .int ((l.length : Int) + 1) | _ => .non) _ fun d hd => ?_]
  · simp [← List.map_take]
    have e : (List.map ((fun d => match d with | D.str l => D.int ((l.length : Int) + 1) | _ => D.non) ∘ D.str) (List.take (pos (List.take n x)).fst (spl1 10 x))) = (List.take (pos (List.take n x)).fst (spl1 10 x)).map fun l => D.int ((l.length : Int) + 1) := rfl
    rw [e, allInt_map2]
    simp
    rw [← List.map_take, sum_rows, h3]
  · have hd := List.mem_of_mem_take hd
    obtain ⟨l, hl', rfl⟩ := List.mem_map.mp hd
    have := row_len hl'
    refine ⟨_, rfl, .fr (.int ((l.length : Int) + 1)), ?_, rfl⟩
    have h9 : l.length ≤ 16777216 := by omega
    simp [h9]
theorem place_at_eq {x : List Nat} {n : Nat} (hl : x.length ≤ 10000) (hn : n ≤ x.length) : run_place_at [.str x, .int (n : Int)] () = .ok (.fr (plD x n)) () := by
  obtain ⟨h1, row, h2, h3⟩ := pos_rows (x.take n)
  unfold run_place_at f_place_at plD
  have hx : x.length ≤ 16777216 := by omega
  have ht : (x.take n).length + 2 ≤ 16777216 := by rw [List.length_take]; omega
  have ht2 : min n x.length + 2 ≤ 16777216 := by omega
  have e : L2.atI ((spl1 10 (x.take n)).map D.str) (-1) = some (.str row) := atI_last (by
    rw [List.getLast?_eq_getElem?, List.length_map, h1, Nat.add_sub_cancel, List.getElem?_map, h2]; rfl)
  have hr : row.length ≤ 16777216 := by
    have := row_len (List.mem_of_getElem? h2)
    rw [List.length_take] at this
    omega
  have hr' : (pos (x.take n)).2 ≤ 16777216 := by omega
  simp [hx, cut_take, ht2, e, hr', h3, h1]
end HW
namespace HW
open PySem PySem.Spec PyProof.Rows L2 DL PM
/-- an edit by its numbers -/
structure Ed where
  s : Nat
  e : Nat
  put : List Nat
def aft (x : List Nat) (E : Ed) : List Nat := x.take E.s ++ E.put ++ x.drop E.e
structure OkE (x : List Nat) (E : Ed) : Prop where
  se : E.s ≤ E.e
  ex : E.e ≤ x.length
  pt : okt E.put = true
  pl : E.put.length ≤ 40
  ml : x.length - E.e + E.s + E.put.length ≤ 200
theorem OkE.len {x : List Nat} {E : Ed} (h : OkE x E) : (aft x E).length = E.s + E.put.length + (x.length - E.e) := by
  unfold aft
  have := h.se
  have := h.ex
  rw [List.length_append, List.length_append, List.length_take, List.length_drop, Nat.min_eq_left (by omega)]
theorem OkE.le {x : List Nat} {E : Ed} (h : OkE x E) : (aft x E).length ≤ 200 := by
  rw [h.len]
  have := h.ml
  omega
theorem OkE.okt {x : List Nat} {E : Ed} (h : OkE x E) (hx : okt x = true) : PM.okt (aft x E) = true := by
  unfold aft
  rw [okt_app, okt_app, okt_take _ hx, okt_drop _ hx, h.pt]
  rfl
def edD (x : List Nat) (E : Ed) : D := .tup [plD x E.s, plD x E.e, .str E.put]
def spnD (E : Ed) : D := .tup [.int (E.s : Int), .int (E.e : Int), .str E.put]
theorem span_ok {x : List Nat} {E : Ed} (hx : x.length ≤ 200) (h : OkE x E) : run_span [.str x, edD x E] () = .ok (.fr (spnD E)) () := by
  have h1 := h.se
  have h2 := h.ex
  have h4 := h.pl
  have h5 := h.ml
  have t1 := is_text_ok (most := 40) h.pt (by omega) (by omega)
  have p1 := is_place_ok (x := x) (n := E.s) (by omega) (by omega)
  have p2 := is_place_ok (x := x) (n := E.e) (by omega) (by omega)
  have n1 := number_at_ok (x := x) (n := E.s) (by omega) (by omega)
  have n2 := number_at_ok (x := x) (n := E.e) (by omega) (by omega)
  have l1 : x.length ≤ 16777216 := by omega
  have l2 : E.put.length ≤ 16777216 := by omega
  have c1 : ¬ ((E.e : Int) < (E.s : Int)) := by omega
  have c2 : ¬ ((200 : Int) < (x.length : Int) - (E.e : Int) + (E.s : Int) + (E.put.length : Int)) := by omega
  unfold run_span f_span edD spnD
  simp [isT, t1, p1, p2, n1, n2, l1, l2, c1, c2, frz]
/-- edits one behind another -/
def edsD : List Nat → List Ed → List D
  | _, [] => []
  | x, E :: Es => edD x E :: edsD (aft x E) Es
def behind : List Nat → List Ed → List Nat
  | x, [] => x
  | x, E :: Es => behind (aft x E) Es
def OkEs : List Nat → List Ed → Prop
  | _, [] => True
  | x, E :: Es => OkE x E ∧ OkEs (aft x E) Es
theorem edsD_len : ∀ (Es : List Ed) (x : List Nat), (edsD x Es).length = Es.length
  | [], _ => rfl
  | E :: Es, x => by
    show (edsD (aft x E) Es).length + 1 = Es.length + 1
    rw [edsD_len Es]
theorem behind_le : ∀ (Es : List Ed) (x : List Nat), x.length ≤ 200 → OkEs x Es → (behind x Es).length ≤ 200
  | [], _, h, _ => h
  | E :: Es, x, _, h => behind_le Es _ h.1.le h.2
theorem behind_okt : ∀ (Es : List Ed) (x : List Nat), okt x = true → OkEs x Es → okt (behind x Es) = true
  | [], _, h, _ => h
  | E :: Es, x, hx, h => behind_okt Es _ (h.1.okt hx) h.2
theorem spans_ok {x : List Nat} {Es : List Ed} (hx : x.length ≤ 200) (h : OkEs x Es) (hl : Es.length ≤ 8) : run_spans [.str x, .lst (edsD x Es)] () = .ok (.fr (.tup [.lst (Es.map spnD), .str (behind x Es)])) () := by
  unfold run_spans f_spans
  simp
  obtain ⟨sd', g', h1, x2, k, Es2, fnd, h2, hr, hf, hb, _⟩ := forGo_inv (gf := gTp (gCo (gNm 3) (gCo (gNm 4) gNo)))
    (body := sSeq (sSet 5 (fFn (up0 run_span) [fVar 0, fVar 4])) (sSeq (sIf (gOr (asB (fUn uIsN (toB (fVar 5)))) (asB (fOp oGe (toB (fVar 3)) (toB (fC (.int 8)))))) (sBad) (sNx)) (sSeq (sFrz 5 (sApp 2 (fVar 5))) (sSet 0 (fOp oAdd (toB (fOp oAdd (toB (fSlice (fVar 0) (fNo) (fSo (fOp oIx (toB (fVar 5)) (toB (fC (.int 0))))))) (toB (fOp oIx (toB (fVar 5)) (toB (fC (.int 2))))))) (toB (fSlice (fVar 0) (fSo (fOp oIx (toB (fVar 5)) (toB (fC (.int 1))))) (fNo))))))))
    (fun r sd (g : Unit) => ∃ (x2 : List Nat) (k : Nat) (Es2 : List Ed) (fnd : List Ed), (∃ a b c, sd = [some (.fr (.str x2)), some (.fr (.lst (edsD x Es))), some (.ow (.lst (fnd.map spnD))), a, b, c]) ∧ r = enumF k (edsD x2 Es2) ∧ fnd ++ Es2 = Es ∧ behind x2 Es2 = behind x Es ∧ OkEs x2 Es2 ∧ x2.length ≤ 200 ∧ k = fnd.length)
    (enumF 0 (edsD x Es)) [some (.fr (.str x)), some (.fr (.lst (edsD x Es))), some (.ow (.lst [])), none, none, none] ()
    ⟨x, 0, Es, [], ⟨none, none, none, rfl⟩, rfl, rfl, rfl, h, hx, rfl⟩ (by
      rintro d r sd g _ ⟨x2, k, Es2, fnd, ⟨a, b, c, rfl⟩, hr, hf, hb, hok, hl2, rfl⟩
      cases Es2 with
      | nil => cases hr
      | cons E Es2 =>
        cases hr
        have hs := span_ok hl2 hok.1
        have hlen : Es.length = fnd.length + (Es2.length + 1) := by rw [← hf]; simp
        have h5 := hok.1.le
        have h6 := hok.1.len
        have h7 := hok.1.se
        have h8 := hok.1.ex
        have h9 := hok.1.pl
        refine ⟨_, rfl, [some (.fr (.str (aft x2 E))), some (.fr (.lst (edsD x Es))), some (.ow (.lst ((fnd ++ [E]).map spnD))), some (.fr (.int fnd.length)), some (.fr (edD x2 E)), some (.fr (spnD E))], (), .inl ?_, aft x2 E, fnd.length + 1, Es2, fnd ++ [E], ⟨_, _, _, rfl⟩, rfl, by rw [List.append_assoc]; exact hf, hb, hok.2, h5, by simp⟩
        have c0 : ¬ ((8 : Int) ≤ (fnd.length : Int)) := by omega
        have l0 : fnd.length < 16777216 := by omega
        have l1 : x2.length ≤ 16777216 := by omega
        have l2 : (x2.take E.s).length + E.put.length ≤ 16777216 := by rw [List.length_take]; omega
        have l2' : min E.s x2.length + E.put.length ≤ 16777216 := by omega
        have l3 : min E.s x2.length + E.put.length + (x2.length - E.e) ≤ 16777216 := by omega
        have sp : spnD E = .tup [.int (E.s : Int), .int (E.e : Int), .str E.put] := rfl
        simp [hs, sp, c0, frz, ownL, l0, l1, l2', l3, cut_take, cut_drop]
        unfold aft
        rw [List.append_assoc])
  obtain ⟨a, b, c, rfl⟩ := h2
  cases Es2 with
  | cons E Es2 => cases hr
  | nil =>
    rw [List.append_nil] at hf
    subst hf
    have hb : x2 = behind x fnd := hb
    subst hb
    rw [h1]
    simp [frz]
end HW
namespace PM
/-- how many signs are alike ahead -/
def lcp : List Nat → List Nat → Nat
  | a :: x, b :: y => if a = b then lcp x y + 1 else 0
  | _, _ => 0
theorem lcp_le : ∀ x y : List Nat, lcp x y ≤ x.length ∧ lcp x y ≤ y.length
  | [], _ => by simp [lcp]
  | _ :: _, [] => by simp [lcp]
  | a :: x, b :: y => by
    have := lcp_le x y
    unfold lcp
    split
    · simp; omega
    · simp
theorem lcp_take : ∀ (x y : List Nat) (k : Nat), k ≤ x.length → k ≤ y.length → (x.take k = y.take k ↔ k ≤ lcp x y)
  | _, _, 0, _, _ => by simp
  | [], _, k + 1, h, _ => by simp at h
  | _ :: _, [], k + 1, _, h => by simp at h
  | a :: x, b :: y, k + 1, h1, h2 => by
    have ih := lcp_take x y k (by simpa using h1) (by simpa using h2)
    unfold lcp
    by_cases h : a = b
    · subst h
      rw [if_pos rfl]
      simp [ih]
    · rw [if_neg h]
      simp [h]
theorem lcp_drop_lt {x y : List Nat} {k : Nat} {a b : Nat} (h1 : x[k]? = some a) (h2 : y[k]? = some b) : lcp (x.drop k) (y.drop k) = if a = b then lcp (x.drop (k + 1)) (y.drop (k + 1)) + 1 else 0 := by
  have e1 : x.drop k = a :: x.drop (k + 1) := by
    have hk := (List.getElem?_eq_some_iff.mp h1).1
    rw [List.drop_eq_getElem_cons hk]
    rw [List.getElem?_eq_getElem hk] at h1
    cases h1; rfl
  have e2 : y.drop k = b :: y.drop (k + 1) := by
    have hk := (List.getElem?_eq_some_iff.mp h2).1
    rw [List.drop_eq_getElem_cons hk]
    rw [List.getElem?_eq_getElem hk] at h2
    cases h2; rfl
  rw [e1, e2]
  rfl
theorem filter_range (L : Nat) : ∀ m : Nat, L < m → (List.range m).filter (fun k => decide (k ≤ L)) = List.range (L + 1)
  | 0, h => by omega
  | m + 1, h => by
    rw [List.range_succ, List.filter_append]
    by_cases e : L = m
    · subst e
      rw [List.filter_eq_self.mpr (fun k hk => by rw [List.mem_range] at hk; simp; omega)]
      rw [List.range_succ]
      simp
    · rw [filter_range L m (by omega)]
      have : ¬ m ≤ L := by omega
      simp [this]
end PM
namespace DL
theorem maxL_range (L : Nat) : maxL ((List.range (L + 1)).map fun (k : Nat) => (k : Int)) = some (L : Int) := by
  rw [List.range_succ_eq_map, List.map_cons]
  show some (List.foldl max ((0 : Nat) : Int) _) = _
  congr 1
  obtain ⟨h1, h2, h3⟩ := maxL_spec ((List.range L).map fun (k : Nat) => ((k.succ : Nat) : Int)) ((0 : Nat) : Int)
  rw [List.map_map]
  have e : ((fun (k : Nat) => (k : Int)) ∘ Nat.succ) = fun (k : Nat) => ((k.succ : Nat) : Int) := rfl
  rw [e]
  generalize List.foldl max ((0 : Nat) : Int) ((List.range L).map fun (k : Nat) => ((k.succ : Nat) : Int)) = v at h1 h2 h3
  have u : v ≤ L := by
    rcases h1 with h1 | h1
    · omega
    · obtain ⟨k, hk, e⟩ := List.mem_map.mp h1
      rw [List.mem_range] at hk
      omega
  have l : (L : Int) ≤ v := by
    cases L with
    | zero => exact h2
    | succ L => exact h3 _ (List.mem_map.mpr ⟨L, by simp, rfl⟩)
  omega
end DL
namespace HW
open PySem PySem.Spec PyProof.Rows L2 DL PM
theorem chs_lt {x : List Nat} (h : chs x = true) {k c : Nat} (e : x[k]? = some c) : c < 1114112 := by
  unfold chs at h
  rw [List.all_eq_true] at h
  exact of_decide_eq_true (h c (List.mem_of_getElem? e))
theorem alike_go {x y : List Nat} (hx : chs x = true) (hy : chs y = true) (l1 : x.length ≤ 10000) (l2 : y.length ≤ 10000) : ∀ (n k : Nat), k ≤ x.length → k ≤ y.length → lcp (x.drop k) (y.drop k) < n →
    whGo (gAnd (asB (fOp oLt (toB (fVar 2)) (toB (fCall cMin [fCall cLen [fVar 0], fCall cLen [fVar 1]])))) (asB (fOp oEq (toB (fOp oIx (toB (fVar 0)) (toB (fVar 2)))) (toB (fOp oIx (toB (fVar 1)) (toB (fVar 2))))))) (sSet 2 (fOp oAdd (toB (fVar 2)) (toB (fC (.int 1))))) n
      [some (.fr (.str x)), some (.fr (.str y)), some (.fr (.int (k : Int)))] () = .nx [some (.fr (.str x)), some (.fr (.str y)), some (.fr (.int ((k + lcp (x.drop k) (y.drop k) : Nat) : Int)))] ()
  | 0, _, _, _, h => by omega
  | n + 1, k, h1, h2, h3 => by
    have a1 : x.length ≤ 16777216 := by omega
    have a2 : y.length ≤ 16777216 := by omega
    unfold whGo
    by_cases hk : k < x.length ∧ k < y.length
    · have e1 := List.getElem?_eq_getElem hk.1
      have e2 := List.getElem?_eq_getElem hk.2
      have b1 := atI_nat e1
      have b2 := atI_nat e2
      have d := lcp_drop_lt e1 e2
      rw [d]
      rw [d] at h3
      have c1 := chs_lt hx e1
      have c2 := chs_lt hy e2
      generalize x[k] = a at *
      generalize y[k] = b at *
      have m1 : (k : Int) < minI (x.length : Int) (y.length : Int) := by
        rw [minI_nat]; omega
      have q := oEq_str (chs_one c1) (chs_one c2)
      by_cases hab : a = b
      · subst hab
        simp [a1, a2, m1, b1, b2, q]
        rw [if_pos rfl] at h3
        have ih := alike_go hx hy l1 l2 n (k + 1) (by omega) (by omega) (by omega)
        have ek : ((k : Int) + 1) = ((k + 1 : Nat) : Int) := by omega
        rw [ek, ih]
        have e9 : k + 1 + lcp (x.drop (k + 1)) (y.drop (k + 1)) = k + (lcp (x.drop (k + 1)) (y.drop (k + 1)) + 1) := by omega
        rw [e9]
        simp
      · simp [a1, a2, m1, b1, b2, q, hab]
    · have m1 : ¬ ((k : Int) < minI (x.length : Int) (y.length : Int)) := by
        rw [minI_nat]; omega
      have z : lcp (x.drop k) (y.drop k) = 0 := by
        have := lcp_le (x.drop k) (y.drop k)
        rw [List.length_drop, List.length_drop] at this
        omega
      rw [z]
      simp [a1, a2, m1]
theorem alike_eq {x y : List Nat} (hx : chs x = true) (hy : chs y = true) (l1 : x.length ≤ 200) (l2 : y.length ≤ 10000) : run_alike_ahead [.str x, .str y] () = .ok (.fr (.int (lcp x y : Int))) () := by
  unfold run_alike_ahead f_alike_ahead
  have := alike_go hx hy (by omega) l2 1000 0 (by omega) (by omega) (by
    have := lcp_le (x.drop 0) (y.drop 0)
    rw [List.length_drop] at this
    omega)
  simp [sWhile]
  have this : whGo _ _ 1000 _ _ = _ := this
  rw [List.drop_zero, List.drop_zero] at this
  have e : (((0 : Nat) : Int)) = 0 := rfl
  rw [e] at this
  rw [this]
  simp
/-- what together tells -/
def togE (x y : List Nat) : Nat × Nat := (lcp x y, lcp (x.drop (lcp x y)).reverse (y.drop (lcp x y)).reverse)
def togD (x y : List Nat) : D := if x = y then .non else .tup [plD x (togE x y).1, plD x (x.length - (togE x y).2), .str ((y.take (y.length - (togE x y).2)).drop (togE x y).1)]
theorem chs_drop {x : List Nat} (n : Nat) (h : chs x = true) : chs (x.drop n) = true := by
  unfold chs at *
  rw [List.all_eq_true] at *
  exact fun c hc => h c (List.mem_of_mem_drop hc)
theorem chs_take {x : List Nat} (n : Nat) (h : chs x = true) : chs (x.take n) = true := by
  unfold chs at *
  rw [List.all_eq_true] at *
  exact fun c hc => h c (List.mem_of_mem_take hc)
theorem chs_rev {x : List Nat} (h : chs x = true) : chs x.reverse = true := by
  unfold chs at *
  rw [List.all_reverse]
  exact h
theorem togE_le (x y : List Nat) : (togE x y).1 + (togE x y).2 ≤ x.length ∧ (togE x y).1 + (togE x y).2 ≤ y.length := by
  unfold togE
  have h1 := lcp_le x y
  have h2 := lcp_le (x.drop (lcp x y)).reverse (y.drop (lcp x y)).reverse
  rw [List.length_reverse, List.length_reverse, List.length_drop, List.length_drop] at h2
  dsimp only
  omega
theorem together_eq {x : List Nat} {Es : List Ed} (hx : x.length ≤ 200) (ht : okt x = true) (h : OkEs x Es) (hl : Es.length ≤ 8) : run_together [.str x, .lst (edsD x Es)] () = .ok (.fr (togD x (behind x Es))) () := by
  have n1 := need_sheet_ok (.str x) (is_text_ok ht (by omega) (by omega))
  have s1 := spans_ok hx h hl
  have ly := behind_le Es x hx h
  have ty := behind_okt Es x ht h
  generalize behind x Es = y at *
  have cx := chs_okt ht
  have cy := chs_okt ty
  unfold run_together f_together togD
  by_cases e : x = y
  · subst e
    have q := oEq_str cx cx
    simp [n1, s1, q]
  · have q := oEq_str cy cx
    have a1 := alike_eq cx cy hx (by omega)
    have e' : ¬ y = x := fun z => e z.symm
    have tl := togE_le x y
    have a2 : run_alike_ahead [.str (x.drop (togE x y).1).reverse, .str (y.drop (togE x y).1).reverse] () = .ok (.fr (.int ((togE x y).2 : Int))) () :=
      alike_eq (chs_rev (chs_drop _ cx)) (chs_rev (chs_drop _ cy)) (by rw [List.length_reverse, List.length_drop]; omega) (by rw [List.length_reverse, List.length_drop]; omega)
    have a1 : run_alike_ahead [.str x, .str y] () = .ok (.fr (.int ((togE x y).1 : Int))) () := a1
    generalize (togE x y).1 = a at *
    generalize (togE x y).2 = b at *
    have p1 := place_at_eq (x := x) (n := a) (by omega) (by omega)
    have p2 := place_at_eq (x := x) (n := x.length - b) (by omega) (by omega)
    have i1 : (x.length : Int) - (b : Int) = ((x.length - b : Nat) : Int) := by omega
    have i2 : (y.length : Int) - (b : Int) = ((y.length - b : Nat) : Int) := by omega
    have l1 : x.length ≤ 16777216 := by omega
    have l2 : y.length ≤ 16777216 := by omega
    have l3 : x.length - a ≤ 16777216 := by omega
    have l4 : y.length - a ≤ 16777216 := by omega
    have cm := cut_mid y a (y.length - b) (by omega)
    simp [n1, s1, q, e, e', frz, a1, a2, l1, l2, l3, l4, cut_drop, i1, i2, p1, p2, cm]
end HW
namespace HW
open PySem PySem.Spec PyProof.Rows L2 DL PM
/-! back -/
def invE (x : List Nat) (E : Ed) : Ed := ⟨E.s, E.s + E.put.length, (x.take E.e).drop E.s⟩
def invD : List Nat → List Ed → List D
  | _, [] => []
  | x, E :: Es => edD (aft x E) (invE x E) :: invD (aft x E) Es
theorem invD_len : ∀ (Es : List Ed) (x : List Nat), (invD x Es).length = Es.length
  | [], _ => rfl
  | E :: Es, x => by
    show (invD (aft x E) Es).length + 1 = Es.length + 1
    rw [invD_len Es]
theorem back_eq {x : List Nat} {Es : List Ed} (hx : x.length ≤ 200) (ht : okt x = true) (h : OkEs x Es) (hl : Es.length ≤ 8) : run_back [.str x, .lst (edsD x Es)] () = .ok (.ow (.lst (invD x Es).reverse)) () := by
  have n1 := need_sheet_ok (.str x) (is_text_ok ht (by omega) (by omega))
  have s1 := spans_ok hx h hl
  unfold run_back f_back
  simp [n1, s1]
  obtain ⟨sd', g', h1, x2, Es2, fnd, ⟨a, b, c, d, rfl⟩, hr, hf, _⟩ := forGo_inv (gf := gTp (gCo (gNm 3) (gCo (gNm 4) (gCo (gNm 5) gNo))))
    (body := sSeq (sSet 6 (fOp oAdd (toB (fOp oAdd (toB (fSlice (fVar 0) (fNo) (fSo (fVar 3)))) (toB (fVar 5)))) (toB (fSlice (fVar 0) (fSo (fVar 4)) (fNo))))) (sSeq (sFrz 6 (sApp 2 (fTup [fFn (up0 run_place_at) [fVar 6, fVar 3], fFn (up0 run_place_at) [fVar 6, fOp oAdd (toB (fVar 3)) (toB (fCall cLen [fVar 5]))], fSlice (fVar 0) (fSo (fVar 3)) (fSo (fVar 4))]))) (sFrz 6 (sSet 0 (fVar 6)))))
    (fun r sd (g : Unit) => ∃ (x2 : List Nat) (Es2 : List Ed) (fnd : List D), (∃ a b c d, sd = [some (.fr (.str x2)), some (.fr (.lst (edsD x Es))), some (.ow (.lst fnd)), a, b, c, d]) ∧ r = Es2.map spnD ∧ fnd ++ invD x2 Es2 = invD x Es ∧ OkEs x2 Es2 ∧ x2.length ≤ 200)
    (Es.map spnD) [some (.fr (.str x)), some (.fr (.lst (edsD x Es))), some (.ow (.lst [])), none, none, none, none] ()
    ⟨x, Es, [], ⟨none, none, none, none, rfl⟩, rfl, rfl, h, hx⟩ (by
      rintro d r sd g _ ⟨x2, Es2, fnd, ⟨a, b, c, d0, rfl⟩, hr, hf, hok, hl2⟩
      cases Es2 with
      | nil => cases hr
      | cons E Es2 =>
        cases hr
        have hlen : Es.length = fnd.length + (Es2.length + 1) := by
          have := congrArg List.length hf
          rw [List.length_append, invD_len, invD_len] at this
          exact this.symm
        have h5 := hok.1.le
        have h6 := hok.1.len
        have h7 := hok.1.se
        have h8 := hok.1.ex
        have h9 := hok.1.pl
        refine ⟨_, rfl, [some (.fr (.str (aft x2 E))), some (.fr (.lst (edsD x Es))), some (.ow (.lst (fnd ++ [edD (aft x2 E) (invE x2 E)]))), some (.fr (.int E.s)), some (.fr (.int E.e)), some (.fr (.str E.put)), some (.fr (.str (aft x2 E)))], (), .inl ?_, aft x2 E, Es2, _, ⟨_, _, _, _, rfl⟩, rfl, by rw [List.append_assoc]; exact hf, hok.2, h5⟩
        have l0 : fnd.length < 16777216 := by omega
        have l1 : x2.length ≤ 16777216 := by omega
        have l2' : min E.s x2.length + E.put.length ≤ 16777216 := by omega
        have l3 : min E.s x2.length + E.put.length + (x2.length - E.e) ≤ 16777216 := by omega
        have l4 : E.put.length ≤ 16777216 := by omega
        have ea : List.take E.s x2 ++ (E.put ++ List.drop E.e x2) = aft x2 E := by unfold aft; rw [List.append_assoc]
        have p1 := place_at_eq (x := aft x2 E) (n := E.s) (by omega) (by omega)
        have p2 : run_place_at [.str (aft x2 E), .int ((E.s : Int) + (E.put.length : Int))] () = .ok (.fr (plD (aft x2 E) (E.s + E.put.length))) () := by
          have := place_at_eq (x := aft x2 E) (n := E.s + E.put.length) (by omega) (by omega)
          rwa [Int.natCast_add] at this
        have cm := cut_mid x2 E.s E.e h8
        simp [frz, ownL, l0, l1, l2', l3, l4, cut_take, cut_drop, ea, p1, p2, cm]
        rfl)
  cases Es2 with
  | cons E Es2 => cases hr
  | nil =>
    have hf : fnd ++ [] = invD x Es := hf
    rw [List.append_nil] at hf
    subst hf
    rw [h1]
    simp [frz]
/-! the law's own: at, numbers, after -/
theorem law_at_eq {x : List Nat} {n : Nat} (hc : chs x = true) (hl : x.length ≤ 10000) (hn : n ≤ x.length) : run__law_at [.str x, .int (n : Int)] () = .ok (.fr (plD x n)) () := by
  have l1 : x.length ≤ 16777216 := by omega
  unfold run__law_at f__law_at
  simp [l1, cut_take]
  obtain ⟨sd', g', h1, l, rest, ⟨a, rfl⟩, hr, hf⟩ := forGo_inv (gf := gNm 4)
    (body := sAsg (gTp (gCo (gNm 2) (gCo (gNm 3) (gNo)))) (fOp oIx (toB (fLst [fTup [fVar 2, fOp oAdd (toB (fVar 3)) (toB (fC (.int 1)))], fTup [fOp oAdd (toB (fVar 2)) (toB (fC (.int 1))), fC (.int 0)]])) (toB (fCall cInt [fOp oEq (toB (fVar 4)) (toB (fC (.str [10])))]))))
    (fun r sd (g : Unit) => ∃ (l rest : List Nat), (∃ a, sd = [some (.fr (.str x)), some (.fr (.int (n : Int))), some (.fr (.int ((pos l).1 : Nat))), some (.fr (.int ((pos l).2 : Nat))), a]) ∧ r = DL.signs rest ∧ l ++ rest = x.take n)
    (DL.signs (x.take n)) [some (.fr (.str x)), some (.fr (.int (n : Int))), some (.fr (.int 0)), some (.fr (.int 0)), none] ()
    ⟨[], x.take n, ⟨none, rfl⟩, rfl, rfl⟩ (by
      rintro d r sd g _ ⟨l, rest, ⟨a, rfl⟩, hr, hf⟩
      cases rest with
      | nil => cases hr
      | cons c rest =>
        cases hr
        have hcc : c < 1114112 := by
          have h1 := chs_take n hc
          rw [← hf] at h1
          unfold chs at h1
          rw [List.all_eq_true] at h1
          exact of_decide_eq_true (h1 c (by simp))
        have q := oEq_str (chs_one hcc) (show chs [10] = true by decide)
        refine ⟨_, rfl, [some (.fr (.str x)), some (.fr (.int (n : Int))), some (.fr (.int ((pos (l ++ [c])).1 : Nat))), some (.fr (.int ((pos (l ++ [c])).2 : Nat))), some (.fr (.str [c]))], (), .inl ?_, l ++ [c], rest, ⟨_, rfl⟩, rfl, by rw [List.append_assoc]; exact hf⟩
        rw [pos_snoc]
        by_cases h10 : c = 10
        · subst h10
          simp [q]
        · simp [q, h10])
  cases rest with
  | cons c rest => cases hr
  | nil =>
    rw [List.append_nil] at hf
    subst hf
    rw [h1]
    simp [plD]
def numsK (x : List Nat) (k : Nat) : List (List Key × D) := (List.range (k + 1)).map fun j => ([.inl ((pos (x.take j)).1 : Nat), .inl ((pos (x.take j)).2 : Nat)], .int (j : Int))
theorem nums_any {x : List Nat} {k n : Nat} (hk : k < n) (hn : n ≤ x.length) : ((numsK x k).any fun kv => decide (kv.1 = [.inl ((pos (x.take n)).1 : Nat), .inl ((pos (x.take n)).2 : Nat)])) = false := by
  rw [Bool.eq_false_iff]
  intro h
  rw [List.any_eq_true] at h
  obtain ⟨kv, hm, he⟩ := h
  obtain ⟨j, hj, rfl⟩ := List.mem_map.mp hm
  rw [List.mem_range] at hj
  have he := of_decide_eq_true he
  simp only [List.cons.injEq, Sum.inl.injEq, and_true] at he
  have e : pos (x.take j) = pos (x.take n) := Prod.ext (by omega) (by omega)
  have := pos_inj (by omega) hn e
  omega
theorem nums_val {x : List Nat} {n : Nat} (hn : n ≤ x.length) : valD (numsK x x.length) [.inl ((pos (x.take n)).1 : Nat), .inl ((pos (x.take n)).2 : Nat)] = some (.int (n : Int)) := by
  unfold valD numsK
  rw [List.find?_map]
  have e : (List.range (x.length + 1)).find? ((fun kv : List Key × D => decide (kv.1 = [.inl ((pos (x.take n)).1 : Nat), .inl ((pos (x.take n)).2 : Nat)])) ∘ fun j => ([.inl ((pos (x.take j)).1 : Nat), .inl ((pos (x.take j)).2 : Nat)], D.int (j : Int))) = some n := by
    rw [List.find?_range_eq_some]
    refine ⟨by simp, by rw [List.mem_range]; omega, fun j hj => ?_⟩
    simp only [Function.comp, Bool.not_eq_true', decide_eq_false_iff_not]
    intro he
    simp only [List.cons.injEq, Sum.inl.injEq, and_true] at he
    have e : pos (x.take j) = pos (x.take n) := Prod.ext (by omega) (by omega)
    have := pos_inj (by omega) hn e
    omega
  rw [e]
  rfl
theorem law_numbers_eq {x : List Nat} (hc : chs x = true) (hl : x.length ≤ 10000) : run__law_numbers [.str x] () = .ok (.ow (.dt (numsK x x.length))) () := by
  unfold run__law_numbers f__law_numbers
  simp [asKeys, asKey]
  obtain ⟨sd', g', h1, l, rest, ⟨a, b, rfl⟩, hr, hf⟩ := forGo_inv (gf := gTp (gCo (gNm 4) (gCo (gNm 5) (gNo))))
    (body := sSeq (sAsg (gTp (gCo (gNm 2) (gCo (gNm 3) (gNo)))) (fOp oIx (toB (fLst [fTup [fVar 2, fOp oAdd (toB (fVar 3)) (toB (fC (.int 1)))], fTup [fOp oAdd (toB (fVar 2)) (toB (fC (.int 1))), fC (.int 0)]])) (toB (fCall cInt [fOp oEq (toB (fVar 5)) (toB (fC (.str [10])))])))) (sDPutF 1 (fTup [fVar 2, fVar 3]) (fOp oAdd (toB (fVar 4)) (toB (fC (.int 1))))))
    (fun r sd (g : Unit) => ∃ (l rest : List Nat), (∃ a b, sd = [some (.fr (.str x)), some (.ow (.dt (numsK x l.length))), some (.fr (.int ((pos l).1 : Nat))), some (.fr (.int ((pos l).2 : Nat))), a, b]) ∧ r = enumF l.length (DL.signs rest) ∧ l ++ rest = x)
    (enumF 0 (DL.signs x)) [some (.fr (.str x)), some (.ow (.dt [([.inl 0, .inl 0], .int 0)])), some (.fr (.int 0)), some (.fr (.int 0)), none, none] ()
    ⟨[], x, ⟨none, none, rfl⟩, rfl, rfl⟩ (by
      rintro d r sd g _ ⟨l, rest, ⟨a, b, rfl⟩, hr, hf⟩
      cases rest with
      | nil => cases hr
      | cons c rest =>
        cases hr
        have hcc : c < 1114112 := by
          have h1 := hc
          rw [← hf] at h1
          unfold chs at h1
          rw [List.all_eq_true] at h1
          exact of_decide_eq_true (h1 c (by simp))
        have q := oEq_str (chs_one hcc) (show chs [10] = true by decide)
        have hlen : l.length + 1 ≤ x.length := by rw [← hf]; simp
        have tk : x.take (l.length + 1) = l ++ [c] := by
          rw [← hf, List.take_append, List.take_of_length_le (by omega)]
          simp
        refine ⟨_, rfl, [some (.fr (.str x)), some (.ow (.dt (numsK x (l ++ [c]).length))), some (.fr (.int ((pos (l ++ [c])).1 : Nat))), some (.fr (.int ((pos (l ++ [c])).2 : Nat))), some (.fr (.int l.length)), some (.fr (.str [c]))], (), .inl ?_, l ++ [c], rest, ⟨_, _, rfl⟩, by simp; rfl, by rw [List.append_assoc]; exact hf⟩
        have na := nums_any (x := x) (k := l.length) (n := l.length + 1) (by omega) hlen
        have nx : numsK x (l.length + 1) = numsK x l.length ++ [([.inl ((pos (x.take (l.length + 1))).1 : Nat), .inl ((pos (x.take (l.length + 1))).2 : Nat)], .int ((l.length + 1 : Nat) : Int))] := by
          unfold numsK
          rw [List.range_succ, List.map_append]
          rfl
        have ll : (numsK x l.length).length < 16777216 := by
          unfold numsK
          rw [List.length_map, List.length_range]
          omega
        have le : (l ++ [c]).length = l.length + 1 := by simp
        rw [le, nx]
        rw [tk] at na ⊢
        rw [pos_snoc] at na ⊢
        by_cases h10 : c = 10
        · subst h10
          simp at na
          simp [q, ownD, putO, asKeys, asKey, ll, putD]
          exact fun d hd => absurd rfl (na _ _ hd)
        · simp [h10] at na
          simp [q, h10, ownD, putO, asKeys, asKey, ll, putD]
          exact fun d hd => absurd rfl (na _ _ hd))
  cases rest with
  | cons c rest => cases hr
  | nil =>
    rw [List.append_nil] at hf
    subst hf
    rw [h1]
    simp
theorem nums_get {x : List Nat} {n : Nat} (hn : n ≤ x.length) : DL.getD (.dt (numsK x x.length)) (plD x n) = some (some (.int (n : Int))) := by
  unfold plD DL.getD
  simp [asKeys, asKey]
  exact nums_val hn
theorem law_after_eq' {x : List Nat} {E : Ed} (hc : chs x = true) (hl : x.length ≤ 10000) (h1 : E.s ≤ E.e) (h2 : E.e ≤ x.length) (h4 : E.put.length ≤ 10000) : run__law_after [.str x, edD x E] () = .ok (.fr (.str (aft x E))) () := by
  have n1 := law_numbers_eq hc hl
  have g1 := nums_get (x := x) (n := E.s) (by omega)
  have g2 := nums_get (x := x) (n := E.e) (by omega)
  have l1 : x.length ≤ 16777216 := by omega
  have l2' : min E.s x.length + E.put.length ≤ 16777216 := by omega
  have l3 : min E.s x.length + E.put.length + (x.length - E.e) ≤ 16777216 := by omega
  have ea : List.take E.s x ++ (E.put ++ List.drop E.e x) = aft x E := by unfold aft; rw [List.append_assoc]
  unfold run__law_after f__law_after edD
  simp [n1, g1, g2, l1, l2', l3, cut_take, cut_drop, ea]
theorem law_after_eq {x : List Nat} {E : Ed} (hc : chs x = true) (hl : x.length ≤ 10000) (h : OkE x E) : run__law_after [.str x, edD x E] () = .ok (.fr (.str (aft x E))) () :=
  law_after_eq' hc hl h.se h.ex (by have := h.pl; omega)
theorem rng_filter {x y : List Nat} (m : Nat) (t : D → Bool) (L : Nat) (hL : L < m) (h : ∀ k, k < m → t (.int (k : Int)) = decide (k ≤ L)) : (rng 0 m).filter t = (List.range (L + 1)).map fun (k : Nat) => D.int (k : Int) := by
  unfold rng
  rw [List.filter_map, ← filter_range L m hL]
  have e : (List.range m).filter (t ∘ fun (i : Nat) => D.int (0 + (i : Int))) = (List.range m).filter fun k => decide (k ≤ L) := by
    apply List.filter_congr
    intro k hk
    rw [List.mem_range] at hk
    simp only [Function.comp, Int.zero_add]
    exact h k hk
  rw [e]
  apply List.map_congr_left
  intro k _
  simp
theorem run_step {G : Type} {f k : DSt → G → OutS G} {sd sd' : DSt} {g g' : G} {r : Out G SV} (h : f sd g = .nx sd' g') (h2 : (k sd' g').out = r) : (sSeq f k sd g).out = r := by
  rw [e_seq, h]
  exact h2
theorem take_rev {x : List Nat} {a k : Nat} (ha : a ≤ x.length) (h : k ≤ x.length - a) : (x.drop a).reverse.take k = (x.drop (x.length - k)).reverse := by
  rw [List.take_reverse, List.length_drop, List.drop_drop]
  congr 2
  omega
theorem rev_inj {x y : List Nat} : x.reverse = y.reverse ↔ x = y := List.reverse_inj
theorem law_together_eq {x y : List Nat} (hx : okt x = true) (hy : okt y = true) (l1 : x.length ≤ 200) (l2 : y.length ≤ 200) : run__law_together [.str x, .str y] () = .ok (.fr (togD x y)) () := by
  have cx := chs_okt hx
  have cy := chs_okt hy
  unfold run__law_together f__law_together togD
  by_cases e : x = y
  · subst e
    have q := oEq_str cx cx
    simp [q]
  · have q := oEq_str cx cy
    have tl := togE_le x y
    have b1 : x.length ≤ 16777216 := by omega
    have b2 : y.length ≤ 16777216 := by omega
    have mn := minI_nat x.length y.length
    have mx : min x.length y.length ≤ x.length := Nat.min_le_left _ _
    have my : min x.length y.length ≤ y.length := Nat.min_le_right _ _
    have mz : ∀ k, k ≤ x.length → k ≤ y.length → k ≤ min x.length y.length := fun k h1 h2 => Nat.le_min.mpr ⟨h1, h2⟩
    have la : ∀ k, k ≤ x.length → k ≤ y.length → (x.take k = y.take k ↔ k ≤ (togE x y).1) := fun k => lcp_take x y k
    have lb : ∀ k, k ≤ x.length - (togE x y).1 → k ≤ y.length - (togE x y).1 → (x.drop (x.length - k) = y.drop (y.length - k) ↔ k ≤ (togE x y).2) := fun k h1 h2 => by
      have := lcp_take (x.drop (togE x y).1).reverse (y.drop (togE x y).1).reverse k (by rw [List.length_reverse, List.length_drop]; exact h1) (by rw [List.length_reverse, List.length_drop]; exact h2)
      rw [take_rev (by omega) h1, take_rev (by omega) h2, rev_inj] at this
      exact this
    rw [if_neg e]
    generalize (togE x y).1 = A at *
    generalize (togE x y).2 = B at *
    have hA := mz A (by omega) (by omega)
    have hAB := mz (A + B) tl.1 tl.2
    generalize min x.length y.length = m at *
    clear mz
    show (sSeq _ _ [some (.fr (.str x)), some (.fr (.str y)), none, none, none, none] ()).out = _
    refine run_step (sd' := [some (.fr (.str x)), some (.fr (.str y)), none, none, none, none]) (g' := ()) (by simp [q, e]) ?_
    refine run_step (sd' := [some (.fr (.str x)), some (.fr (.str y)), some (.fr (.int (A : Int))), none, none, none]) (g' := ()) ?_ ?_
    · have r0 := rgB1 (j := (m : Int) + 1) (by omega)
      have e3 : ((m : Int) + 1).toNat = m + 1 := by omega
      rw [e3] at r0
      have r2 : (rng 0 (m + 1)).length ≤ 16777216 := by rw [rng_len]; omega
      simp [b1, b2, mn, r0]
      rw [if_pos r2]
      rw [lcGo_filter (fun d => match d with | .int k => decide (k.toNat ≤ A) | _ => false) id _ fun d hd => ?_]
      · rw [rng_filter (x := x) (y := y) _ _ A (by omega) fun k hk => rfl]
        simp
        have := allInt_map2 (fun (k : Nat) => (k : Int)) (List.range (A + 1))
        rw [this]
        simp [maxL_range]
      · obtain ⟨k, hk, rfl⟩ := List.mem_map.mp hd
        rw [List.mem_range] at hk
        refine ⟨_, rfl, ?_, fun _ => ⟨_, rfl, rfl⟩⟩
        have q2 := oEq_str (chs_take k cx) (chs_take k cy)
        have l3 := la k (by omega) (by omega)
        simp [b1, b2, cut_take, q2]
        rw [Bool.eq_iff_iff]
        simp [l3]
    refine run_step (sd' := [some (.fr (.str x)), some (.fr (.str y)), some (.fr (.int (A : Int))), none, some (.fr (.int ((m : Int) - A : Int))), none]) (g' := ()) (by simp [b1, b2, mn]) ?_
    refine run_step (sd' := [some (.fr (.str x)), some (.fr (.str y)), some (.fr (.int (A : Int))), none, some (.fr (.int ((m : Int) - A : Int))), some (.fr (.int (B : Int)))]) (g' := ()) ?_ ?_
    · have r0 := rgB1 (j := (m : Int) - A + 1) (by omega)
      have e3 : ((m : Int) - A + 1).toNat = m - A + 1 := by omega
      rw [e3] at r0
      have r2 : (rng 0 (m - A + 1)).length ≤ 16777216 := by rw [rng_len]; omega
      simp [r0]
      rw [if_pos r2]
      rw [lcGo_filter (fun d => match d with | .int k => decide (k.toNat ≤ B) | _ => false) id _ fun d hd => ?_]
      · rw [rng_filter (x := x) (y := y) _ _ B (by omega) fun k hk => rfl]
        simp
        have := allInt_map2 (fun (k : Nat) => (k : Int)) (List.range (B + 1))
        rw [this]
        simp [maxL_range]
      · obtain ⟨k, hk, rfl⟩ := List.mem_map.mp hd
        rw [List.mem_range] at hk
        refine ⟨_, rfl, ?_, fun _ => ⟨_, rfl, rfl⟩⟩
        have q2 := oEq_str (chs_drop (x.length - k) cx) (chs_drop (y.length - k) cy)
        have l3 := lb k (by omega) (by omega)
        have i1 : (x.length : Int) - (k : Int) = ((x.length - k : Nat) : Int) := by omega
        have i2 : (y.length : Int) - (k : Int) = ((y.length - k : Nat) : Int) := by omega
        simp [b1, b2, i1, i2, cut_drop, q2]
        rw [Bool.eq_iff_iff]
        simp [l3]
    have p1 := law_at_eq (x := x) (n := A) cx (by omega) (by omega)
    have p2 := law_at_eq (x := x) (n := x.length - B) cx (by omega) (by omega)
    have i1 : (x.length : Int) - (B : Int) = ((x.length - B : Nat) : Int) := by omega
    have i2 : (y.length : Int) - (B : Int) = ((y.length - B : Nat) : Int) := by omega
    have cm := cut_mid y A (y.length - B) (by omega)
    simp [frz, b1, b2, i1, i2, p1, p2, cm]
end HW
namespace HW
open PySem PySem.Spec PyProof.Rows L2 DL PM
/-! drawn things -/
theorem draw_ex (p : Addr) (ns : List Int) (n : Nat) (g : Gs) (h0 : 0 < n) (h1 : n < 2 ^ 100) : ∃ (v : Nat) (g' : Gs), v < n ∧ drawR p ns [.obj (.ref p), .int (n : Int)] g = .ok (.fr (.int (v : Int))) g' := by
  have hr := draw_range (ns := ns) (n := (n : Int)) (g := g) (by omega)
  refine ⟨(draw ns n g).1.toNat, (draw ns n g).2, by omega, ?_⟩
  have e : (((draw ns n g).1.toNat : Nat) : Int) = (draw ns n g).1 := by omega
  rw [e]
  show (@ite _ _ _ _ _) = _
  rw [if_pos ⟨rfl, by omega, by omega⟩]
def every : List Nat := [32, 33, 34, 35, 36, 38, 39, 40, 41, 42, 43, 44, 45, 46, 47, 48, 49, 50, 51, 52, 53, 54, 55, 56, 57, 58, 59, 60, 61, 62, 63, 64, 65, 66, 67, 68, 69, 70, 71, 72, 73, 74, 75, 76, 77, 78, 79, 80, 81, 82, 83, 84, 85, 86, 87, 88, 89, 90, 91, 93, 94, 95, 96, 97, 98, 99, 100, 101, 102, 103, 104, 105, 106, 107, 108, 109, 110, 111, 112, 113, 114, 115, 116, 117, 118, 119, 120, 121, 122, 123, 124, 125, 126, 10]
theorem every_ok : ∀ c ∈ every, okc c = true := by decide
theorem four_ok : ∀ c ∈ [97, 98, 32, 10], okc c = true := by decide
theorem get_ex {α : Type} {l : List α} {v : Nat} (h : v < l.length) : ∃ c, l[v]? = some c ∧ c ∈ l := ⟨l[v], List.getElem?_eq_getElem h, List.getElem_mem h⟩
theorem law_sign_ex (p : Addr) (ns : List Int) (g : Gs) : ∃ (c : Nat) (g' : Gs), okc c = true ∧ run__law_sign p ns [.obj (.ref p)] g = .ok (.fr (.str [c])) g' := by
  obtain ⟨v1, g1, h1, e1⟩ := draw_ex p ns 4 g (by omega) (by decide)
  obtain ⟨v2, g2, h2, e2⟩ := draw_ex p ns 94 g1 (by omega) (by decide)
  obtain ⟨v3, g3, h3, e3⟩ := draw_ex p ns 4 g2 (by omega) (by decide)
  obtain ⟨c1, a1, b1⟩ := get_ex (l := [97, 98, 32, 10]) (v := v1) h1
  obtain ⟨c2, a2, b2⟩ := get_ex (l := every) (v := v2) h2
  have f1 := atI_nat a1
  have f2 := atI_nat a2
  have d := oDiv_int (i := (v3 : Int)) (j := 3) (by decide)
  have l1 : every.length = 94 := rfl
  unfold run__law_sign f__law_sign
  rw [show ([32, 33, 34, 35, 36, 38, 39, 40, 41, 42, 43, 44, 45, 46, 47, 48, 49, 50, 51, 52, 53, 54, 55, 56, 57, 58, 59, 60, 61, 62, 63, 64, 65, 66, 67, 68, 69, 70, 71, 72, 73, 74, 75, 76, 77, 78, 79, 80, 81, 82, 83, 84, 85, 86, 87, 88, 89, 90, 91, 93, 94, 95, 96, 97, 98, 99, 100, 101, 102, 103, 104, 105, 106, 107, 108, 109, 110, 111, 112, 113, 114, 115, 116, 117, 118, 119, 120, 121, 122, 123, 124, 125, 126, 10] : List Nat) = every from rfl]
  by_cases hv : v3 < 3
  · refine ⟨c1, g3, four_ok _ b1, ?_⟩
    have i0 : (v3 : Int) / 3 = 0 := by omega
    rw [i0] at d
    simp at e1 e2 e3
    simp [lim, l1, e1, e2, e3, f1, f2, d]
  · refine ⟨c2, g3, every_ok _ b2, ?_⟩
    have i0 : (v3 : Int) / 3 = 1 := by omega
    rw [i0] at d
    simp at e1 e2 e3
    simp [lim, l1, e1, e2, e3, f1, f2, d]
def words : List (List Nat) := [[97], [97, 98], [98], [97, 98, 97], [32], [10], [44], [97, 98, 99, 100, 101, 102, 103, 104], []]
theorem words_ok : ∀ w ∈ words, okt w = true ∧ w.length ≤ 8 := by decide
theorem law_put_ex (p : Addr) (ns : List Int) (m : Nat) (g : Gs) : ∃ (w : List Nat) (g' : Gs), okt w = true ∧ w.length ≤ m ∧ w.length ≤ 240 ∧ run__law_put p ns [.obj (.ref p), .int (m : Int)] g = .ok (.fr (.str w)) g' := by
  obtain ⟨v1, g1, h1, e1⟩ := draw_ex p ns 3 g (by omega) (by decide)
  obtain ⟨k, hk1, hk⟩ : ∃ k : Nat, L2.atI [D.int 3, D.int 8, D.int 30] (v1 : Int) = some (.int (k : Int)) ∧ 0 < k ∧ k ≤ 30 := by
    rcases (show v1 = 0 ∨ v1 = 1 ∨ v1 = 2 by omega) with rfl | rfl | rfl
    · exact ⟨3, rfl, by omega⟩
    · exact ⟨8, rfl, by omega⟩
    · exact ⟨30, rfl, by omega⟩
  obtain ⟨v2, g2, h2, e2⟩ := draw_ex p ns k g1 (by omega) (by omega)
  have r0 := rgB1 (j := (v2 : Int)) (by omega)
  have hw : [D.str [97], .str [97, 98], .str [98], .str [97, 98, 97], .str [32], .str [10], .str [44], .str [97, 98, 99, 100, 101, 102, 103, 104], .str []] = words.map D.str := rfl
  obtain ⟨sd', g', hl, acc, ⟨a, rfl⟩, ha, hb⟩ := forGo_inv (gf := gNm 4)
    (body := sSet 3 (fOp oAdd (toB (fVar 3)) (toB (fOp oIx (toB (fLst [fOp oIx (toB (fVar 2)) (toB (fFn (drawR p ns) [fVar 0, fC (.int 9)])), fFn (run__law_sign p ns) [fVar 0]])) (toB (fOp oDiv (toB (fFn (drawR p ns) [fVar 0, fC (.int 3)])) (toB (fC (.int 2)))))))))
    (fun r sd (_ : Gs) => ∃ acc : List Nat, (∃ a, sd = [some (.fr (.obj (.ref p))), some (.fr (.int (m : Int))), some (.ow (.lst (words.map D.str))), some (.fr (.str acc)), a]) ∧ okt acc = true ∧ acc.length + 8 * r.length ≤ 240)
    (rng 0 v2) [some (.fr (.obj (.ref p))), some (.fr (.int (m : Int))), some (.ow (.lst (words.map D.str))), some (.fr (.str [])), none] g2
    ⟨[], ⟨none, rfl⟩, rfl, by rw [rng_len]; simp; omega⟩ (by
      rintro d r sd g _ ⟨acc, ⟨a, rfl⟩, ha, hb⟩
      obtain ⟨u1, q1, j1, i1⟩ := draw_ex p ns 9 g (by omega) (by decide)
      obtain ⟨c, q2, hc, i2⟩ := law_sign_ex p ns q1
      obtain ⟨u3, q3, j3, i3⟩ := draw_ex p ns 3 q2 (by omega) (by decide)
      obtain ⟨w, a1, b1⟩ := get_ex (l := words) (v := u1) j1
      have f1 : L2.atI (words.map D.str) (u1 : Int) = some (.str w) := atI_nat (by rw [List.getElem?_map, a1]; rfl)
      have dd := oDiv_int (i := (u3 : Int)) (j := 2) (by decide)
      have ow := words_ok w b1
      rw [List.length_cons] at hb
      simp at i1 i3
      by_cases hu : u3 < 2
      · have i0 : (u3 : Int) / 2 = 0 := by omega
        rw [i0] at dd
        have hl : acc.length + w.length ≤ 16777216 := by omega
        refine ⟨_, rfl, [some (.fr (.obj (.ref p))), some (.fr (.int (m : Int))), some (.ow (.lst (words.map D.str))), some (.fr (.str (acc ++ w))), some (.fr d)], q3, .inl ?_, acc ++ w, ⟨_, rfl⟩, by rw [okt_app, ha, ow.1]; rfl, by rw [List.length_append]; omega⟩
        simp [lim, i1, i2, i3, f1, dd, hl]
      · have i0 : (u3 : Int) / 2 = 1 := by omega
        rw [i0] at dd
        have hl : acc.length + 1 ≤ 16777216 := by omega
        refine ⟨_, rfl, [some (.fr (.obj (.ref p))), some (.fr (.int (m : Int))), some (.ow (.lst (words.map D.str))), some (.fr (.str (acc ++ [c]))), some (.fr d)], q3, .inl ?_, acc ++ [c], ⟨_, rfl⟩, by rw [okt_app, ha]; simp [okt, hc], by rw [List.length_append]; simp; omega⟩
        simp [lim, i1, i2, i3, f1, dd, hl])
  refine ⟨acc.take m, g', okt_take m ha, by rw [List.length_take]; omega, by rw [List.length_take]; simp at hb; omega, ?_⟩
  have l1 : acc.length ≤ 16777216 := by simp at hb; omega
  unfold run__law_put f__law_put
  simp at e1
  simp [e1, hk1, e2, r0, hw, hl, l1, cut_take]
theorem rep_okt {w : List Nat} (h : okt w = true) : ∀ k : Nat, okt (List.replicate k w).flatten = true
  | 0 => rfl
  | k + 1 => by
    rw [List.replicate_succ, List.flatten_cons, okt_app, h, rep_okt h k]; rfl
theorem law_sheet_ex (p : Addr) (ns : List Int) (g : Gs) : ∃ (x : List Nat) (g' : Gs), okt x = true ∧ x.length ≤ 200 ∧ run__law_sheet p ns [.obj (.ref p)] g = .ok (.fr (.str x)) g' := by
  obtain ⟨w, g1, hw, hl, _, e1⟩ := law_put_ex p ns 60 g
  obtain ⟨v2, g2, h2, e2⟩ := draw_ex p ns 5 g1 (by omega) (by decide)
  obtain ⟨v3, g3, h3, e3⟩ := draw_ex p ns 2 g2 (by omega) (by decide)
  obtain ⟨k, hk, hk2⟩ : ∃ k : Nat, L2.atI [D.int 200, D.int 20] (v3 : Int) = some (.int (k : Int)) ∧ k ≤ 200 := by
    rcases (show v3 = 0 ∨ v3 = 1 by omega) with rfl | rfl
    · exact ⟨200, rfl, by omega⟩
    · exact ⟨20, rfl, by omega⟩
  refine ⟨((List.replicate (1 + v2) w).flatten).take k, g3, okt_take _ (rep_okt hw _), by rw [List.length_take]; omega, ?_⟩
  have t : (1 + (v2 : Int)).toNat = 1 + v2 := by omega
  have z : (0 : Int) ≤ 1 + (v2 : Int) := by omega
  have b1 : w.length * (1 + v2) ≤ 16777216 := by
    have : w.length * (1 + v2) ≤ 60 * 5 := Nat.mul_le_mul hl (by omega)
    omega
  have b2 : 1 + v2 ≤ 16777216 := by omega
  have b3 : ((List.replicate (1 + v2) w).flatten).length ≤ 16777216 := by
    rw [List.length_flatten, List.map_replicate, List.sum_replicate_nat]
    have := Nat.mul_comm w.length (1 + v2)
    omega
  unfold run__law_sheet f__law_sheet
  simp at e1 e2 e3
  simp [e1, e2, e3, t, z, b1, b2, hk, cut_take]
  have b3' : (1 + v2) * w.length ≤ 16777216 := by rw [Nat.mul_comm]; exact b1
  simp [b3']
end HW
namespace HW
open PySem PySem.Spec PyProof.Rows L2 DL PM
theorem sort2 (a b : Nat) : ∃ s e : Nat, s ≤ e ∧ (s = a ∨ s = b) ∧ (e = a ∨ e = b) ∧ ([(a : Int), (b : Int)].mergeSort fun a b => decide (a ≤ b)) = [(s : Int), (e : Int)] := by
  by_cases h : a ≤ b
  · exact ⟨a, b, h, .inl rfl, .inr rfl, (sort_eq (List.Perm.refl _) (by simp; omega)).symm⟩
  · exact ⟨b, a, by omega, .inr rfl, .inl rfl, (sort_eq (List.Perm.swap _ _ _) (by simp; omega)).symm⟩
theorem edit_tail (p : Addr) (ns : List Int) {x : List Nat} (hx : okt x = true) (hl : x.length ≤ 200) (g : Gs) (s e : Nat) (h1 : s ≤ e) (h2 : e ≤ x.length) : ∃ (E : Ed) (g' : Gs), OkE x E ∧
    ((sSeq (sSet 3 (fFn (run__law_put p ns) [fVar 0, fCall cMin [fC (.int 40), fOp oSub (toB (fOp oAdd (toB (fOp oSub (toB (fC (.int 200))) (toB (fCall cLen [fVar 1])))) (toB (fOp oIx (toB (fVar 2)) (toB (fC (.int 1))))))) (toB (fOp oIx (toB (fVar 2)) (toB (fC (.int 0)))))]])) (sFrz 3 (sRet (fTup [fFn (up0 run__law_at) [fVar 1, fOp oIx (toB (fVar 2)) (toB (fC (.int 0)))], fFn (up0 run__law_at) [fVar 1, fOp oIx (toB (fVar 2)) (toB (fC (.int 1)))], fVar 3]))))
      [some (.fr (.obj (.ref p))), some (.fr (.str x)), some (.ow (.lst [.int (s : Int), .int (e : Int)])), none] g).out = .ok (.fr (edD x E)) g' := by
  obtain ⟨w, g1, hw, hwl, _, e1⟩ := law_put_ex p ns (min 40 (200 - x.length + e - s)) g
  refine ⟨⟨s, e, w⟩, g1, ⟨h1, h2, hw, by show w.length ≤ 40; omega, ?_⟩, ?_⟩
  · show x.length - e + s + w.length ≤ 200
    omega
  · have b1 : x.length ≤ 16777216 := by omega
    have mi : minI 40 (200 - (x.length : Int) + (e : Int) - (s : Int)) = ((min 40 (200 - x.length + e - s) : Nat) : Int) := by
      rw [← minI_nat]
      congr 1
      omega
    have p1 := law_at_eq (x := x) (n := s) (chs_okt hx) (by omega) (by omega)
    have p2 := law_at_eq (x := x) (n := e) (chs_okt hx) (by omega) (by omega)
    generalize ((min 40 (200 - x.length + e - s) : Nat) : Int) = z at *
    simp [b1, mi, e1, frz, p1, p2, edD]
theorem law_edit_ex (p : Addr) (ns : List Int) {x : List Nat} (hx : okt x = true) (hl : x.length ≤ 200) (g : Gs) : ∃ (E : Ed) (g' : Gs), OkE x E ∧ run__law_edit p ns [.obj (.ref p), .str x] g = .ok (.fr (edD x E)) g' := by
  obtain ⟨v1, g1, h1, e1⟩ := draw_ex p ns (x.length + 1) g (by omega) (by omega)
  obtain ⟨v2, g2, h2, e2⟩ := draw_ex p ns (x.length + 1) g1 (by omega) (by omega)
  obtain ⟨s, e, hse, hs, he, hm⟩ := sort2 v1 v2
  obtain ⟨v3, g3, h3, e3⟩ := draw_ex p ns 3 g2 (by omega) (by decide)
  have b1 : x.length ≤ 16777216 := by omega
  rw [Int.natCast_add] at e1 e2
  simp at e1 e2 e3
  unfold run__law_edit f__law_edit
  by_cases c : 0 < v3
  · obtain ⟨v4, g4, h4, e4⟩ := draw_ex p ns 4 g3 (by omega) (by decide)
    have mi : minI (x.length : Int) ((s : Int) + (v4 : Int)) = ((min x.length (s + v4) : Nat) : Int) := by
      rw [← minI_nat, Int.natCast_add]
    obtain ⟨E, g', hE, hr⟩ := edit_tail p ns hx hl g4 s (min x.length (s + v4)) (by omega) (Nat.min_le_left _ _)
    refine ⟨E, g', hE, ?_⟩
    show (sSeq _ _ [some (.fr (.obj (.ref p))), some (.fr (.str x)), none, none] g).out = _
    refine run_step (sd' := [some (.fr (.obj (.ref p))), some (.fr (.str x)), some (.ow (.lst [.int (s : Int), .int (e : Int)])), none]) (g' := g2) ?_ ?_
    · simp [b1, e1, e2, allInt, hm]
    refine run_step (sd' := [some (.fr (.obj (.ref p))), some (.fr (.str x)), some (.ow (.lst [.int (s : Int), .int ((min x.length (s + v4) : Nat) : Int)])), none]) (g' := g4) ?_ hr
    simp at e4
    simp [b1, e3, c, e4, mi, ownL, putL, ixN]
  · obtain ⟨E, g', hE, hr⟩ := edit_tail p ns hx hl g3 s e hse (by omega)
    refine ⟨E, g', hE, ?_⟩
    show (sSeq _ _ [some (.fr (.obj (.ref p))), some (.fr (.str x)), none, none] g).out = _
    refine run_step (sd' := [some (.fr (.obj (.ref p))), some (.fr (.str x)), some (.ow (.lst [.int (s : Int), .int (e : Int)])), none]) (g' := g2) ?_ ?_
    · simp [b1, e1, e2, allInt, hm]
    refine run_step (sd' := [some (.fr (.obj (.ref p))), some (.fr (.str x)), some (.ow (.lst [.int (s : Int), .int (e : Int)])), none]) (g' := g3) ?_ hr
    simp [e3, c]
theorem edsD_snoc : ∀ (Es : List Ed) (x : List Nat) (E : Ed), edsD x (Es ++ [E]) = edsD x Es ++ [edD (behind x Es) E]
  | [], _, _ => rfl
  | F :: Es, x, E => by
    show edD x F :: edsD (aft x F) (Es ++ [E]) = _
    rw [edsD_snoc Es]; rfl
theorem behind_snoc : ∀ (Es : List Ed) (x : List Nat) (E : Ed), behind x (Es ++ [E]) = aft (behind x Es) E
  | [], _, _ => rfl
  | F :: Es, x, E => behind_snoc Es (aft x F) E
theorem OkEs_snoc : ∀ (Es : List Ed) (x : List Nat) (E : Ed), OkEs x Es → OkE (behind x Es) E → OkEs x (Es ++ [E])
  | [], _, _, _, h => ⟨h, True.intro⟩
  | F :: Es, x, E, h, h2 => ⟨h.1, OkEs_snoc Es (aft x F) E h.2 h2⟩
theorem law_edits_ex (p : Addr) (ns : List Int) {x : List Nat} (hx : okt x = true) (hl : x.length ≤ 200) (m : Nat) (hm : m ≤ 1000) (g : Gs) : ∃ (Es : List Ed) (g' : Gs), OkEs x Es ∧ Es.length ≤ m ∧
    run__law_edits p ns [.obj (.ref p), .str x, .int (m : Int)] g = .ok (.fr (.tup [.lst (edsD x Es), .str (behind x Es)])) g' := by
  obtain ⟨v, g1, hv, e1⟩ := draw_ex p ns (m + 1) g (by omega) (by omega)
  rw [Int.natCast_add] at e1
  have r0 := rgB1 (j := (v : Int)) (by omega)
  obtain ⟨sd', g', h1, Es, ⟨a, rfl⟩, hok, hlen⟩ := forGo_inv (gf := gNm 4) (body := sSeq (sApp 3 (fFn (run__law_edit p ns) [fVar 0, fVar 1])) (sSet 1 (fFn (up0 run__law_after) [fVar 1, fOp oIx (toB (fVar 3)) (toB (fUn uNeg (toB (fC (.int 1)))))])))
    (fun r sd (_ : Gs) => ∃ Es : List Ed, (∃ a, sd = [some (.fr (.obj (.ref p))), some (.fr (.str (behind x Es))), some (.fr (.int (m : Int))), some (.ow (.lst (edsD x Es))), a]) ∧ OkEs x Es ∧ Es.length + r.length = v)
    (rng 0 v) [some (.fr (.obj (.ref p))), some (.fr (.str x)), some (.fr (.int (m : Int))), some (.ow (.lst [])), none] g1
    ⟨[], ⟨none, rfl⟩, True.intro, by rw [rng_len]; simp⟩ (by
      rintro d r sd g _ ⟨Es, ⟨a, rfl⟩, hok, hlen⟩
      have bl := behind_le Es x hl hok
      have bt := behind_okt Es x hx hok
      obtain ⟨E, g2, hE, e2⟩ := law_edit_ex p ns bt bl g
      have e3 := law_after_eq (chs_okt bt) (by omega) hE
      rw [List.length_cons] at hlen
      have ll : (edsD x Es).length < 16777216 := by rw [edsD_len]; omega
      have la : L2.atI (edsD x Es ++ [edD (behind x Es) E]) (-1) = some (edD (behind x Es) E) := atI_last (by simp)
      refine ⟨_, rfl, [some (.fr (.obj (.ref p))), some (.fr (.str (behind x (Es ++ [E])))), some (.fr (.int (m : Int))), some (.ow (.lst (edsD x (Es ++ [E])))), some (.fr d)], g2, .inl ?_, Es ++ [E], ⟨_, rfl⟩, OkEs_snoc Es x E hok hE, by simp; omega⟩
      rw [behind_snoc, edsD_snoc]
      simp [ownL, e2, ll, la, e3])
  refine ⟨Es, g', hok, by simp at hlen; omega, ?_⟩
  unfold run__law_edits f__law_edits
  simp at e1
  simp [e1, r0, h1, frz]
end HW
namespace HW
open PySem PySem.Spec PyProof.Rows L2 DL PM
/-! the same, at any depth -/
def okS : Nat → D → Bool
  | _, .non => true
  | _, .bl _ => true
  | _, .int _ => true
  | _, .str x => chs x
  | 0, _ => false
  | n + 1, .tup ds => decide (ds.length ≤ 10000) && ds.all (okS n)
  | n + 1, .lst ds => decide (ds.length ≤ 10000) && ds.all (okS n)
  | _, _ => false
theorem atI_get {α : Type} {l : List α} {k : Nat} (h : k < l.length) : L2.atI l (k : Int) = some l[k] := atI_nat (List.getElem?_eq_getElem h)
theorem same_lc {n : Nat} {d : D} {ds : List D} (hd : d = .tup ds ∨ d = .lst ds) (ih : ∀ e ∈ ds, run__law_same n [e, e] () = .ok (.fr (.bl true)) ()) :
    lcGo (gNm 2) (gNot (asB (fFn (up0 (run__law_same n)) [fOp oIx (toB (fVar 0)) (toB (fVar 2)), fOp oIx (toB (fVar 1)) (toB (fVar 2))]))) (fVar 2) [some (.fr d), some (.fr d), none] (rng 0 ds.length) () = .ok [] () := by
  rw [lcGo_filter (fun _ => false) id _ fun e he => ?_]
  · simp
  · obtain ⟨k, hk, rfl⟩ := List.mem_map.mp he
    rw [List.mem_range] at hk
    refine ⟨_, rfl, ?_, fun z => nomatch z⟩
    have q := atI_get hk
    have i := ih _ (List.getElem_mem hk)
    rcases hd with rfl | rfl
    · simp [q, i]
    · simp [q, i]
theorem same_refl : ∀ (n : Nat) (d : D), okS n d = true → run__law_same (n + 1) [d, d] () = .ok (.fr (.bl true)) ()
  | n, .non, _ => by
    show runD 3 (f__law_same (run__law_same n)) _ () = _
    unfold f__law_same
    simp [isT, isTs, D.typ]
  | n, .bl b, _ => by
    show runD 3 (f__law_same (run__law_same n)) _ () = _
    unfold f__law_same
    simp [isT, isTs, D.typ]
  | n, .int i, _ => by
    show runD 3 (f__law_same (run__law_same n)) _ () = _
    unfold f__law_same
    simp [isT, isTs, D.typ]
  | n, .str x, h => by
    have h : chs x = true := by cases n <;> exact h
    have q := oEq_str h h
    show runD 3 (f__law_same (run__law_same n)) _ () = _
    unfold f__law_same
    simp [isT, isTs, D.typ, q]
  | 0, .tup ds, h => by cases h
  | 0, .lst ds, h => by cases h
  | n + 1, .tup ds, h => by
    have h : (decide (ds.length ≤ 10000) && ds.all (okS n)) = true := h
    rw [Bool.and_eq_true, List.all_eq_true, decide_eq_true_eq] at h
    have lc := same_lc (n := n + 1) (d := .tup ds) (.inl rfl) fun e he => same_refl n e (h.2 e he)
    have r0 := rgB1 (j := (ds.length : Int)) (by omega)
    have hr : (rng 0 ds.length).length ≤ 16777216 := by rw [rng_len]; omega
    show runD 3 (f__law_same (run__law_same (n + 1))) _ () = _
    unfold f__law_same
    have qn := oEq_self (a := .lst []) rfl
    simp [isT, isTs, D.typ, qn, r0, hr, lc]
  | n + 1, .lst ds, h => by
    have h : (decide (ds.length ≤ 10000) && ds.all (okS n)) = true := h
    rw [Bool.and_eq_true, List.all_eq_true, decide_eq_true_eq] at h
    have lc := same_lc (n := n + 1) (d := .lst ds) (.inr rfl) fun e he => same_refl n e (h.2 e he)
    have r0 := rgB1 (j := (ds.length : Int)) (by omega)
    have hr : (rng 0 ds.length).length ≤ 16777216 := by rw [rng_len]; omega
    show runD 3 (f__law_same (run__law_same (n + 1))) _ () = _
    unfold f__law_same
    have qn := oEq_self (a := .lst []) rfl
    simp [isT, isTs, D.typ, qn, r0, hr, lc]
  | 0, .dk _, h => by cases h
  | 0, .dt _, h => by cases h
  | 0, .obj _, h => by cases h
  | 0, .clo _ _, h => by cases h
  | 0, .exn _ _ _ _, h => by cases h
  | 0, .ft _, h => by cases h
  | n + 1, .dk _, h => by cases h
  | n + 1, .dt _, h => by cases h
  | n + 1, .obj _, h => by cases h
  | n + 1, .clo _ _, h => by cases h
  | n + 1, .exn _ _ _ _, h => by cases h
  | n + 1, .ft _, h => by cases h
end HW
/-! HN: runs of letters -/
namespace PM
def lt (c : Nat) : Bool := decide (97 ≤ c) && decide (c ≤ 122)
def LET : List Nat := [97, 98, 99, 100, 101, 102, 103, 104, 105, 106, 107, 108, 109, 110, 111, 112, 113, 114, 115, 116, 117, 118, 119, 120, 121, 122]
theorem mem_LET (c : Nat) : c ∈ LET ↔ lt c = true := by
  unfold LET lt
  simp
  omega
def wl : List Nat → Nat
  | [] => 0
  | c :: t => if lt c = true then wl t + 1 else 0
theorem wl_le : ∀ x : List Nat, wl x ≤ x.length
  | [] => Nat.le_refl _
  | c :: t => by
    have := wl_le t
    unfold wl
    split
    · simp; omega
    · simp
theorem wl_all : ∀ x : List Nat, ∀ c ∈ x.take (wl x), lt c = true
  | [], c, h => by simp [wl] at h
  | d :: t, c, h => by
    unfold wl at h
    split at h
    · rename_i hd
      rw [List.take_succ_cons] at h
      rcases List.mem_cons.mp h with h | h
      · rw [h]; exact hd
      · exact wl_all t c h
    · simp at h
theorem wl_drop {x : List Nat} {k c : Nat} (h : x[k]? = some c) : wl (x.drop k) = if lt c = true then wl (x.drop (k + 1)) + 1 else 0 := by
  have e1 : x.drop k = c :: x.drop (k + 1) := by
    have hk := (List.getElem?_eq_some_iff.mp h).1
    rw [List.drop_eq_getElem_cons hk]
    rw [List.getElem?_eq_getElem hk] at h
    cases h; rfl
  rw [e1]
  rfl
/-- runs behind n signs; b: whether a letter is ahead -/
def runs : Nat → Bool → List Nat → List (Nat × Nat)
  | _, _, [] => []
  | n, b, c :: t => if lt c = true then if b = true then runs (n + 1) true t else (n, n + (wl t + 1)) :: runs (n + 1) true t else runs (n + 1) false t
theorem runs_len : ∀ (x : List Nat) (n : Nat) (b : Bool), (runs n b x).length ≤ x.length
  | [], _, _ => Nat.le_refl _
  | c :: t, n, b => by
    have h1 := runs_len t (n + 1) true
    have h2 := runs_len t (n + 1) false
    unfold runs
    split
    · split
      · simp; omega
      · simp; omega
    · simp; omega
theorem runs_mem : ∀ (x : List Nat) (n : Nat) (b : Bool) (s e : Nat), (s, e) ∈ runs n b x → n ≤ s ∧ s < e ∧ e ≤ n + x.length ∧ ∀ c ∈ (x.take (e - n)).drop (s - n), lt c = true
  | [], _, _, s, e, h => by simp [runs] at h
  | c :: t, n, b, s, e, h => by
    have up : ∀ b', (s, e) ∈ runs (n + 1) b' t → n ≤ s ∧ s < e ∧ e ≤ n + (c :: t).length ∧ ∀ d ∈ ((c :: t).take (e - n)).drop (s - n), lt d = true := fun b' h' => by
      obtain ⟨a1, a2, a3, a4⟩ := runs_mem t (n + 1) b' s e h'
      refine ⟨by omega, a2, by simp; omega, ?_⟩
      have e1 : e - n = (e - (n + 1)) + 1 := by omega
      have e2 : s - n = (s - (n + 1)) + 1 := by omega
      rw [e1, e2, List.take_succ_cons, List.drop_succ_cons]
      exact a4
    unfold runs at h
    split at h
    · rename_i hc
      split at h
      · exact up _ h
      · rcases List.mem_cons.mp h with h | h
        · cases h
          have := wl_le t
          refine ⟨Nat.le_refl _, by omega, by simp; omega, ?_⟩
          rw [Nat.sub_self, List.drop_zero]
          have e1 : n + (wl t + 1) - n = wl t + 1 := by omega
          rw [e1, List.take_succ_cons]
          intro d hd
          rcases List.mem_cons.mp hd with hd | hd
          · rw [hd]; exact hc
          · exact wl_all t d hd
        · exact up _ h
    · exact up _ h
/-- the same, from sign to sign -/
def rgo : Nat → Option Nat → List Nat → List (Nat × Nat)
  | _, _, [] => []
  | n, none, c :: t => if lt c = true then rgo (n + 1) (some n) t else rgo (n + 1) none t
  | n, some s, c :: t => if lt c = true then rgo (n + 1) (some s) t else (s, n) :: rgo (n + 1) none t
theorem rgo_runs : ∀ (x : List Nat) (n : Nat), rgo n none (x ++ [32]) = runs n false x ∧ ∀ s, rgo n (some s) (x ++ [32]) = (s, n + wl x) :: runs n true x
  | [], n => ⟨rfl, fun s => rfl⟩
  | c :: t, n => by
    obtain ⟨a, b⟩ := rgo_runs t (n + 1)
    rw [List.cons_append]
    by_cases h : lt c = true
    · refine ⟨?_, fun s => ?_⟩
      · unfold rgo runs
        rw [if_pos h, if_pos h, b]
        simp
        omega
      · unfold rgo runs wl
        rw [if_pos h, if_pos h, if_pos h, b]
        simp
        omega
    · refine ⟨?_, fun s => ?_⟩
      · unfold rgo runs
        rw [if_neg h, if_neg h, a]
      · unfold rgo runs wl
        rw [if_neg h, if_neg h, if_neg h, a]
        rfl
end PM
namespace DL
open PySem PySem.Spec PyProof.Rows L2
theorem subL_one (c : Nat) (y : List Nat) : subL [c] y = decide (c ∈ y) := by
  rw [Bool.eq_iff_iff, decide_eq_true_eq]
  unfold subL
  rw [List.any_eq_true]
  constructor
  · rintro ⟨k, hk, h⟩
    have h : (y.drop k).take 1 = [c] := by
      unfold TL.pre at h
      simpa using h
    have : c ∈ (y.drop k).take 1 := by rw [h]; simp
    exact List.mem_of_mem_drop (List.mem_of_mem_take this)
  · intro h
    obtain ⟨k, hk, e⟩ := List.getElem_of_mem h
    refine ⟨k, by rw [List.mem_range]; omega, ?_⟩
    unfold TL.pre
    rw [List.drop_eq_getElem_cons hk, e]
    simp
theorem oIn_LET (c : Nat) : oIn (.str [c]) (.str PM.LET) = some (.fr (.bl (PM.lt c))) := by
  show (if List.isEmpty [c] = true then none else some (subL [c] PM.LET)).map _ = _
  rw [if_neg (by simp), subL_one]
  have : decide (c ∈ PM.LET) = PM.lt c := by
    rw [Bool.eq_iff_iff, decide_eq_true_eq]; exact PM.mem_LET c
  rw [this]; rfl
theorem oNotIn_LET (c : Nat) : oNotIn (.str [c]) (.str PM.LET) = some (.fr (.bl (!PM.lt c))) := by
  show (if List.isEmpty [c] = true then none else some (subL [c] PM.LET)).map _ = _
  rw [if_neg (by simp), subL_one]
  have : decide (c ∈ PM.LET) = PM.lt c := by
    rw [Bool.eq_iff_iff, decide_eq_true_eq]; exact PM.mem_LET c
  rw [this]; rfl
theorem rng_cons (lo : Int) (n : Nat) : rng lo (n + 1) = .int lo :: rng (lo + 1) n := by
  unfold rng
  rw [List.range_succ_eq_map, List.map_cons, List.map_map]
  congr 1
  · simp
  · apply List.map_congr_left
    intro k _
    simp
    omega
theorem cut_two {α : Type} (xs : List α) (s e : Nat) : cutL xs (some (s : Int)) (some (e : Int)) = (xs.take e).drop s := by
  by_cases h : e ≤ xs.length
  · exact cut_mid xs s e h
  · unfold cutL
    rw [HT.sIx_nat, HT.sIx_nat, Nat.min_eq_right (by omega), List.take_of_length_le (l := xs) (by omega)]
    by_cases h2 : s ≤ xs.length
    · rw [Nat.min_eq_left h2, List.take_of_length_le (by rw [List.length_drop]; omega)]
    · rw [Nat.min_eq_right (by omega), List.drop_eq_nil_of_le (Nat.le_refl _), List.drop_eq_nil_of_le (by omega)]
      simp
theorem lcGo_ex {G : Type} {gf : D → DSt → Option DSt} {fe : DSt → G → Out G SV} {sd : DSt} (P : D → Prop) : ∀ (ds : List D) (g : G),
    (∀ d ∈ ds, ∀ g, ∃ sd', gf d sd = some sd' ∧ ∃ x v g', fe sd' g = .ok x g' ∧ x.keep = some v ∧ P v) → ∃ l g', lcGo gf gYes fe sd ds g = .ok l g' ∧ l.length = ds.length ∧ ∀ v ∈ l, P v
  | [], g, _ => ⟨[], g, rfl, rfl, fun _ h => by cases h⟩
  | d :: ds, g, h => by
    obtain ⟨sd', h1, x, v, g1, h2, h3, h4⟩ := h d List.mem_cons_self g
    obtain ⟨l, g2, e1, e2, e3⟩ := lcGo_ex P ds g1 fun d hd => h d (List.mem_cons_of_mem _ hd)
    refine ⟨v :: l, g2, ?_, by simp [e2], fun u hu => ?_⟩
    · unfold lcGo
      rw [h1]
      dsimp only
      simp [noEr, h2, h3, e1]
    · rcases List.mem_cons.mp hu with h | h
      · rw [h]; exact h4
      · exact e3 u h
end DL
namespace HW
open PySem PySem.Spec PyProof.Rows L2 DL PM
def prD (q : Nat × Nat) : D := .tup [.int (q.1 : Int), .int (q.2 : Int)]
def runsD (x : List Nat) : List D := (runs 0 false x).map prD
theorem run_wh {x : List Nat} (hl : x.length ≤ 10000) {s0 s1 s3 : Option SV} (h0 : s0 = some (.fr (.str x))) : ∀ (n k : Nat), k ≤ x.length → wl (x.drop k) < n →
    whGo (gAnd (asB (fOp oLt (toB (fVar 4)) (toB (fCall cLen [fVar 0])))) (asB (fOp oIn (toB (fOp oIx (toB (fVar 0)) (toB (fVar 4)))) (toB (fVar 2))))) (sSet 4 (fOp oAdd (toB (fVar 4)) (toB (fC (.int 1))))) n
      [s0, s1, some (.fr (.str LET)), s3, some (.fr (.int (k : Int)))] () = .nx [s0, s1, some (.fr (.str LET)), s3, some (.fr (.int ((k + wl (x.drop k) : Nat) : Int)))] ()
  | 0, _, _, h => by omega
  | n + 1, k, h1, h3 => by
    subst h0
    have a1 : x.length ≤ 16777216 := by omega
    unfold whGo
    by_cases hk : k < x.length
    · have e1 := List.getElem?_eq_getElem hk
      have b1 := atI_nat e1
      have d := wl_drop e1
      rw [d]
      rw [d] at h3
      generalize x[k] = a at *
      have q := oIn_LET a
      by_cases hab : lt a = true
      · have m1 : (k : Int) < (x.length : Int) := by omega
        simp [a1, m1, b1, q, hab]
        rw [if_pos hab] at h3
        have ih := run_wh hl (s1 := s1) (s3 := s3) rfl n (k + 1) (by omega) (by omega)
        have ek : ((k : Int) + 1) = ((k + 1 : Nat) : Int) := by omega
        rw [ek, ih]
        have e9 : k + 1 + wl (x.drop (k + 1)) = k + (wl (x.drop (k + 1)) + 1) := by omega
        rw [e9]
        simp
      · have hf : lt a = false := by simpa using hab
        have m1 : (k : Int) < (x.length : Int) := by omega
        simp [a1, m1, b1, q, hf]
    · have m1 : ¬ ((k : Int) < (x.length : Int)) := by omega
      have z : wl (x.drop k) = 0 := by
        have := wl_le (x.drop k)
        rw [List.length_drop] at this
        omega
      rw [z]
      simp [a1, m1]
def lastb (l : List Nat) : Bool := match l.getLast? with
  | some c => lt c
  | none => false
theorem lastb_snoc (l : List Nat) (c : Nat) : lastb (l ++ [c]) = lt c := by simp [lastb]
theorem law_runs_eq {x : List Nat} (hl : x.length ≤ 900) : run__law_runs [.str x] () = .ok (.ow (.lst (runsD x))) () := by
  have l1 : x.length ≤ 16777216 := by omega
  have r0 := rgB1 (j := (x.length : Int)) (by omega)
  unfold run__law_runs f__law_runs
  rw [show ([97, 98, 99, 100, 101, 102, 103, 104, 105, 106, 107, 108, 109, 110, 111, 112, 113, 114, 115, 116, 117, 118, 119, 120, 121, 122] : List Nat) = LET from rfl]
  simp [l1, r0]
  obtain ⟨sd', g', h1, l, rest, fnd, ⟨a, b, rfl⟩, hr, hx, hf⟩ := forGo_inv (gf := gNm 3)
    (body := sIf (gAnd (asB (fOp oIn (toB (fOp oIx (toB (fVar 0)) (toB (fVar 3)))) (toB (fVar 2)))) (gOr (asB (fOp oEq (toB (fVar 3)) (toB (fC (.int 0))))) (asB (fOp oNotIn (toB (fOp oIx (toB (fVar 0)) (toB (fOp oSub (toB (fVar 3)) (toB (fC (.int 1))))))) (toB (fVar 2)))))) (sSeq (sSet 4 (fVar 3)) (sSeq (sWhile WH (gAnd (asB (fOp oLt (toB (fVar 4)) (toB (fCall cLen [fVar 0])))) (asB (fOp oIn (toB (fOp oIx (toB (fVar 0)) (toB (fVar 4)))) (toB (fVar 2))))) (sSet 4 (fOp oAdd (toB (fVar 4)) (toB (fC (.int 1)))))) (sFrz 4 (sApp 1 (fTup [fVar 3, fVar 4]))))) (sNx))
    (fun r sd (g : Unit) => ∃ (l rest : List Nat) (fnd : List (Nat × Nat)), (∃ a b, sd = [some (.fr (.str x)), some (.ow (.lst (fnd.map prD))), some (.fr (.str LET)), a, b]) ∧ r = rng (l.length : Int) rest.length ∧ l ++ rest = x ∧ fnd ++ runs l.length (lastb l) rest = runs 0 false x)
    (rng 0 x.length) [some (.fr (.str x)), some (.ow (.lst [])), some (.fr (.str LET)), none, none] ()
    ⟨[], x, [], ⟨none, none, rfl⟩, rfl, rfl, rfl⟩ (by
      rintro d r sd g _ ⟨l, rest, fnd, ⟨a, b, rfl⟩, hr, hx, hf⟩
      cases rest with
      | nil => cases hr
      | cons c rest =>
        rw [List.length_cons, rng_cons] at hr
        cases hr
        have hxl : x.length = l.length + (rest.length + 1) := by rw [← hx]; simp
        have e1 : x[l.length]? = some c := by rw [← hx]; simp
        have b1 := atI_nat e1
        have dl : x.drop l.length = c :: rest := by rw [← hx]; simp
        have fl : (fnd ++ runs l.length (lastb l) (c :: rest)).length ≤ x.length := by rw [hf]; exact runs_len x 0 false
        have q := oIn_LET c
        have en : ((l.length : Int) + 1) = (((l ++ [c]).length : Nat) : Int) := by simp
        by_cases hc : lt c = true
        · have hp : (l.length = 0 ∧ lastb l = false) ∨ (0 < l.length ∧ ∃ p, L2.atI x ((l.length : Int) - 1) = some p ∧ lastb l = lt p) := by
            rcases List.eq_nil_or_concat l with h | ⟨l', p, h⟩
            · subst h; exact .inl ⟨rfl, rfl⟩
            · rw [List.concat_eq_append] at h
              subst h
              refine .inr ⟨by simp, p, ?_, lastb_snoc l' p⟩
              have : (((l' ++ [p]).length : Nat) : Int) - 1 = (l'.length : Int) := by simp
              rw [this]
              exact atI_nat (by rw [← hx]; simp)
          by_cases hb : lastb l = true
          · rcases hp with ⟨_, h⟩ | ⟨h0, p, h1, h2⟩
            · rw [h] at hb; cases hb
            · rw [h2] at hb
              have q2 := oNotIn_LET p
              refine ⟨_, rfl, [some (.fr (.str x)), some (.ow (.lst (fnd.map prD))), some (.fr (.str LET)), some (.fr (.int (l.length : Int))), b], (), .inl ?_, l ++ [c], rest, fnd, ⟨_, _, rfl⟩, by rw [en], by rw [← hx]; simp, ?_⟩
              · have hne : ¬ l = [] := fun z => by rw [z] at h0; cases h0
                simp [l1, b1, q, hc, hne, h1, q2, hb]
              · rw [lastb_snoc, hc, ← hf]
                conv => rhs; unfold runs
                rw [if_pos hc, h2, if_pos hb]
                simp
          · have hb' : lastb l = false := by simpa using hb
            have w := run_wh (x := x) (by omega) (s0 := some (.fr (.str x))) (s1 := some (.ow (.lst (fnd.map prD)))) (s3 := some (.fr (.int (l.length : Int)))) rfl 1000 l.length (by omega) (by
              have := wl_le (x.drop l.length)
              rw [List.length_drop] at this
              omega)
            have wd : wl (x.drop l.length) = wl rest + 1 := by
              rw [dl]
              show (if lt c = true then _ else _) = _
              rw [if_pos hc]
            rw [wd] at w
            have ru : runs l.length (lastb l) (c :: rest) = (l.length, l.length + (wl rest + 1)) :: runs (l.length + 1) true rest := by
              show (if lt c = true then _ else _) = _
              rw [if_pos hc, hb', if_neg (by simp)]
            have fl2 : fnd.length < 16777216 := by
              rw [List.length_append] at fl
              omega
            refine ⟨_, rfl, [some (.fr (.str x)), some (.ow (.lst ((fnd ++ [(l.length, l.length + (wl rest + 1))]).map prD))), some (.fr (.str LET)), some (.fr (.int (l.length : Int))), some (.fr (.int ((l.length + (wl rest + 1) : Nat) : Int)))], (), .inl ?_, l ++ [c], rest, fnd ++ [(l.length, l.length + (wl rest + 1))], ⟨_, _, rfl⟩, by rw [en], by rw [← hx]; simp, ?_⟩
            · have w' : whGo _ _ WH _ _ = _ := w
              rcases hp with ⟨h0, _⟩ | ⟨h0, p, h1, h2⟩
              · have hne : l = [] := List.length_eq_zero_iff.mp h0
                subst hne
                simp at w' b1
                simp [l1, b1, q, hc, sWhile, w', frz, ownL, fl2, prD]
              · have hne : ¬ l = [] := fun z => by rw [z] at h0; cases h0
                rw [h2] at hb'
                have q2 := oNotIn_LET p
                simp [l1, b1, q, hc, hne, h1, q2, hb', sWhile, w', frz, ownL, fl2, prD]
            · rw [lastb_snoc, hc, ← hf, ru]
              simp
        · have hc' : lt c = false := by simpa using hc
          refine ⟨_, rfl, [some (.fr (.str x)), some (.ow (.lst (fnd.map prD))), some (.fr (.str LET)), some (.fr (.int (l.length : Int))), b], (), .inl ?_, l ++ [c], rest, fnd, ⟨_, _, rfl⟩, by rw [en], by rw [← hx]; simp, ?_⟩
          · simp [l1, b1, q, hc']
          · rw [lastb_snoc, hc', ← hf]
            conv => rhs; unfold runs
            rw [if_neg hc]
            simp)
  cases rest with
  | cons c rest =>
    rw [List.length_cons, rng_cons] at hr
    cases hr
  | nil =>
    have hf : fnd ++ [] = runs 0 false x := hf
    rw [List.append_nil] at hf
    subst hf
    rw [h1]
    simp [runsD]
def stD' : Option Nat → D
  | none => .non
  | some s => .int (s : Int)
theorem words_in_eq {x : List Nat} (hl : x.length ≤ 900) : run_words_in [.str x] () = .ok (.ow (.lst (runsD x))) () := by
  have l1 : x.length + 1 ≤ 16777216 := by omega
  unfold run_words_in f_words_in
  rw [show ([97, 98, 99, 100, 101, 102, 103, 104, 105, 106, 107, 108, 109, 110, 111, 112, 113, 114, 115, 116, 117, 118, 119, 120, 121, 122] : List Nat) = LET from rfl]
  simp [l1]
  obtain ⟨sd', g', h1, n, rest, st, fnd, ⟨a, b, rfl⟩, hr, hx, hf⟩ := forGo_inv (gf := gTp (gCo (gNm 3) (gCo (gNm 4) (gNo))))
    (body := sSeq (sIf (gAnd (asB (fOp oIn (toB (fVar 4)) (toB (fC (.str LET))))) (asB (fUn uIsN (toB (fVar 2))))) (sSet 2 (fVar 3)) (sNx)) (sIf (gAnd (asB (fOp oNotIn (toB (fVar 4)) (toB (fC (.str LET))))) (asB (fUn uNotN (toB (fVar 2))))) (sSeq (sFrz 2 (sApp 1 (fTup [fVar 2, fVar 3]))) (sSet 2 (fC .non))) (sNx)))
    (fun r sd (g : Unit) => ∃ (n : Nat) (rest : List Nat) (st : Option Nat) (fnd : List (Nat × Nat)), (∃ a b, sd = [some (.fr (.str x)), some (.ow (.lst (fnd.map prD))), some (.fr (stD' st)), a, b]) ∧ r = enumF n (DL.signs rest) ∧ n + rest.length = x.length + 1 ∧ fnd ++ rgo n st rest = runs 0 false x)
    (enumF 0 (DL.signs (x ++ [32]))) [some (.fr (.str x)), some (.ow (.lst [])), some (.fr .non), none, none] ()
    ⟨0, x ++ [32], none, [], ⟨none, none, rfl⟩, rfl, by simp, (rgo_runs x 0).1⟩ (by
      rintro d r sd g _ ⟨n, rest, st, fnd, ⟨a, b, rfl⟩, hr, hx, hf⟩
      cases rest with
      | nil => cases hr
      | cons c rest =>
        cases hr
        have fl : (fnd ++ rgo n st (c :: rest)).length ≤ x.length := by rw [hf]; exact runs_len x 0 false
        have fl2 : fnd.length < 16777216 := by
          rw [List.length_append] at fl
          omega
        have q := oIn_LET c
        have q2 := oNotIn_LET c
        rw [List.length_cons] at hx
        by_cases hc : lt c = true
        · cases st with
          | none =>
            refine ⟨_, rfl, [some (.fr (.str x)), some (.ow (.lst (fnd.map prD))), some (.fr (stD' (some n))), some (.fr (.int (n : Int))), some (.fr (.str [c]))], (), .inl ?_, n + 1, rest, some n, fnd, ⟨_, _, rfl⟩, rfl, by omega, ?_⟩
            · simp [q, q2, hc, stD']
            · rw [← hf]
              conv => rhs; unfold rgo
              rw [if_pos hc]
          | some s =>
            refine ⟨_, rfl, [some (.fr (.str x)), some (.ow (.lst (fnd.map prD))), some (.fr (stD' (some s))), some (.fr (.int (n : Int))), some (.fr (.str [c]))], (), .inl ?_, n + 1, rest, some s, fnd, ⟨_, _, rfl⟩, rfl, by omega, ?_⟩
            · simp [q, q2, hc, stD']
            · rw [← hf]
              conv => rhs; unfold rgo
              rw [if_pos hc]
        · have hc' : lt c = false := by simpa using hc
          cases st with
          | none =>
            refine ⟨_, rfl, [some (.fr (.str x)), some (.ow (.lst (fnd.map prD))), some (.fr (stD' none)), some (.fr (.int (n : Int))), some (.fr (.str [c]))], (), .inl ?_, n + 1, rest, none, fnd, ⟨_, _, rfl⟩, rfl, by omega, ?_⟩
            · simp [q, q2, hc', stD']
            · rw [← hf]
              conv => rhs; unfold rgo
              rw [if_neg hc]
          | some s =>
            refine ⟨_, rfl, [some (.fr (.str x)), some (.ow (.lst ((fnd ++ [(s, n)]).map prD))), some (.fr (stD' none)), some (.fr (.int (n : Int))), some (.fr (.str [c]))], (), .inl ?_, n + 1, rest, none, fnd ++ [(s, n)], ⟨_, _, rfl⟩, rfl, by omega, ?_⟩
            · simp [q, q2, hc', stD', frz, ownL, fl2, prD]
            · rw [← hf]
              conv => rhs; unfold rgo
              rw [if_neg hc]
              simp)
  cases rest with
  | cons c rest => cases hr
  | nil =>
    have hf : fnd ++ [] = runs 0 false x := by
      rw [← hf]
      cases st <;> rfl
    rw [List.append_nil] at hf
    subst hf
    rw [h1]
    simp [runsD]
end HW
namespace DL
open PySem PySem.Spec PyProof.Rows L2
@[simp] theorem chs_nil : chs [] = true := id rfl
@[simp] theorem chs_cons (c : Nat) (l : List Nat) : chs (c :: l) = (decide (c < 1114112) && chs l) := id rfl
@[simp] theorem e_get1 {G : Type} (sd : DSt) (g : G) (fa fb : DSt → G → Out G SV) : fDGet1' fa fb sd g = (toB fa sd g).bind fun x g1 => if isDk x = true then (toB fb sd g1).bind fun y g2 => match DL.getD x y with
  | some (some d) => .ok (.fr d) g2
  | some none => .ok (.fr .non) g2
  | none => .bad
  else .bad := id rfl
theorem lcGo_enc {α G : Type} {gf : D → DSt → Option DSt} {ft : DSt → G → Out G Bool} {fe : DSt → G → Out G SV} {sd : DSt} {g : G} (enc : α → D) (t : α → Bool) (v : α → D) : ∀ (l : List α),
    (∀ d ∈ l, ∃ sd', gf (enc d) sd = some sd' ∧ ft sd' g = .ok (t d) g ∧ (t d = true → ∃ x, fe sd' g = .ok x g ∧ x.keep = some (v d))) → lcGo gf ft fe sd (l.map enc) g = .ok ((l.filter t).map v) g
  | [], _ => rfl
  | d :: ds, h => by
    obtain ⟨sd', h1, h2, h3⟩ := h d List.mem_cons_self
    have ih := lcGo_enc enc t v ds fun e he => h e (List.mem_cons_of_mem _ he)
    rw [List.map_cons]
    unfold lcGo
    rw [h1]
    dsimp only
    rw [h2]
    simp only [noEr, bind_ok]
    cases e : t d with
    | true =>
      obtain ⟨x, h4, h5⟩ := h3 e
      rw [if_pos rfl, e_toD, h4, bind_ok, h5]
      simp [e, ih]
    | false =>
      rw [if_neg (by simp), ih, List.filter_cons]
      simp [e]
theorem rng_zero (n : Nat) : rng 0 n = (List.range n).map fun (k : Nat) => D.int (k : Int) := by
  unfold rng
  apply List.map_congr_left
  intro k _
  simp
end DL
namespace HW
open PySem PySem.Spec PyProof.Rows L2 DL PM
inductive Wt where
  | find (w : List Nat)
  | rows (w : List Nat)
  | word (n : Nat)
  | ren (n : Nat) (w : List Nat)
def wdOk (w : List Nat) : Prop := 1 ≤ w.length ∧ w.length ≤ 8 ∧ ∀ c ∈ w, lt c = true
theorem wdOk.chs {w : List Nat} (h : wdOk w) : DL.chs w = true := by
  unfold DL.chs
  rw [List.all_eq_true]
  intro c hc
  have := h.2.2 c hc
  unfold lt at this
  simp at this ⊢
  omega
def wtD (x : List Nat) : Wt → D
  | .find w => .tup [.str [102, 105, 110, 100], .str w]
  | .rows w => .tup [.str [114, 111, 119, 115], .str w]
  | .word n => .tup [.str [119, 111, 114, 100], plD x n]
  | .ren n w => .tup [.str [114, 101, 110, 97, 109, 101], plD x n, .str w]
def OkW (x : List Nat) : Wt → Prop
  | .find w => wdOk w
  | .rows w => wdOk w
  | .word n => n ≤ x.length
  | .ren n w => n ≤ x.length ∧ wdOk w
theorem is_word_eq {w : List Nat} (hw : chs w = true) (hl : w.length ≤ 10000) : run_is_word [.str w] () = .ok (.fr (.bl (decide (1 ≤ w.length) && decide (w.length ≤ 8) && w.all lt))) () := by
  have l1 : w.length ≤ 16777216 := by omega
  unfold run_is_word f_is_word
  rw [show ([97, 98, 99, 100, 101, 102, 103, 104, 105, 106, 107, 108, 109, 110, 111, 112, 113, 114, 115, 116, 117, 118, 119, 120, 121, 122] : List Nat) = LET from rfl]
  by_cases h1 : 1 ≤ w.length
  · by_cases h2 : w.length ≤ 8
    · have i1 : (1 : Int) ≤ (w.length : Int) := by omega
      have i2 : (w.length : Int) ≤ 8 := by omega
      have hs : (DL.signs w).length ≤ 16777216 := by rw [DL.signs, List.length_map]; exact l1
      simp [isT, l1, i1, i2, h1, h2]
      rw [if_pos hs]
      rw [show DL.signs w = w.map fun c => D.str [c] from rfl, lcGo_enc (fun c => D.str [c]) (fun c => !lt c) (fun c => D.str [c]) w fun c hc => ⟨_, rfl, by simp [oNotIn_LET], fun _ => ⟨_, rfl, rfl⟩⟩]
      have f1 : (D.lst ((w.filter fun c => !lt c).map fun c => D.str [c])).fit = true := okAll_signs hw fun d hd => by
        obtain ⟨c, hc, rfl⟩ := List.mem_map.mp hd
        exact List.mem_map.mpr ⟨c, (List.mem_filter.mp hc).1, rfl⟩
      simp
      rw [oEq_of f1 fit_nil, eqv_nil]
      simp
      rw [Bool.eq_iff_iff]
      simp
    · have i2 : ¬ (w.length : Int) ≤ 8 := by omega
      by_cases i1 : (1 : Int) ≤ (w.length : Int)
      · simp [isT, l1, i1, i2, h2]
      · simp [isT, l1, i1, i2, h2]
  · have i1 : ¬ (1 : Int) ≤ (w.length : Int) := by omega
    simp [isT, l1, i1, h1]
theorem is_word_ok {w : List Nat} (h : wdOk w) : run_is_word [.str w] () = .ok (.fr (.bl true)) () := by
  rw [is_word_eq h.chs (by have := h.2.1; omega)]
  have : w.all lt = true := List.all_eq_true.mpr h.2.2
  simp [this, h.1, h.2.1]
theorem ints_lc {i j : Int} (fe : DSt → Unit → Out Unit SV) (sd : DSt) (h : sd.length = 5) : lcGo (gNm 4) (gNot (asB (fCall cIsi [fVar 4, fC (.obj (.ty "int"))]))) fe sd [.int i, .int j] () = .ok [] () := by
  have h4 : 4 < sd.length := by omega
  simp [lcGo, noEr, isT, h4]
theorem need_want_ok {x : List Nat} {W : Wt} (hl : x.length ≤ 900) (h : OkW x W) : run_need_want [.str x, wtD x W] () = .ok (.fr .non) () := by
  unfold run_need_want f_need_want
  cases W with
  | find w =>
    have hw := is_word_ok h
    have la : L2.atI [D.str [102, 105, 110, 100], .str w] (-1) = some (.str w) := atI_last (by simp)
    have q1 : oNotIn (.str [102, 105, 110, 100]) (.tup [.str [102, 105, 110, 100], .str [114, 111, 119, 115], .str [119, 111, 114, 100], .str [114, 101, 110, 97, 109, 101]]) = some (.fr (.bl false)) := rfl
    have q2 : oIn (.str [102, 105, 110, 100]) (.tup [.str [119, 111, 114, 100], .str [114, 101, 110, 97, 109, 101]]) = some (.fr (.bl false)) := rfl
    simp [isT, wtD, q1, q2, oEq_str, oNe_str, la, hw]
  | rows w =>
    have hw := is_word_ok h
    have la : L2.atI [D.str [114, 111, 119, 115], .str w] (-1) = some (.str w) := atI_last (by simp)
    have q1 : oNotIn (.str [114, 111, 119, 115]) (.tup [.str [102, 105, 110, 100], .str [114, 111, 119, 115], .str [119, 111, 114, 100], .str [114, 101, 110, 97, 109, 101]]) = some (.fr (.bl false)) := rfl
    have q2 : oIn (.str [114, 111, 119, 115]) (.tup [.str [119, 111, 114, 100], .str [114, 101, 110, 97, 109, 101]]) = some (.fr (.bl false)) := rfl
    simp [isT, wtD, q1, q2, oEq_str, oNe_str, la, hw]
  | word n =>
    have hp := is_place_ok (x := x) (n := n) (by omega) h
    have q1 : oNotIn (.str [119, 111, 114, 100]) (.tup [.str [102, 105, 110, 100], .str [114, 111, 119, 115], .str [119, 111, 114, 100], .str [114, 101, 110, 97, 109, 101]]) = some (.fr (.bl false)) := rfl
    have q2 : oIn (.str [119, 111, 114, 100]) (.tup [.str [119, 111, 114, 100], .str [114, 101, 110, 97, 109, 101]]) = some (.fr (.bl true)) := rfl
    have e := oNe_self (a := .lst []) rfl
    have pd : ∃ i j : Int, plD x n = .tup [.int i, .int j] := ⟨_, _, rfl⟩
    obtain ⟨i, j, pd⟩ := pd
    rw [pd] at hp
    simp [isT, wtD, q1, q2, oEq_str, oNe_str, pd, hp, frz, ints_lc, e, lim]
  | ren n w =>
    have hp := is_place_ok (x := x) (n := n) (by omega) h.1
    have hw := is_word_ok h.2
    have la : ∀ d, L2.atI [D.str [114, 101, 110, 97, 109, 101], d, .str w] (-1) = some (.str w) := fun d => atI_last (by simp)
    have q1 : oNotIn (.str [114, 101, 110, 97, 109, 101]) (.tup [.str [102, 105, 110, 100], .str [114, 111, 119, 115], .str [119, 111, 114, 100], .str [114, 101, 110, 97, 109, 101]]) = some (.fr (.bl false)) := rfl
    have q2 : oIn (.str [114, 101, 110, 97, 109, 101]) (.tup [.str [119, 111, 114, 100], .str [114, 101, 110, 97, 109, 101]]) = some (.fr (.bl true)) := rfl
    have e := oNe_self (a := .lst []) rfl
    have pd : ∃ i j : Int, plD x n = .tup [.int i, .int j] := ⟨_, _, rfl⟩
    obtain ⟨i, j, pd⟩ := pd
    rw [pd] at hp
    simp [isT, wtD, q1, q2, oEq_str, oNe_str, pd, hp, frz, ints_lc, e, lim, la, hw]
/-! what is told -/
def cutw (x : List Nat) (s e : Nat) : List Nat := (x.take e).drop s
theorem cutw_chs {x : List Nat} {s e : Nat} (h : chs x = true) : chs (cutw x s e) = true := chs_drop _ (chs_take _ h)
theorem cutw_len {x : List Nat} {s e : Nat} (h : e ≤ x.length) : (cutw x s e).length = e - s := by
  unfold cutw
  rw [List.length_drop, List.length_take, Nat.min_eq_left h]
def findsL (x w : List Nat) : List Nat := (List.range x.length).filter fun k => cutw x k (k + w.length) == w
def rowsL (x w : List Nat) : List Nat := (List.range (spl1 10 x).length).filter fun k => subL w ((spl1 10 x)[k]?.getD [])
def hit (x : List Nat) (n : Nat) : List (Nat × Nat) := (runs 0 false x).filter fun q => decide (q.1 ≤ n) && decide (n ≤ q.2)
def like (x : List Nat) (s e : Nat) : List (Nat × Nat) := (runs 0 false x).filter fun q => cutw x q.1 q.2 == cutw x s e
def renO (x : List Nat) (n : Nat) (w : List Nat) : Option (List (Nat × Nat)) := match hit x n with
  | [] => none
  | q :: _ => if 8 < (like x q.1 q.2).length ∨ 200 < (x.length : Int) + ((like x q.1 q.2).length : Int) * ((w.length : Int) - ((q.2 - q.1 : Nat) : Int)) then none else some (like x q.1 q.2).reverse
def wordO (x : List Nat) (n : Nat) : D := match hit x n with
  | [] => .non
  | q :: _ => .tup [plD x q.1, plD x q.2]
def ansV (x : List Nat) : Wt → SV
  | .find w => .ow (.lst ((findsL x w).map (plD x)))
  | .rows w => .ow (.lst ((rowsL x w).map fun (k : Nat) => .int (k : Int)))
  | .word n => .fr (wordO x n)
  | .ren n w => match renO x n w with
    | none => .fr .non
    | some l => .ow (.lst (l.map fun q => .tup [plD x q.1, plD x q.2, .str w]))
theorem hit_mem {x : List Nat} {n : Nat} {q : Nat × Nat} (h : q ∈ hit x n) : q.1 < q.2 ∧ q.2 ≤ x.length := by
  obtain ⟨a, b, c, d⟩ := runs_mem x 0 false q.1 q.2 (List.mem_filter.mp h).1
  omega
theorem like_mem {x : List Nat} {s e : Nat} {q : Nat × Nat} (h : q ∈ like x s e) : q.1 < q.2 ∧ q.2 ≤ x.length := by
  obtain ⟨a, b, c, d⟩ := runs_mem x 0 false q.1 q.2 (List.mem_filter.mp h).1
  omega
theorem range_cut {n m : Nat} {t : Nat → Bool} (h : m ≤ n) (ht : ∀ k, m ≤ k → k < n → t k = false) : (List.range n).filter t = (List.range m).filter t := by
  obtain ⟨d, rfl⟩ := Nat.exists_eq_add_of_le h
  induction d with
  | zero => rfl
  | succ d ih =>
    rw [← Nat.add_assoc, List.range_succ, List.filter_append, ih (by omega) fun k h1 h2 => ht k h1 (by omega)]
    have := ht (m + d) (by omega) (by omega)
    simp [this]
theorem runs_fit {x : List Nat} {l : List (Nat × Nat)} : (D.lst (l.map prD)).fit = true := fit_lst fun d hd => by
  obtain ⟨q, _, rfl⟩ := List.mem_map.mp hd
  exact ⟨rfl, by simp [prD]⟩
theorem nil_eq (l : List (Nat × Nat)) : oEq (.lst (l.map prD)) (.lst []) = some (.fr (.bl l.isEmpty)) := by
  rw [oEq_of (runs_fit (x := [])) rfl, eqv_nil]
  simp
theorem nil_ne (l : List (Nat × Nat)) : oNe (.lst (l.map prD)) (.lst []) = some (.fr (.bl (!l.isEmpty))) := by
  rw [oNe_of (runs_fit (x := [])) rfl, eqv_nil]
  simp
theorem lim_of {n : Nat} (h : n ≤ 10000) : n ≤ DL.lim := by show n ≤ 16777216; omega
theorem runsD_len (x : List Nat) : (runsD x).length ≤ x.length := by
  unfold runsD
  rw [List.length_map]
  exact runs_len x 0 false
theorem finds_eq {x w : List Nat} (hx : chs x = true) (hl : x.length ≤ 900) (hw : wdOk w) : run_finds [.str x, .str w] () = .ok (.ow (.lst ((findsL x w).map fun (k : Nat) => .int (k : Int)))) () := by
  have l1 : x.length ≤ 16777216 := by omega
  have hw2 := hw.2.1
  have l2 : w.length ≤ 16777216 := by omega
  have r0 := rgB1 (j := (x.length : Int)) (by omega)
  unfold run_finds f_finds
  simp [l1, r0]
  rw [if_pos (by rw [rng_len]; exact lim_of (by omega)), rng_zero, lcGo_enc (fun (k : Nat) => D.int (k : Int)) (fun k => cutw x k (k + w.length) == w) (fun (k : Nat) => D.int (k : Int)) _ fun k hk => ⟨_, rfl, ?_, fun _ => ⟨_, rfl, rfl⟩⟩]
  · rfl
  · have e : (k : Int) + (w.length : Int) = ((k + w.length : Nat) : Int) := by omega
    simp [l1, l2]
    rw [e, cut_two]
    have := oEq_str (cutw_chs (s := k) (e := k + w.length) hx) hw.chs
    unfold cutw at *
    rw [this]
    rfl
theorem word_at_eq {x : List Nat} {n : Nat} (hl : x.length ≤ 900) (hn : n ≤ x.length) : run_word_at [.str x, plD x n] () = .ok (.fr (match hit x n with | [] => .non | q :: _ => prD q)) () := by
  have p1 := is_place_ok (x := x) (n := n) (by omega) hn
  have n1 := number_at_ok (x := x) (n := n) (by omega) hn
  have w1 := words_in_eq hl
  have rl := runsD_len x
  unfold run_word_at f_word_at
  simp [p1, n1, w1]
  rw [if_pos (lim_of (by omega))]
  unfold runsD
  rw [lcGo_enc prD (fun q => decide (q.1 ≤ n) && decide (n ≤ q.2)) prD _ fun q hq => ⟨_, rfl, ?_, fun _ => ⟨_, rfl, rfl⟩⟩]
  · rw [show (runs 0 false x).filter (fun q => decide (q.1 ≤ n) && decide (n ≤ q.2)) = hit x n from rfl]
    simp
    rw [nil_ne]
    cases e : hit x n with
    | nil => simp
    | cons q l => simp
  · simp [prD]
    by_cases h : q.1 ≤ n
    · simp [h]
    · simp [h]
theorem renamed_eq {x w : List Nat} {n : Nat} (hx : chs x = true) (hl : x.length ≤ 900) (hn : n ≤ x.length) (hw : wdOk w) : run_renamed [.str x, plD x n, .str w] () = .ok (ansV x (.ren n w)) () := by
  have wa := word_at_eq hl hn
  have w1 := words_in_eq hl
  have rl := runsD_len x
  have hw2 := hw.2.1
  have l1 : x.length ≤ 16777216 := by omega
  have l2 : w.length ≤ 16777216 := by omega
  show (sSeq _ _ [some (.fr (.str x)), some (.fr (plD x n)), some (.fr (.str w)), none, none, none, none, none] ()).out = _
  unfold ansV renO
  cases e : hit x n with
  | nil =>
    rw [e] at wa
    simp [wa, e]
  | cons q l =>
    rw [e] at wa
    obtain ⟨q1, q2⟩ := hit_mem (x := x) (n := n) (q := q) (by rw [e]; simp)
    simp only [e]
    dsimp only at wa ⊢
    refine run_step (sd' := [some (.fr (.str x)), some (.fr (plD x n)), some (.fr (.str w)), some (.fr (prD q)), none, none, none, none]) (g' := ()) (by simp [wa]) ?_
    refine run_step (sd' := [some (.fr (.str x)), some (.fr (plD x n)), some (.fr (.str w)), some (.fr (prD q)), none, none, none, none]) (g' := ()) (by simp [prD]) ?_
    refine run_step (sd' := [some (.fr (.str x)), some (.fr (plD x n)), some (.fr (.str w)), some (.fr (prD q)), some (.fr (.str (cutw x q.1 q.2))), none, none, none]) (g' := ()) (by simp [prD, l1, cut_two, cutw]) ?_
    refine run_step (sd' := [some (.fr (.str x)), some (.fr (plD x n)), some (.fr (.str w)), some (.fr (prD q)), some (.fr (.str (cutw x q.1 q.2))), some (.ow (.lst ((like x q.1 q.2).map prD))), none, none]) (g' := ()) ?_ ?_
    · simp [w1]
      rw [if_pos (lim_of (by omega))]
      unfold runsD
      rw [lcGo_enc prD (fun q' => cutw x q'.1 q'.2 == cutw x q.1 q.2) prD _ fun q' hq' => ⟨_, rfl, ?_, fun _ => ⟨_, rfl, rfl⟩⟩]
      · rfl
      · have := oEq_str (cutw_chs (s := q'.1) (e := q'.2) hx) (cutw_chs (s := q.1) (e := q.2) hx)
        simp [l1, cut_two]
        unfold cutw at *
        rw [this]; rfl
    have lk : (like x q.1 q.2).length ≤ x.length := Nat.le_trans (List.length_filter_le _ _) (runs_len x 0 false)
    have cl := cutw_len (s := q.1) q2
    have cl2 : (cutw x q.1 q.2).length ≤ 16777216 := by omega
    have mu := oMul_int (i := ((like x q.1 q.2).length : Int)) (j := (w.length : Int) - ((cutw x q.1 q.2).length : Int)) (.inl ⟨by omega, by omega⟩)
    by_cases c1 : 8 < (like x q.1 q.2).length
    · have c1' : (8 : Int) < ((like x q.1 q.2).length : Int) := by omega
      simp [c1, c1']
    · have c1' : ¬ (8 : Int) < ((like x q.1 q.2).length : Int) := by omega
      rw [cl] at mu
      by_cases c2 : 200 < (x.length : Int) + ((like x q.1 q.2).length : Int) * ((w.length : Int) - ((q.2 - q.1 : Nat) : Int))
      · have h9 : q.2 - q.1 ≤ 16777216 := by omega
        simp [c1, c1', c2, l1, l2, cl, cl2, h9, mu]
      · have h9 : q.2 - q.1 ≤ 16777216 := by omega
        refine run_step (sd' := [some (.fr (.str x)), some (.fr (plD x n)), some (.fr (.str w)), some (.fr (prD q)), some (.fr (.str (cutw x q.1 q.2))), some (.ow (.lst ((like x q.1 q.2).map prD))), none, none]) (g' := ()) ?_ ?_
        · simp [c1, c1', c2, l1, l2, cl, cl2, h9, mu]
        · simp [c1, c2]
          rw [if_pos (lim_of (by omega)), ← List.map_reverse, lcGo_enc prD (fun _ => true) (fun q => .tup [plD x q.1, plD x q.2, .str w]) _ fun q' hq' => ⟨_, rfl, rfl, fun _ => ?_⟩]
          · rw [filter_true]; simp
          · obtain ⟨a1, a2⟩ := like_mem (List.mem_reverse.mp hq')
            have p1 := place_at_eq (x := x) (n := q'.1) (by omega) (by omega)
            have p2 := place_at_eq (x := x) (n := q'.2) (by omega) (by omega)
            exact ⟨.fr (.tup [plD x q'.1, plD x q'.2, .str w]), by simp [p1, p2], rfl⟩
end HW
namespace HW
open PySem PySem.Spec PyProof.Rows L2 DL PM
theorem rows_flt {x w : List Nat} (hl : x.length ≤ 900) (hw : wdOk w) {gf : D → DSt → Option DSt} {ft : DSt → Unit → Out Unit Bool} {fe : DSt → Unit → Out Unit SV} {sd : DSt}
    (h : ∀ (k : Nat) row, (spl1 10 x)[k]? = some row → ∃ sd', gf (.int (k : Int)) sd = some sd' ∧ ft sd' () = .ok (subL w row) () ∧ ∃ x, fe sd' () = .ok x () ∧ x.keep = some (.int (k : Int))) :
    lcGo gf ft fe sd (rng 0 (spl1 10 x).length) () = .ok ((rowsL x w).map fun (k : Nat) => D.int (k : Int)) () := by
  rw [rng_zero, lcGo_enc (fun (k : Nat) => D.int (k : Int)) (fun k => subL w ((spl1 10 x)[k]?.getD [])) (fun (k : Nat) => D.int (k : Int)) _ fun k hk => ?_]
  · rfl
  · rw [List.mem_range] at hk
    have e := List.getElem?_eq_getElem hk
    obtain ⟨sd', a, b, c⟩ := h k _ e
    exact ⟨sd', a, by rw [b, e]; rfl, fun _ => c⟩
theorem wd_ne {w : List Nat} (h : wdOk w) : w.isEmpty = false := by
  cases w with
  | nil => have := h.1; simp at this
  | cons => rfl
theorem oIn_sub {w y : List Nat} (h : wdOk w) : oIn (.str w) (.str y) = some (.fr (.bl (subL w y))) := by
  show (if List.isEmpty w = true then none else some (subL w y)).map _ = _
  rw [if_neg (by rw [wd_ne h]; simp)]
  rfl
theorem ownR_ans (x : List Nat) (W : Wt) : ownR (ansV x W) = ansV x W := by
  cases W with
  | ren n w =>
    unfold ansV
    dsimp only
    split <;> rfl
  | _ => rfl
theorem said_of_eq {x : List Nat} {W : Wt} (hx : chs x = true) (hl : x.length ≤ 900) (h : OkW x W) : run_said_of [.str x, wtD x W] () = .ok (ansV x W) () := by
  have l2 : x.length + 2 ≤ 16777216 := by omega
  unfold run_said_of f_said_of
  cases W with
  | find w =>
    have hf := finds_eq hx hl h
    have fl : (findsL x w).length ≤ x.length := by
      have := List.length_filter_le (fun k => cutw x k (k + w.length) == w) (List.range x.length)
      rw [List.length_range] at this
      exact this
    simp [wtD, oEq_str, hf]
    rw [if_pos (lim_of (by omega)), lcGo_enc (fun (k : Nat) => D.int (k : Int)) (fun _ => true) (plD x) _ fun k hk => ⟨_, rfl, rfl, fun _ => ?_⟩]
    · rw [filter_true]; simp [ansV]
    · have : k < x.length := by
        have := (List.mem_filter.mp hk).1
        rwa [List.mem_range] at this
      have p1 := place_at_eq (x := x) (n := k) (by omega) (by omega)
      exact ⟨.fr (plD x k), by simp [p1], rfl⟩
  | rows w =>
    have r0 := rgB1 (j := ((spl1 10 x).length : Int)) (by have := rows_len x; omega)
    have rl := rows_len x
    have hr : (rng 0 (spl1 10 x).length).length ≤ 16777216 := by rw [rng_len]; omega
    simp [wtD, oEq_str, l2, r0, hr]
    rw [rows_flt hl h fun k row e => ⟨_, rfl, ?_, .fr (.int (k : Int)), by simp, rfl⟩]
    · simp [ansV]
    · have a := rows_at e
      simp [oIn_sub h, a]
  | word n =>
    have wa := word_at_eq hl h
    simp [wtD, oEq_str]
    rw [wa]
    simp [ansV, wordO]
    cases e : hit x n with
    | nil => simp
    | cons q l =>
      obtain ⟨q1, q2⟩ := hit_mem (x := x) (n := n) (q := q) (by rw [e]; simp)
      have p1 := place_at_eq (x := x) (n := q.1) (by omega) (by omega)
      have p2 := place_at_eq (x := x) (n := q.2) (by omega) (by omega)
      simp [prD, p1, p2]
  | ren n w =>
    have r := renamed_eq hx hl h.1 h.2
    simp [wtD, oEq_str, r]
    exact ownR_ans x (.ren n w)
theorem answer_of_eq {x : List Nat} {W : Wt} (hx : okt x = true) (hl : x.length ≤ 200) (h : OkW x W) : run_answer_of [.str x, wtD x W] () = .ok (ansV x W) () := by
  have n1 := need_sheet_ok (.str x) (is_text_ok hx (by omega) (by omega))
  have n2 := need_want_ok (by omega) h
  have s := said_of_eq (chs_okt hx) (by omega) h
  unfold run_answer_of f_answer_of
  simp [n1, n2, s, ownR_ans]
theorem hit_lc {x : List Nat} {n : Nat} (hl : x.length ≤ 900) {gf : D → DSt → Option DSt} {ft : DSt → Unit → Out Unit Bool} {fe : DSt → Unit → Out Unit SV} {sd : DSt}
    (h : ∀ q, ∃ sd', gf (prD q) sd = some sd' ∧ ft sd' () = .ok (decide (q.1 ≤ n) && decide (n ≤ q.2)) () ∧ ∃ x, fe sd' () = .ok x () ∧ x.keep = some (prD q)) : lcGo gf ft fe sd (runsD x) () = .ok ((hit x n).map prD) () := by
  unfold runsD
  rw [lcGo_enc prD (fun q => decide (q.1 ≤ n) && decide (n ≤ q.2)) prD _ fun q hq => ?_]
  · rfl
  · obtain ⟨sd', a, b, c⟩ := h q
    exact ⟨sd', a, b, fun _ => c⟩
theorem law_tells_pl {x : List Nat} (hx : chs x = true) (hl : x.length ≤ 900) (W : D) (n : Nat) (hn : n ≤ x.length) (h1 : oIxD W (.int 1) = some (plD x n)) (k : List Nat) (hk : oIxD W (.int 0) = some (.str k)) (hc : chs k = true) (hne : ¬ k = [102, 105, 110, 100] ∧ ¬ k = [114, 111, 119, 115]) (R : Out Unit SV)
    (hr0 : hit x n = [] → R = .ok (.fr .non) ())
    (hr1 : ∀ q l, hit x n = q :: l → (sSeq (sIf (asB (fOp oEq (toB (fOp oIx (toB (fVar 1)) (toB (fC (.int 0))))) (toB (fC (.str [119, 111, 114, 100]))))) (sRet (fTup [fFn (up0 run__law_at) [fVar 0, fVar 8], fFn (up0 run__law_at) [fVar 0, fVar 9]])) (sNx)) (sSeq (sSet 10 (fLc [7] (fSeq true (fFn (up0 run__law_runs) [fVar 0])) (gNm 7) (asB (fOp oEq (toB (fSlice (fVar 0) (fSo (fOp oIx (toB (fVar 7)) (toB (fC (.int 0))))) (fSo (fOp oIx (toB (fVar 7)) (toB (fC (.int 1))))))) (toB (fSlice (fVar 0) (fSo (fVar 8)) (fSo (fVar 9)))))) (fVar 7))) (sSeq (sIf (gOr (asB (fOp oGt (toB (fCall cLen [fVar 10])) (toB (fC (.int 8))))) (asB (fOp oGt (toB (fOp oAdd (toB (fCall cLen [fVar 0])) (toB (fOp oMul (toB (fCall cLen [fVar 10])) (toB (fOp oAdd (toB (fOp oSub (toB (fCall cLen [fOp oIx (toB (fVar 1)) (toB (fC (.int 2)))])) (toB (fVar 9)))) (toB (fVar 8)))))))) (toB (fC (.int 200)))))) (sRet (fC .non)) (sNx)) (sRet (fLc [7] (fSeq true (fUn uRev (toB (fVar 10)))) (gNm 7) (gYes) (fTup [fFn (up0 run__law_at) [fVar 0, fOp oIx (toB (fVar 7)) (toB (fC (.int 0)))], fFn (up0 run__law_at) [fVar 0, fOp oIx (toB (fVar 7)) (toB (fC (.int 1)))], fOp oIx (toB (fVar 1)) (toB (fC (.int 2)))])))))
      [some (.fr (.str x)), some (.fr W), none, none, none, some (.fr (.int (n : Int))), some (.ow (.lst ((hit x n).map prD))), none, some (.fr (.int (q.1 : Int))), some (.fr (.int (q.2 : Int))), none] ()).out = R) : run__law_tells [.str x, W] () = R := by
  have nm := law_numbers_eq hx (by omega)
  have ng := nums_get hn
  have rn := law_runs_eq hl
  have rl := runsD_len x
  show (sSeq _ _ [some (.fr (.str x)), some (.fr W), none, none, none, none, none, none, none, none, none] ()).out = _
  refine run_step (sd' := [some (.fr (.str x)), some (.fr W), none, none, none, none, none, none, none, none, none]) (g' := ()) (by simp [hk, oEq_str, hc, hne]) ?_
  refine run_step (sd' := [some (.fr (.str x)), some (.fr W), none, none, none, none, none, none, none, none, none]) (g' := ()) (by simp [hk, oEq_str, hc, hne]) ?_
  refine run_step (sd' := [some (.fr (.str x)), some (.fr W), none, none, none, some (.fr (.int (n : Int))), none, none, none, none, none]) (g' := ()) (by simp [nm, h1, ng, isDk]) ?_
  refine run_step (sd' := [some (.fr (.str x)), some (.fr W), none, none, none, some (.fr (.int (n : Int))), some (.ow (.lst ((hit x n).map prD))), none, none, none, none]) (g' := ()) ?_ ?_
  · simp [rn]
    rw [if_pos (lim_of (by omega)), hit_lc hl fun q => ⟨_, rfl, ?_, .fr (prD q), by simp, rfl⟩]
    · rfl
    · simp [prD]
      by_cases h : q.1 ≤ n
      · simp [h]
      · simp [h]
  cases e : hit x n with
  | nil =>
    rw [hr0 e]
    have q := nil_eq []
    simp at q
    simp [q]
  | cons q l =>
    have qn := nil_eq (q :: l)
    simp at qn
    refine run_step (sd' := [some (.fr (.str x)), some (.fr W), none, none, none, some (.fr (.int (n : Int))), some (.ow (.lst ((hit x n).map prD))), none, none, none, none]) (g' := ()) (by rw [e]; simp [qn]) ?_
    refine run_step (sd' := [some (.fr (.str x)), some (.fr W), none, none, none, some (.fr (.int (n : Int))), some (.ow (.lst ((hit x n).map prD))), none, some (.fr (.int (q.1 : Int))), some (.fr (.int (q.2 : Int))), none]) (g' := ()) (by rw [e]; simp [prD]) (hr1 q l e)
theorem law_tells_eq {x : List Nat} {W : Wt} (hx : chs x = true) (hl : x.length ≤ 200) (h : OkW x W) : run__law_tells [.str x, wtD x W] () = .ok (ansV x W) () := by
  have l1 : x.length ≤ 16777216 := by omega
  have l2 : x.length + 2 ≤ 16777216 := by omega
  cases W with
  | find w =>
    have w1 := h.1
    have w2 := h.2.1
    have l3 : w.length ≤ 16777216 := by omega
    have r0 := rgB1 (j := (x.length : Int) - (w.length : Int) + 1) (by omega)
    unfold run__law_tells f__law_tells
    simp [wtD, oEq_str, l1, l3, r0]
    rw [if_pos (by rw [rng_len]; exact lim_of (by omega)), rng_zero, lcGo_enc (fun (k : Nat) => D.int (k : Int)) (fun k => cutw x k (k + w.length) == w) (plD x) _ fun k hk => ⟨_, rfl, ?_, fun hq => ?_⟩]
    · have rc := range_cut (n := x.length) (m := ((x.length : Int) - (w.length : Int) + 1).toNat) (t := fun k => cutw x k (k + w.length) == w) (by omega) fun k h1 h2 => by
        rw [beq_eq_false_iff_ne]
        intro z
        have z := congrArg List.length z
        unfold cutw at z
        rw [List.length_drop, List.length_take] at z
        omega
      rw [← rc]
      simp [ansV, findsL]
    · have e : (k : Int) + (w.length : Int) = ((k + w.length : Nat) : Int) := by omega
      simp [l1, l3]
      rw [e, cut_two]
      have := oEq_str (cutw_chs (s := k) (e := k + w.length) hx) h.chs
      unfold cutw at *
      rw [this]
      rfl
    · rw [List.mem_range] at hk
      have p1 := law_at_eq (x := x) (n := k) hx (by omega) (by omega)
      exact ⟨.fr (plD x k), by simp [p1], rfl⟩
  | rows w =>
    have r0 := rgB1 (j := ((spl1 10 x).length : Int)) (by have := rows_len x; omega)
    have rl := rows_len x
    have hr : (rng 0 (spl1 10 x).length).length ≤ 16777216 := by rw [rng_len]; omega
    unfold run__law_tells f__law_tells
    simp [wtD, oEq_str, l2, r0, hr]
    rw [rows_flt (by omega) h fun k row e => ⟨_, rfl, ?_, .fr (.int (k : Int)), by simp, rfl⟩]
    · simp [ansV]
    · have a := rows_at e
      simp [oIn_sub h, a]
  | word n =>
    refine law_tells_pl hx (by omega) _ n h rfl [119, 111, 114, 100] rfl rfl (by decide) _ (fun e => ?_) fun q l e => ?_
    · simp [ansV, wordO, e]
    · obtain ⟨q1, q2⟩ := hit_mem (x := x) (n := n) (q := q) (by rw [e]; simp)
      have p1 := law_at_eq (x := x) (n := q.1) hx (by omega) (by omega)
      have p2 := law_at_eq (x := x) (n := q.2) hx (by omega) (by omega)
      simp [wtD, oEq_str, p1, p2, ansV, wordO, e]
  | ren n w =>
    obtain ⟨hn, hw⟩ := h
    have hw2 := hw.2.1
    have l3 : w.length ≤ 16777216 := by omega
    have rn := law_runs_eq (x := x) (by omega)
    have rl := runsD_len x
    refine law_tells_pl hx (by omega) _ n hn rfl [114, 101, 110, 97, 109, 101] rfl rfl (by decide) _ (fun e => ?_) fun q l e => ?_
    · simp [ansV, renO, e]
    · obtain ⟨q1, q2⟩ := hit_mem (x := x) (n := n) (q := q) (by rw [e]; simp)
      refine run_step (sd' := [some (.fr (.str x)), some (.fr (wtD x (.ren n w))), none, none, none, some (.fr (.int (n : Int))), some (.ow (.lst ((hit x n).map prD))), none, some (.fr (.int (q.1 : Int))), some (.fr (.int (q.2 : Int))), none]) (g' := ()) (by simp [wtD, oEq_str]) ?_
      refine run_step (sd' := [some (.fr (.str x)), some (.fr (wtD x (.ren n w))), none, none, none, some (.fr (.int (n : Int))), some (.ow (.lst ((hit x n).map prD))), none, some (.fr (.int (q.1 : Int))), some (.fr (.int (q.2 : Int))), some (.ow (.lst ((like x q.1 q.2).map prD)))]) (g' := ()) ?_ ?_
      · simp [rn]
        rw [if_pos (lim_of (by omega))]
        unfold runsD
        rw [lcGo_enc prD (fun q' => cutw x q'.1 q'.2 == cutw x q.1 q.2) prD _ fun q' hq' => ⟨_, rfl, ?_, fun _ => ⟨_, rfl, rfl⟩⟩]
        · rfl
        · have := oEq_str (cutw_chs (s := q'.1) (e := q'.2) hx) (cutw_chs (s := q.1) (e := q.2) hx)
          simp [prD, l1, cut_two]
          unfold cutw at *
          rw [this]; rfl
      have lk : (like x q.1 q.2).length ≤ x.length := Nat.le_trans (List.length_filter_le _ _) (runs_len x 0 false)
      have mu := oMul_int (i := ((like x q.1 q.2).length : Int)) (j := (w.length : Int) - (q.2 : Int) + (q.1 : Int)) (.inl ⟨by omega, by omega⟩)
      have es : (w.length : Int) - (q.2 : Int) + (q.1 : Int) = (w.length : Int) - ((q.2 - q.1 : Nat) : Int) := by omega
      unfold ansV renO
      simp only [e]
      by_cases c1 : 8 < (like x q.1 q.2).length
      · have c1' : (8 : Int) < ((like x q.1 q.2).length : Int) := by omega
        simp [c1, c1']
      · have c1' : ¬ (8 : Int) < ((like x q.1 q.2).length : Int) := by omega
        by_cases c2 : 200 < (x.length : Int) + ((like x q.1 q.2).length : Int) * ((w.length : Int) - ((q.2 - q.1 : Nat) : Int))
        · have c3 : 200 < (x.length : Int) + ((like x q.1 q.2).length : Int) * ((w.length : Int) - (q.2 : Int) + (q.1 : Int)) := by rw [es]; exact c2
          simp [wtD, c1, c1', c2, l1, l3, mu, c3]
        · have c3 : ¬ 200 < (x.length : Int) + ((like x q.1 q.2).length : Int) * ((w.length : Int) - (q.2 : Int) + (q.1 : Int)) := by rw [es]; exact c2
          refine run_step (sd' := [some (.fr (.str x)), some (.fr (wtD x (.ren n w))), none, none, none, some (.fr (.int (n : Int))), some (.ow (.lst ((hit x n).map prD))), none, some (.fr (.int (q.1 : Int))), some (.fr (.int (q.2 : Int))), some (.ow (.lst ((like x q.1 q.2).map prD)))]) (g' := ()) ?_ ?_
          · rw [e]
            simp [wtD, c1, c1', l1, l3, mu, c3]
          · simp [c1, c2]
            rw [if_pos (lim_of (by omega)), ← List.map_reverse, lcGo_enc prD (fun _ => true) (fun q => .tup [plD x q.1, plD x q.2, .str w]) _ fun q' hq' => ⟨_, rfl, rfl, fun _ => ?_⟩]
            · rw [filter_true]; simp
            · obtain ⟨a1, a2⟩ := like_mem (List.mem_reverse.mp hq')
              have p1 := law_at_eq (x := x) (n := q'.1) hx (by omega) (by omega)
              have p2 := law_at_eq (x := x) (n := q'.2) hx (by omega) (by omega)
              exact ⟨.fr (.tup [plD x q'.1, plD x q'.2, .str w]), by simp [wtD, prD, p1, p2], rfl⟩
end HW
namespace DL
open PySem PySem.Spec PyProof.Rows L2
theorem joinL_nil : ∀ l : List (List Nat), TL.joinL [] l = l.flatten
  | [] => rfl
  | [p] => by simp [TL.joinL]
  | p :: q :: r => by
    show p ++ ([] ++ TL.joinL [] (q :: r)) = _
    rw [joinL_nil (q :: r)]
    simp
@[simp] theorem mJoin_lst (x : List Nat) (ds : List D) : mJoin x (.lst ds) = (allStr ds).bind fun ls => if (ls.map (·.length)).sum + ls.length * x.length ≤ lim then some (.fr (.str (TL.joinL x ls))) else none := id rfl
theorem flatten_one (l : List Nat) : (l.map fun c => [c]).flatten = l := by
  induction l with
  | nil => rfl
  | cons c l ih => simp [ih]
end DL
namespace HW
open PySem PySem.Spec PyProof.Rows L2 DL PM
theorem ab_lt : ∀ c ∈ [97, 98], lt c = true := by decide
theorem name_tail (p : Addr) (ns : List Int) (x : List Nat) (s2 s3 s4 : Option SV) (g : Gs) : ∃ (w : List Nat) (g' : Gs), wdOk w ∧
    (sSeq (sSet 5 (fOp oIx (toB (fLst [fC (.str [97, 98]), fC (.str LET)])) (toB (fFn (drawR p ns) [fVar 0, fC (.int 2)])))) (sRet (fM1 mJoin (fC (.str [])) (fLc [6] (fRng [fOp oAdd (toB (fC (.int 1))) (toB (fFn (drawR p ns) [fVar 0, fC (.int 8)]))]) (gNm 6) (gYes) (fOp oIx (toB (fVar 5)) (toB (fFn (drawR p ns) [fVar 0, fCall cLen [fVar 5]]))))))
      [some (.fr (.obj (.ref p))), some (.fr (.str x)), s2, s3, s4, none, none] g).out = .ok (.fr (.str w)) g' := by
  obtain ⟨v1, g1, h1, e1⟩ := draw_ex p ns 2 g (by omega) (by decide)
  obtain ⟨y, hy, hyl, hy0, hyc⟩ : ∃ y : List Nat, L2.atI [D.str [97, 98], D.str LET] (v1 : Int) = some (.str y) ∧ y.length ≤ 26 ∧ 0 < y.length ∧ ∀ c ∈ y, lt c = true := by
    rcases (show v1 = 0 ∨ v1 = 1 by omega) with rfl | rfl
    · exact ⟨[97, 98], rfl, by decide, by decide, ab_lt⟩
    · exact ⟨LET, rfl, by decide, by decide, fun c hc => (mem_LET c).mp hc⟩
  obtain ⟨v2, g2, h2, e2⟩ := draw_ex p ns 8 g1 (by omega) (by decide)
  have r0 := rgB1 (j := 1 + (v2 : Int)) (by omega)
  have e3 : (1 + (v2 : Int)).toNat = 1 + v2 := by omega
  rw [e3] at r0
  have ly : y.length ≤ 16777216 := by omega
  obtain ⟨l, g3, a1, a2, a3⟩ := lcGo_ex (gf := gNm 6) (fe := fOp oIx (toB (fVar 5)) (toB (fFn (drawR p ns) [fVar 0, fCall cLen [fVar 5]]))) (sd := [some (.fr (.obj (.ref p))), some (.fr (.str x)), s2, s3, s4, some (.fr (.str y)), none]) (fun v => ∃ c, v = .str [c] ∧ lt c = true) (rng 0 (1 + v2)) g2 (fun d _ g => by
    obtain ⟨v, g', hv, e⟩ := draw_ex p ns y.length g hy0 (by omega)
    obtain ⟨c, b1, b2⟩ := get_ex (l := y) (v := v) hv
    have b3 := atI_nat b1
    exact ⟨_, rfl, .fr (.str [c]), .str [c], g', by simp [ly, e, b3], rfl, c, rfl, hyc c b2⟩)
  rw [rng_len] at a2
  have hcs : ∃ cs : List Nat, l = cs.map (fun c => D.str [c]) ∧ (∀ c ∈ cs, lt c = true) := by
    clear a1 a2
    induction l with
    | nil => exact ⟨[], rfl, fun _ h => by cases h⟩
    | cons d l ih =>
      obtain ⟨cs, e, h⟩ := ih fun v hv => a3 v (List.mem_cons_of_mem _ hv)
      obtain ⟨c, rfl, hc⟩ := a3 d List.mem_cons_self
      exact ⟨c :: cs, by rw [e]; rfl, fun c' h' => by
        rcases List.mem_cons.mp h' with h' | h'
        · rw [h']; exact hc
        · exact h c' h'⟩
  obtain ⟨cs, rfl, hcs⟩ := hcs
  rw [List.length_map] at a2
  refine ⟨cs, g3, ⟨by omega, by omega, hcs⟩, ?_⟩
  have hr : (rng 0 (1 + v2)).length ≤ 16777216 := by rw [rng_len]; omega
  have as : allStr (cs.map fun c => D.str [c]) = some (cs.map fun c => [c]) := by
    have := allStr_map (cs.map fun c => [c])
    rw [List.map_map] at this
    exact this
  have sm : (List.map ((fun x => x.length) ∘ fun c => [c]) cs).sum = cs.length := by
    clear as a1 a3 hcs a2
    induction cs with
    | nil => rfl
    | cons c cs ih => simp only [List.map_cons, List.sum_cons, List.length_cons, Function.comp] at ih ⊢; rw [ih]; simp; omega
  have lc : cs.length ≤ 16777216 := by omega
  simp at e1 e2
  simp [e1, hy, e2, r0, hr, a1, as, joinL_nil, flatten_one, lim]
  have sm' : (List.map ((fun x => x.length) ∘ fun c => [c]) cs).sum ≤ 16777216 := by omega
  rw [if_pos (by first | exact sm' | simpa using sm')]
  simp
theorem law_name_ex (p : Addr) (ns : List Int) {x : List Nat} (hl : x.length ≤ 200) (g : Gs) : ∃ (w : List Nat) (g' : Gs), wdOk w ∧ run__law_name p ns [.obj (.ref p), .str x] g = .ok (.fr (.str w)) g' := by
  have l1 : x.length ≤ 16777216 := by omega
  have rn := law_runs_eq (x := x) (by omega)
  show ∃ w g', wdOk w ∧ (sSeq _ _ [some (.fr (.obj (.ref p))), some (.fr (.str x)), none, none, none, none, none] g).out = _
  have nn := nil_ne (runs 0 false x)
  have s1 : ∀ {w g'} {R : Out Gs SV}, R = .ok (.fr (.str w)) g' → R = .ok (.fr (.str w)) g' := id
  by_cases he : runs 0 false x = []
  · obtain ⟨w, g', hw, e⟩ := name_tail p ns x (some (.ow (.lst (runsD x)))) none none g
    refine ⟨w, g', hw, ?_⟩
    refine run_step (sd' := [some (.fr (.obj (.ref p))), some (.fr (.str x)), some (.ow (.lst (runsD x))), none, none, none, none]) (g' := g) (by simp [rn]) ?_
    refine run_step (sd' := [some (.fr (.obj (.ref p))), some (.fr (.str x)), some (.ow (.lst (runsD x))), none, none, none, none]) (g' := g) ?_ e
    rw [he] at nn
    unfold runsD
    rw [he]
    simp at nn
    simp [nn]
  · have hne : (runs 0 false x).isEmpty = false := by
      cases h : runs 0 false x with
      | nil => exact absurd h he
      | cons => rfl
    rw [hne] at nn
    obtain ⟨v1, g1, h1, e1⟩ := draw_ex p ns 4 g (by omega) (by decide)
    simp at e1
    by_cases hv : v1 = 0
    · obtain ⟨w, g', hw, e⟩ := name_tail p ns x (some (.ow (.lst (runsD x)))) none none g1
      refine ⟨w, g', hw, ?_⟩
      refine run_step (sd' := [some (.fr (.obj (.ref p))), some (.fr (.str x)), some (.ow (.lst (runsD x))), none, none, none, none]) (g' := g) (by simp [rn]) ?_
      refine run_step (sd' := [some (.fr (.obj (.ref p))), some (.fr (.str x)), some (.ow (.lst (runsD x))), none, none, none, none]) (g' := g1) ?_ e
      unfold runsD
      simp at nn
      simp [nn, e1, hv]
    · have hv0 : 0 < v1 := by omega
      have hr0 : 0 < (runs 0 false x).length := List.length_pos_iff.mpr he
      have rl := runs_len x 0 false
      obtain ⟨v2, g2, h2, e2⟩ := draw_ex p ns (runs 0 false x).length g1 hr0 (by omega)
      obtain ⟨q, b1, b2⟩ := get_ex (l := runs 0 false x) (v := v2) h2
      have b3 : L2.atI ((runs 0 false x).map prD) (v2 : Int) = some (prD q) := atI_nat (by rw [List.getElem?_map, b1]; rfl)
      obtain ⟨m1, m2, m3, m4⟩ := runs_mem x 0 false q.1 q.2 b2
      obtain ⟨v3, g3, h3, e3⟩ := draw_ex p ns 2 g2 (by omega) (by decide)
      simp at e3
      have fin : ∀ g3, ∃ (w : List Nat) (g' : Gs), wdOk w ∧ fSlice (fSlice (fVar 1) (fSo (fVar 3)) (fSo (fVar 4))) (fNo) (fSo (fOp oAdd (toB (fC (.int 1))) (toB (fFn (drawR p ns) [fVar 0, fC (.int 8)])))) [some (.fr (.obj (.ref p))), some (.fr (.str x)), some (.ow (.lst ((runs 0 false x).map prD))), some (.fr (.int (q.1 : Int))), some (.fr (.int (q.2 : Int))), none, none] g3 = .ok (.fr (.str w)) g' := fun g3 => by
        obtain ⟨v4, g4, h4, e4⟩ := draw_ex p ns 8 g3 (by omega) (by decide)
        have cl := cutw_len (x := x) (s := q.1) (e := q.2) (by omega)
        refine ⟨(cutw x q.1 q.2).take (1 + v4), g4, ⟨by rw [List.length_take]; omega, by rw [List.length_take]; omega, fun c hc => ?_⟩, ?_⟩
        · have hc := List.mem_of_mem_take hc
          rw [Nat.sub_zero, Nat.sub_zero] at m4
          exact m4 c hc
        · have l9 : (cutw x q.1 q.2).length ≤ 16777216 := by omega
          have ev : (1 + (v4 : Int)) = ((1 + v4 : Nat) : Int) := by omega
          simp at e4
          have ct : ∀ xs : List Nat, cutL xs none (some (1 + (v4 : Int))) = xs.take (1 + v4) := fun xs => by rw [ev, cut_take]
          clear ev
          simp [l1, cut_two, e4, ct]
          have l8 : min q.2 x.length ≤ DL.lim + q.1 := by have : DL.lim = 16777216 := rfl; omega
          simp [l8, cutw]
      by_cases hc : ((q.2 : Int) - (q.1 : Int) < 9)
      · obtain ⟨w, g', hw, e⟩ := fin g2
        refine ⟨w, g', hw, ?_⟩
        refine run_step (sd' := [some (.fr (.obj (.ref p))), some (.fr (.str x)), some (.ow (.lst ((runs 0 false x).map prD))), none, none, none, none]) (g' := g) (by simp [rn, runsD]) ?_
        have : sIf (gAnd (asB (fOp oNe (toB (fVar 2)) (toB (fLst [])))) (asB (fOp oGt (toB (fFn (drawR p ns) [fVar 0, fC (.int 4)])) (toB (fC (.int 0)))))) (sSeq (sAsg (gTp (gCo (gNm 3) (gCo (gNm 4) (gNo)))) (fOp oIx (toB (fVar 2)) (toB (fFn (drawR p ns) [fVar 0, fCall cLen [fVar 2]])))) (sIf (gOr (asB (fOp oLt (toB (fOp oSub (toB (fVar 4)) (toB (fVar 3)))) (toB (fC (.int 9))))) (asB (fOp oEq (toB (fFn (drawR p ns) [fVar 0, fC (.int 2)])) (toB (fC (.int 0)))))) (sRet (fSlice (fSlice (fVar 1) (fSo (fVar 3)) (fSo (fVar 4))) (fNo) (fSo (fOp oAdd (toB (fC (.int 1))) (toB (fFn (drawR p ns) [fVar 0, fC (.int 8)])))))) (sNx))) (sNx) [some (.fr (.obj (.ref p))), some (.fr (.str x)), some (.ow (.lst ((runs 0 false x).map prD))), none, none, none, none] g = .rt (.fr (.str w)) g' := by
          rw [e_sif]
          simp at nn
          simp [nn, e1, hv0, e2, b3, prD, hc, -e_slice]
          simp [prD] at e
          simp [e]
        rw [e_seq, this]
        rfl
      · by_cases h0 : v3 = 0
        · obtain ⟨w, g', hw, e⟩ := fin g3
          refine ⟨w, g', hw, ?_⟩
          refine run_step (sd' := [some (.fr (.obj (.ref p))), some (.fr (.str x)), some (.ow (.lst ((runs 0 false x).map prD))), none, none, none, none]) (g' := g) (by simp [rn, runsD]) ?_
          have : sIf (gAnd (asB (fOp oNe (toB (fVar 2)) (toB (fLst [])))) (asB (fOp oGt (toB (fFn (drawR p ns) [fVar 0, fC (.int 4)])) (toB (fC (.int 0)))))) (sSeq (sAsg (gTp (gCo (gNm 3) (gCo (gNm 4) (gNo)))) (fOp oIx (toB (fVar 2)) (toB (fFn (drawR p ns) [fVar 0, fCall cLen [fVar 2]])))) (sIf (gOr (asB (fOp oLt (toB (fOp oSub (toB (fVar 4)) (toB (fVar 3)))) (toB (fC (.int 9))))) (asB (fOp oEq (toB (fFn (drawR p ns) [fVar 0, fC (.int 2)])) (toB (fC (.int 0)))))) (sRet (fSlice (fSlice (fVar 1) (fSo (fVar 3)) (fSo (fVar 4))) (fNo) (fSo (fOp oAdd (toB (fC (.int 1))) (toB (fFn (drawR p ns) [fVar 0, fC (.int 8)])))))) (sNx))) (sNx) [some (.fr (.obj (.ref p))), some (.fr (.str x)), some (.ow (.lst ((runs 0 false x).map prD))), none, none, none, none] g = .rt (.fr (.str w)) g' := by
            rw [e_sif]
            simp at nn
            simp [nn, e1, hv0, e2, b3, prD, hc, e3, h0, -e_slice]
            simp [prD] at e
            simp [e]
          rw [e_seq, this]
          rfl
        · obtain ⟨w, g', hw, e⟩ := name_tail p ns x (some (.ow (.lst ((runs 0 false x).map prD)))) (some (.fr (.int (q.1 : Int)))) (some (.fr (.int (q.2 : Int)))) g3
          refine ⟨w, g', hw, ?_⟩
          refine run_step (sd' := [some (.fr (.obj (.ref p))), some (.fr (.str x)), some (.ow (.lst ((runs 0 false x).map prD))), none, none, none, none]) (g' := g) (by simp [rn, runsD]) ?_
          refine run_step (sd' := [some (.fr (.obj (.ref p))), some (.fr (.str x)), some (.ow (.lst ((runs 0 false x).map prD))), some (.fr (.int (q.1 : Int))), some (.fr (.int (q.2 : Int))), none, none]) (g' := g3) ?_ e
          simp at nn
          simp [nn, e1, hv0, e2, b3, prD, hc, e3, h0]
theorem law_want_ex (p : Addr) (ns : List Int) {x : List Nat} (hx : chs x = true) (hl : x.length ≤ 200) (g : Gs) : ∃ (W : Wt) (g' : Gs), OkW x W ∧ run__law_want p ns [.obj (.ref p), .str x] g = .ok (.fr (wtD x W)) g' := by
  have l1 : x.length ≤ 16777216 := by omega
  obtain ⟨n, g1, h1, e1⟩ := draw_ex p ns (x.length + 1) g (by omega) (by omega)
  obtain ⟨w, g2, hw, e2⟩ := law_name_ex p ns hl g1
  obtain ⟨v, g3, h3, e3⟩ := draw_ex p ns 4 g2 (by omega) (by decide)
  have pa := law_at_eq (x := x) (n := n) hx (by omega) (by omega)
  obtain ⟨W, hW, hi⟩ : ∃ W : Wt, OkW x W ∧ L2.atI [D.tup [.str [102, 105, 110, 100], .str w], .tup [.str [114, 111, 119, 115], .str w], .tup [.str [119, 111, 114, 100], plD x n], .tup [.str [114, 101, 110, 97, 109, 101], plD x n, .str w]] (v : Int) = some (wtD x W) := by
    rcases (show v = 0 ∨ v = 1 ∨ v = 2 ∨ v = 3 by omega) with rfl | rfl | rfl | rfl
    · exact ⟨.find w, hw, rfl⟩
    · exact ⟨.rows w, hw, rfl⟩
    · exact ⟨.word n, by show n ≤ _; omega, rfl⟩
    · exact ⟨.ren n w, ⟨by omega, hw⟩, rfl⟩
  refine ⟨W, g3, hW, ?_⟩
  rw [Int.natCast_add] at e1
  unfold run__law_want f__law_want
  simp at e1 e3
  simp [l1, e1, pa, e2, e3, frz, hi]
end HW
namespace DL
open PySem PySem.Spec PyProof.Rows L2
def Rts {G : Type} (x : SV) (o : OutS G) : Prop := ∃ g, o = .rt x g
def Nxs {G : Type} (P : DSt → G → Prop) (o : OutS G) : Prop := ∃ sd g, (o = .nx sd g ∨ o = .ct sd g) ∧ P sd g
section
variable {G : Type} {f k : DSt → G → OutS G} {sd sd' : DSt} {g g' g1 : G} {R : OutS G → Prop}
theorem sq (h : f sd g = .nx sd' g') (h2 : R (k sd' g')) : R (sSeq f k sd g) := by
  rw [e_seq, h]
  exact h2
theorem forGo_nx {gf : D → DSt → Option DSt} {body : DSt → G → OutS G} {ds : List D} (P : List D → DSt → G → Prop) (h0 : P ds sd g)
    (hs : ∀ d r sd g, (∃ l, ds = l ++ d :: r) → P (d :: r) sd g → ∃ sd', gf d sd = some sd' ∧ Nxs (P r) (body sd' g)) : ∃ sd' g', forGo gf body ds sd g = .nx sd' g' ∧ P [] sd' g' :=
  forGo_inv (gf := gf) (body := body) P ds sd g h0 fun d r sd g hl hp => by
    obtain ⟨sd', a, sd2, g2, b, c⟩ := hs d r sd g hl hp
    exact ⟨sd', a, sd2, g2, b, c⟩
theorem sq_for {fi : DSt → G → Out G (List D)} {gf : D → DSt → Option DSt} {body : DSt → G → OutS G} {ds : List D} (P : List D → DSt → G → Prop) (h : fi sd g = .ok ds g1) (h0 : P ds sd g1)
    (hs : ∀ d r sd g, (∃ l, ds = l ++ d :: r) → P (d :: r) sd g → ∃ sd', gf d sd = some sd' ∧ Nxs (P r) (body sd' g)) (hk : ∀ sd' g', P [] sd' g' → R (k sd' g')) : R (sSeq (sFor fi gf body) k sd g) := by
  obtain ⟨sd', g', h1, h2⟩ := forGo_nx (gf := gf) (body := body) P h0 hs
  refine sq (sd' := sd') (g' := g') ?_ (hk sd' g' h2)
  rw [e_for, h]
  exact h1
/-- a loop that ends a body -/
theorem nx_for {Q : DSt → G → Prop} {fi : DSt → G → Out G (List D)} {gf : D → DSt → Option DSt} {body : DSt → G → OutS G} {ds : List D} (P : List D → DSt → G → Prop) (h : fi sd g = .ok ds g1) (h0 : P ds sd g1)
    (hs : ∀ d r sd g, (∃ l, ds = l ++ d :: r) → P (d :: r) sd g → ∃ sd', gf d sd = some sd' ∧ Nxs (P r) (body sd' g)) (hk : ∀ sd' g', P [] sd' g' → Q sd' g') : Nxs Q (sFor fi gf body sd g) := by
  obtain ⟨sd', g', h1, h2⟩ := forGo_nx (gf := gf) (body := body) P h0 hs
  refine ⟨sd', g', .inl ?_, hk _ _ h2⟩
  rw [e_for, h]
  exact h1
theorem sq_forF {i : Nat} {fi : DSt → G → Out G (List D)} {gf : D → DSt → Option DSt} {body : DSt → G → OutS G} {ds : List D} (P : List D → DSt → G → Prop) (h : fi (frz i sd) g = .ok ds g1) (h0 : P ds (frz i sd) g1)
    (hs : ∀ d r sd g, (∃ l, ds = l ++ d :: r) → P (d :: r) sd g → ∃ sd', gf d sd = some sd' ∧ Nxs (P r) (body sd' g)) (hk : ∀ sd' g', P [] sd' g' → R (k sd' g')) : R (sSeq (sFrz i (sFor fi gf body)) k sd g) :=
  sq_for (sd := frz i sd) P h h0 hs hk
theorem nx_end {P : DSt → G → Prop} (h : f sd g = .nx sd' g') (h2 : P sd' g') : Nxs P (f sd g) := ⟨sd', g', .inl h, h2⟩
end
section
variable {G : Type} (sd : DSt) (g : G)
@[simp] theorem e_fnL (run : List D → Unit → Out Unit SV) (fs : List (DSt → G → Out G SV)) : fFnL run fs sd g = (lArgs (fs.map toB) sd g).bind fun ds g1 => lentR run ds g1 := id rfl
@[simp] theorem e_rng3 (fs : List (DSt → G → Out G SV)) : fRng3 fs sd g = (lArgs (fs.map toB) sd g).bind fun ds g1 => Out.lift (rgB3 ds) g1 := id rfl
theorem lentR_bl {run : List D → Unit → Out Unit SV} {ds : List D} {b : Bool} (h : run ds () = .ok (.fr (.bl b)) ()) : lentR run ds g = .ok (.fr (.bl b)) g := by
  unfold lentR
  rw [h]
  rfl
end
theorem rgB3_up {j c : Nat} (h1 : j ≤ 1000000) (h2 : 0 < c) (h3 : c ≤ 1000000) : ∃ l : List Nat, rgB3 [.int 0, .int (j : Int), .int (c : Int)] = some (l.map fun (k : Nat) => .int (k : Int)) ∧ (∀ k ∈ l, k < j) ∧ l.Nodup := by
  have e : rgB3 [.int 0, .int (j : Int), .int (c : Int)] = some (rngC 0 (c : Int) (Builtin.Range.rangeSize 0 (j : Int) (c : Int)).toNat) := if_pos (by omega)
  refine ⟨(List.range (Builtin.Range.rangeSize 0 (j : Int) (c : Int)).toNat).map fun i => i * c, ?_, fun k hk => ?_, ?_⟩
  · rw [e]
    unfold rngC
    rw [List.map_map]
    congr 1
    apply List.map_congr_left
    intro i _
    simp
  · obtain ⟨i, hi, rfl⟩ := List.mem_map.mp hk
    rw [List.mem_range] at hi
    unfold Builtin.Range.rangeSize at hi
    rw [if_pos (by omega)] at hi
    split at hi
    · rename_i h0
      have h4 : (i : Int) ≤ ((j : Int) - 0 - 1) / (c : Int) := by omega
      have h5 : (i : Int) * (c : Int) ≤ (j : Int) - 0 - 1 := by
        have := Int.mul_le_mul_of_nonneg_right h4 (show (0 : Int) ≤ (c : Int) by omega)
        have q := Int.ediv_mul_le ((j : Int) - 0 - 1) (show (c : Int) ≠ 0 by omega)
        omega
      have h6 : ((i * c : Nat) : Int) = (i : Int) * (c : Int) := Int.natCast_mul i c
      omega
    · simp at hi
  · rw [List.nodup_iff_pairwise_ne, List.pairwise_map]
    refine List.Pairwise.imp ?_ (List.nodup_iff_pairwise_ne.mp List.nodup_range)
    intro a b h z
    exact h (Nat.eq_of_mul_eq_mul_right h2 z)
end DL
/-! HR: steps written and read: quoting -/
namespace DL
open PySem PySem.Spec PyProof.Rows L2
section
variable {G : Type} (sd : DSt) (g : G) (fa fb fc : DSt → G → Out G SV)
@[simp] theorem e_tin (n : Bool) (kvs : List (List Nat × List Nat)) : fTIn n kvs fa sd g = (toB fa sd g).bind fun x g1 => match x with
  | .str z => .ok (.fr (.bl (xor n (tbl kvs z).isSome))) g1
  | _ => .bad := id rfl
@[simp] theorem e_tget (kvs : List (List Nat × List Nat)) : fTGet kvs fa sd g = (toB fa sd g).bind fun x g1 => match x with
  | .str z => (match tbl kvs z with
    | some v => .ok (.fr (.str v)) g1
    | none => .bad)
  | _ => .bad := id rfl
@[simp] theorem e_kin (xs : List (List Nat)) : fKIn xs fa sd g = (toB fa sd g).bind fun x g1 => match x with
  | .str z => .ok (.fr (.bl (xs.any fun y => decide (y = z)))) g1
  | _ => .bad := id rfl
@[simp] theorem e_tkeys (kvs : List (List Nat × List Nat)) : fTKeys kvs sd g = .ok (kdKeys kvs) g := id rfl
@[simp] theorem e_dsp (kvs : List (List Nat × List Nat)) : fDsp kvs sd g = .ok (.ow (.dk (kvD kvs))) g := id rfl
@[simp] theorem e_get2 : fDGet2 fa fb fc sd g = (toB fa sd g).bind fun x g1 => if isDk x = true then (toB fb sd g1).bind fun y g2 => (toD fc sd g2).bind fun z g3 => match DL.getD x y with
  | some (some d) => .ok (.fr d) g3
  | some none => .ok (.fr z) g3
  | none => .bad
  else .bad := id rfl
@[simp] theorem e_ext (i : Nat) : sExt i fa sd g = (match ownL i sd with
  | some ds => OutS.of sd (toB fa sd g) fun d g1 => match d with
    | .lst es => if ds.length + es.length ≤ lim then .nx (sd.set i (some (.ow (.lst (ds ++ es))))) g1 else .bad
    | _ => .bad
  | none => .bad) := id rfl
@[simp] theorem e_appE : sAppE fa fb sd g = OutS.of sd (fa sd g) fun x g1 => match x with
  | .ow (.lst ds) => OutS.of sd (toD fb sd g1) fun _ g2 => if ds.length < lim then .nx sd g2 else .bad
  | _ => .bad := id rfl
@[simp] theorem e_zipT : fZip true fa fb sd g = (toB fa sd g).bind fun d g1 => (toB fb sd g1).bind fun d2 g2 => Out.lift (zipB d d2) g2 := by
  unfold fZip toK
  simp
  cases fa sd g with
  | ok x g1 =>
    simp
    cases fb sd g1 <;> rfl
  | er => rfl
  | bad => rfl
@[simp] theorem zipB_eq (ds : List D) (x : List Nat) : zipB (.lst ds) (.str x) = some (zipF ds (signs x)) := id rfl
@[simp] theorem cTup_l (x : List D) : cTup [.lst x] = some (.fr (.tup x)) := id rfl
@[simp] theorem cTup_t (x : List D) : cTup [.tup x] = some (.fr (.tup x)) := id rfl
@[simp] theorem cStrA_s (x : List Nat) : cStrA [.str x] = some (.fr (.str x)) := id rfl
end
theorem forGo_step {G : Type} {gf : D → DSt → Option DSt} {body : DSt → G → OutS G} {d : D} {r : List D} {sd sd' s2 : DSt} {g g2 : G} (h1 : gf d sd = some sd') (h2 : body sd' g = .nx s2 g2) : forGo gf body (d :: r) sd g = forGo gf body r s2 g2 := by
  rw [forGo, h1]
  dsimp only
  rw [h2]
theorem cStr_n {n : Nat} (h : n < 1000000) : cStr [.int (n : Int)] = some (.fr (.str (TL.numL n))) := by
  show (@ite _ (0 ≤ (n : Int) ∧ (n : Int) < 10 ^ 9) (Classical.propDecidable _) _ _) = _
  rw [if_pos (by omega)]
  rfl
theorem cStrA_n {n : Nat} (h : n < 1000000) : cStrA [.int (n : Int)] = some (.fr (.str (TL.numL n))) := cStr_n h
end DL
namespace PM
open DL
/-! ### quoted -/
def qs (c : Nat) : List Nat := if c = 32 then [126, 95] else if c = 10 then [126, 47] else if c = 126 then [126, 126] else [c]
def qF (x : List Nat) : List Nat := (x.map qs).flatten
def qL (x : List Nat) : List Nat := if x = [] then [126, 46] else qF x
def SG : List (List Nat × List Nat) := [([32], [95]), ([10], [47]), ([126], [126])]
def SG2 : List (List Nat × List Nat) := [([32], [126, 95]), ([10], [126, 47]), ([126], [126, 126])]
theorem qs_len (c : Nat) : 1 ≤ (qs c).length ∧ (qs c).length ≤ 2 := by
  unfold qs
  split
  · simp
  · split
    · simp
    · split <;> simp
theorem qF_nil : qF [] = [] := rfl
theorem qF_cons (c : Nat) (x : List Nat) : qF (c :: x) = qs c ++ qF x := rfl
theorem qF_app (x y : List Nat) : qF (x ++ y) = qF x ++ qF y := by unfold qF; rw [List.map_append, List.flatten_append]
theorem qF_len : ∀ x : List Nat, x.length ≤ (qF x).length ∧ (qF x).length ≤ 2 * x.length
  | [] => ⟨Nat.le_refl _, Nat.le_refl _⟩
  | c :: x => by
    have a := qs_len c
    have b := qF_len x
    rw [qF_cons, List.length_append, List.length_cons]
    omega
theorem qL_len (x : List Nat) : 1 ≤ (qL x).length ∧ (qL x).length ≤ 2 * x.length + 2 := by
  unfold qL
  split
  · simp
  · rename_i h
    have b := qF_len x
    have : 1 ≤ x.length := by
      cases x with
      | nil => exact absurd rfl h
      | cons => simp
    omega
/-- signs that are not at the row's, the word's end -/
def wch (c : Nat) : Bool := c != 32 && c != 10 && decide (c < 1114112)
theorem qs_wch {c : Nat} (h : c < 1114112) : ∀ d ∈ qs c, wch d = true := by
  unfold qs
  split
  · decide
  · split
    · decide
    · split
      · decide
      · intro d hd
        rw [List.mem_singleton] at hd
        subst hd
        simp [wch, *]
theorem qL_wch {x : List Nat} (h : DL.chs x = true) : ∀ d ∈ qL x, wch d = true := by
  unfold qL
  split
  · decide
  · intro d hd
    obtain ⟨l, hl, hd⟩ := List.mem_flatten.mp hd
    obtain ⟨c, hc, rfl⟩ := List.mem_map.mp hl
    have h' := List.all_eq_true.mp h c hc
    exact qs_wch (of_decide_eq_true h') d hd
theorem wch_chs {x : List Nat} (h : ∀ d ∈ x, wch d = true) : DL.chs x = true := by
  unfold DL.chs
  rw [List.all_eq_true]
  intro d hd
  have := h d hd
  simp [wch] at this
  simp [this]
theorem tbl_SG (c : Nat) : tbl SG [c] = if c = 32 then some [95] else if c = 10 then some [47] else if c = 126 then some [126] else none := by
  unfold tbl SG
  by_cases h1 : c = 32
  · subst h1; rfl
  · by_cases h2 : c = 10
    · subst h2; rfl
    · by_cases h3 : c = 126
      · subst h3; rfl
      · have e1 : ([32] : List Nat) ≠ [c] := by intro z; cases z; exact h1 rfl
        have e2 : ([10] : List Nat) ≠ [c] := by intro z; cases z; exact h2 rfl
        have e3 : ([126] : List Nat) ≠ [c] := by intro z; cases z; exact h3 rfl
        simp [List.find?_cons, h1, h2, h3, Ne.symm h1, Ne.symm h2, Ne.symm h3]
end PM
namespace HW
open PySem PySem.Spec PyProof.Rows L2 DL PM
theorem tbl_some (c : Nat) : (tbl SG [c]).isSome = (decide (c = 32) || decide (c = 10) || decide (c = 126)) := by
  rw [tbl_SG]
  by_cases h1 : c = 32
  · simp [h1]
  · by_cases h2 : c = 10
    · simp [h2]
    · by_cases h3 : c = 126
      · simp [h3]
      · simp [h1, h2, h3]
theorem quoted_eq {x : List Nat} (hx : chs x = true) (hl : x.length ≤ 10000) : run_quoted [.str x] () = .ok (.fr (.str (qL x))) () := by
  have e0 := oEq_str hx (y := []) rfl
  have r0 : 0 ≤ DL.lim := by decide
  by_cases h : x = []
  · subst h
    simp [run_quoted, f_quoted, e0, qL, lim]
  · have lc : lcGo (gNm 1) gYes (fIf (asB (fTIn false SG (fVar 1))) (fOp oAdd (toB (fC (.str [126]))) (toB (fTGet SG (fVar 1)))) (fVar 1)) [some (.fr (.str x)), none] (DL.signs x) () = .ok ((x.map qs).map D.str) () := by
      rw [lcGo_map (fun d => match d with | .str [c] => .str (qs c) | d => d) (DL.signs x) fun d hd => by
        obtain ⟨c, hc, rfl⟩ := List.mem_map.mp hd
        refine ⟨_, rfl, .fr (.str (qs c)), ?_, rfl⟩
        have ts := tbl_some c
        have tg := tbl_SG c
        by_cases h1 : c = 32
        · subst h1
          simp [tg, qs, lim]
        · by_cases h2 : c = 10
          · subst h2
            simp [tg, qs, lim]
          · by_cases h3 : c = 126
            · subst h3
              simp [tg, qs, lim]
            · simp [tg, qs, h1, h2, h3]]
      rw [DL.signs, List.map_map, List.map_map]
      rfl
    have fl := qF_len x
    have sm : ((x.map qs).map (·.length)).sum = (qF x).length := by
      unfold qF
      rw [List.length_flatten]
    have sl : (DL.signs x).length ≤ DL.lim := by rw [DL.signs, List.length_map]; show _ ≤ 16777216; omega
    have q : (x == []) = false := by simp [h]
    have jn : mJoin [] (.lst ((x.map qs).map D.str)) = some (.fr (.str (qL x))) := by
      rw [mJoin_lst, DL.allStr_map]
      show (if _ then _ else _) = _
      rw [sm, if_pos (by show _ ≤ 16777216; simp; omega), joinL_nil]
      unfold qL
      rw [if_neg h]
      rfl
    unfold run_quoted f_quoted
    rw [e_run]
    refine run_step (sd' := [some (.fr (.str x)), none]) (g' := ()) (by simp [e0, q]) ?_
    have lc' := lc
    unfold SG at lc'
    rw [List.map_map] at lc' jn
    simp [lc', sl, jn, -mJoin_lst]
theorem get_SG2 (c : Nat) : DL.getD (.dk (kvD SG2)) (.str [c]) = some (if c = 32 then some (.str [126, 95]) else if c = 10 then some (.str [126, 47]) else if c = 126 then some (.str [126, 126]) else none) := by
  by_cases h1 : c = 32
  · subst h1; rfl
  · by_cases h2 : c = 10
    · subst h2; rfl
    · by_cases h3 : c = 126
      · subst h3; rfl
      · rw [if_neg h1, if_neg h2, if_neg h3]
        have n1 : mk [32] ≠ mk [c] := fun z => h1 (by have := congrArg (fun s : Str => s.cps.toList) z; simpa using this.symm)
        have n2 : mk [10] ≠ mk [c] := fun z => h2 (by have := congrArg (fun s : Str => s.cps.toList) z; simpa using this.symm)
        have n3 : mk [126] ≠ mk [c] := fun z => h3 (by have := congrArg (fun s : Str => s.cps.toList) z; simpa using this.symm)
        show some (valD (kvD SG2) (.inr (mk [c]))) = some none
        congr 1
        show (List.find? _ [((.inr (mk [32]) : Key), D.str [126, 95]), (.inr (mk [10]), .str [126, 47]), (.inr (mk [126]), .str [126, 126])]).map _ = none
        have m1 : ¬ ((.inr (mk [32]) : Key) = .inr (mk [c])) := fun z => n1 (Sum.inr.inj z)
        have m2 : ¬ ((.inr (mk [10]) : Key) = .inr (mk [c])) := fun z => n2 (Sum.inr.inj z)
        have m3 : ¬ ((.inr (mk [126]) : Key) = .inr (mk [c])) := fun z => n3 (Sum.inr.inj z)
        rw [List.find?_cons_of_neg (by simpa using m1), List.find?_cons_of_neg (by simpa using m2), List.find?_cons_of_neg (by simpa using m3)]
        rfl
theorem law_quoted_eq {x : List Nat} (hx : chs x = true) (hl : x.length ≤ 10000) : run__law_quoted [.str x] () = .ok (.fr (.str (qL x))) () := by
  have key : ∀ (r y : List Nat), (∃ l, x = l ++ r ∧ y = qF l) → ∀ s2, ∃ s2', forGo (gNm 2) (sSet 1 (fOp oAdd (toB (fVar 1)) (toB (fDGet2 (fDsp SG2) (fVar 2) (fVar 2))))) (DL.signs r) [some (.fr (.str x)), some (.fr (.str y)), s2] () = .nx [some (.fr (.str x)), some (.fr (.str (qF x))), s2'] () := by
    intro r
    induction r with
    | nil =>
      rintro y ⟨l, e1, e2⟩ s2
      rw [List.append_nil] at e1
      subst e1 e2
      exact ⟨s2, rfl⟩
    | cons c r ih =>
      rintro y ⟨l, e1, e2⟩ s2
      have ll := qF_len l
      have lx : l.length + r.length + 1 = x.length := by rw [e1]; simp; omega
      have yl : y.length ≤ 20000 := by rw [e2]; omega
      obtain ⟨s2', h⟩ := ih (y ++ qs c) ⟨l ++ [c], by rw [e1]; simp, by rw [e2, qF_app]; simp [qF]⟩ (some (.fr (.str [c])))
      refine ⟨s2', ?_⟩
      have gs := get_SG2 c
      have st : sSet 1 (fOp oAdd (toB (fVar 1)) (toB (fDGet2 (fDsp SG2) (fVar 2) (fVar 2)))) [some (.fr (.str x)), some (.fr (.str y)), some (.fr (.str [c]))] () = (.nx [some (.fr (.str x)), some (.fr (.str (y ++ qs c))), some (.fr (.str [c]))] () : OutS Unit) := by
        have z1 : y.length + 2 ≤ 16777216 := by omega
        have z2 : y.length + 1 ≤ 16777216 := by omega
        by_cases h1 : c = 32
        · subst h1
          simp at gs
          simp [gs, isDk, lim, qs, z1]
        · by_cases h2 : c = 10
          · subst h2
            simp at gs
            simp [gs, isDk, lim, qs, z1]
          · by_cases h3 : c = 126
            · subst h3
              simp at gs
              simp [gs, isDk, lim, qs, z1]
            · simp [h1, h2, h3] at gs
              simp [gs, isDk, lim, qs, h1, h2, h3, z2]
      show forGo _ _ (.str [c] :: DL.signs r) _ () = _
      rw [forGo_step (sd' := [some (.fr (.str x)), some (.fr (.str y)), some (.fr (.str [c]))]) rfl st]
      exact h
  obtain ⟨s2', h⟩ := key x [] ⟨[], rfl, rfl⟩ none
  have e0 := oNe_str hx (y := []) rfl
  unfold run__law_quoted f__law_quoted
  rw [e_run]
  refine run_step (sd' := [some (.fr (.str x)), some (.fr (.str [])), none]) (g' := ()) (by simp) ?_
  refine run_step (sd' := [some (.fr (.str x)), some (.fr (.str (qF x))), s2']) (g' := ()) (by unfold SG2 at h; simp [h]) ?_
  by_cases hn : x = []
  · subst hn
    simp [e0, qL]
  · have q : (x == []) = false := by simp [hn]
    simp [e0, q, qL, hn]
end HW
/-! HR2: texts, numbers read back -/
namespace HW
open PySem PySem.Spec PyProof.Rows L2 DL PM
theorem numL_wch (n : Nat) : ∀ d ∈ TL.numL n, wch d = true ∧ 48 ≤ d ∧ d ≤ 57 := fun d hd => by
  have r := TL.numL_digits n d hd
  refine ⟨?_, r.1, r.2⟩
  simp [wch]
  omega
theorem numL_chs (n : Nat) : chs (TL.numL n) = true := wch_chs fun d hd => (numL_wch n d hd).1
theorem numL_len {n : Nat} (h : n < 1000) : 1 ≤ (TL.numL n).length ∧ (TL.numL n).length ≤ 3 := by
  refine ⟨?_, TL.numL_len (by decide) h⟩
  cases e : TL.numL n with
  | nil => exact absurd e (TL.numL_ne n)
  | cons => simp
theorem numL_head : ∀ n : Nat, n < 1000 → (TL.numL n == [48]) = true ∨ ∃ c r, TL.numL n = c :: r ∧ c ≠ 48 := fun n h => by
  by_cases h1 : n < 10
  · rw [TL.numL_lt h1]
    by_cases h0 : n = 0
    · subst h0; exact .inl rfl
    · exact .inr ⟨_, _, rfl, by omega⟩
  · rw [TL.numL_step (by omega)]
    by_cases h2 : n < 100
    · rw [TL.numL_lt (show n / 10 < 10 by omega)]
      exact .inr ⟨_, _, rfl, by omega⟩
    · rw [TL.numL_step (show 10 ≤ n / 10 by omega), TL.numL_lt (show n / 10 / 10 < 10 by omega)]
      exact .inr ⟨_, _, rfl, by omega⟩
theorem intText_num {n : Nat} (h : n < 1000) : intText? (mk (TL.numL n)) = some (n : Int) := by
  have e := PySem.intText_digits (x := mk (TL.numL n)) (TL.numL_digits n) (TL.numL_ne n) (by have := (numL_len h).2; rw [len_mk]; omega)
  have e2 : NumText.digitsVal (mk (TL.numL n)).cps.toList = n := TL.numL_val n
  rw [e2] at e
  exact e
def FIG : List Nat := [48, 49, 50, 51, 52, 53, 54, 55, 56, 57]
theorem notIn_fig {c : Nat} (h : 48 ≤ c ∧ c ≤ 57) : oNotIn (.str [c]) (.str FIG) = some (.fr (.bl false)) := by
  have : c = 48 ∨ c = 49 ∨ c = 50 ∨ c = 51 ∨ c = 52 ∨ c = 53 ∨ c = 54 ∨ c = 55 ∨ c = 56 ∨ c = 57 := by omega
  rcases this with rfl | rfl | rfl | rfl | rfl | rfl | rfl | rfl | rfl | rfl <;> rfl
theorem number_of_num {n : Nat} (h : n < 1000) : run_number_of_2 [.str (TL.numL n)] () = .ok (.fr (.int (n : Int))) () := by
  obtain ⟨l1, l2⟩ := numL_len h
  have ll : (TL.numL n).length ≤ DL.lim := by show _ ≤ 16777216; omega
  have lc : lcGo (gNm 1) (asB (fOp oNotIn (toB (fVar 1)) (toB (fC (.str FIG))))) (fVar 1) [some (.fr (.str (TL.numL n))), none] (DL.signs (TL.numL n)) () = .ok [] () := by
    rw [lcGo_filter (fun _ => false) id (DL.signs (TL.numL n)) fun d hd => by
      obtain ⟨c, hc, rfl⟩ := List.mem_map.mp hd
      have r := numL_wch n c hc
      refine ⟨_, rfl, ?_, fun z => nomatch z⟩
      have e := notIn_fig r.2
      simp [e]]
    simp
  have sl : (DL.signs (TL.numL n)).length ≤ DL.lim := by rw [DL.signs, List.length_map]; exact ll
  have nn : oNe (.lst []) (.lst []) = some (.fr (.bl false)) := oNe_self rfl
  have c1 : ((1 : Int) ≤ ((TL.numL n).length : Int)) := by omega
  have c2 : (((TL.numL n).length : Int) ≤ 3) := by omega
  have e0 := oEq_str (numL_chs n) (y := [48]) rfl
  have it := intText_num h
  have l640 : (TL.numL n).length ≤ 640 := by omega
  have ci : cInt [.str (TL.numL n)] = some (.fr (.int (n : Int))) := by
    show (if _ then _ else _) = _
    rw [if_pos l640, it]
    rfl
  unfold run_number_of_2 f_number_of_2
  rw [e_run]
  unfold FIG at lc
  refine run_step (sd' := [some (.fr (.str (TL.numL n))), none]) (g' := ()) (by simp [ll, c1, c2, lc, sl, nn]) ?_
  rcases numL_head n h with q | ⟨c, r, q, hc⟩
  · simp [e0, q, ci]
  · have a0 : L2.atI (TL.numL n) 0 = some c := by rw [q]; exact HW.atI_get (l := c :: r) (k := 0) (by simp)
    have e1 := oNe_str (x := [c]) (y := [48]) (wch_chs fun d hd => by
      have hd : d = c := by simpa using hd
      subst hd
      exact (numL_wch n d (by rw [q]; simp)).1) rfl
    have q2 : (TL.numL n == [48]) = false := by rw [q]; simp [hc]
    have q3 : (([c] : List Nat) == [48]) = false := by simp [hc]
    simp [e0, q2, ll, a0, e1, q3, ci]
/-! ### unquoted -/
def sgv (c : Nat) : D := match c with
  | c => .str [c]
def sgm (c : Nat) : List D := if c = 32 ∨ c = 10 ∨ c = 126 then [.str [c]] else []
theorem un_some {w : List Nat} (hw : chs w = true) (hl : w.length ≤ 100000) {k c : Nat} {r : List Nat} (h : w.drop k = qs c ++ r) (hc : c < 1114112) (s1 s3 s4 : Option SV) :
    lcGo (gNm 4) (asB (fOp oEq (toB (fSlice (fVar 0) (fSo (fVar 2)) (fSo (fOp oAdd (toB (fVar 2)) (toB (fC (.int 2))))))) (toB (fOp oAdd (toB (fC (.str [126]))) (toB (fTGet SG (fVar 4))))))) (fVar 4)
      [some (.fr (.str w)), s1, some (.fr (.int (k : Int))), s3, s4] (kdKeys SG) () = (.ok (sgm c) () : Out Unit (List D)) := by
  have lw : w.length ≤ DL.lim := by show _ ≤ 16777216; omega
  have cut : cutL w (some (k : Int)) (some ((k : Int) + 2)) = (w.drop k).take 2 := by
    have e : ((k : Int) + 2) = ((k + 2 : Nat) : Int) := by omega
    rw [e, cut_two, List.drop_take]
    congr 1
    omega
  have cc : chs ((w.drop k).take 2) = true := chs_take _ (chs_drop _ hw)
  have hit : ∀ b, ((w.drop k).take 2 == [126, b]) = decide (qs c = [126, b]) := fun b => by
    rw [h]
    unfold qs
    by_cases h1 : c = 32
    · by_cases hb : 95 = b
      · simp [h1, hb]
      · simp [h1, hb]
    · by_cases h2 : c = 10
      · by_cases hb : 47 = b
        · simp [h2, hb]
        · simp [h2, hb]
      · by_cases h3 : c = 126
        · subst h3
          by_cases hb : 126 = b
          · subst hb; rfl
          · simp [hb]
        · rw [if_neg h1, if_neg h2, if_neg h3]
          cases r with
          | nil => simp [h3]
          | cons d r => simp [h3]
  have q95 := oEq_str cc (y := [126, 95]) (by decide)
  have q47 := oEq_str cc (y := [126, 47]) (by decide)
  have q26 := oEq_str cc (y := [126, 126]) (by decide)
  rw [hit] at q95 q47 q26
  have t1 := tbl_SG 32
  have t2 := tbl_SG 10
  have t3 := tbl_SG 126
  simp at t1 t2 t3
  have e : kdKeys SG = [.str [32], .str [10], .str [126]] := rfl
  rw [e, lcGo_filter (fun d => match d with | .str [b] => decide (b = c) | _ => false) id _ fun d hd => by
    have hd : d = .str [32] ∨ d = .str [10] ∨ d = .str [126] := by simpa using hd
    refine ⟨_, rfl, ?_, fun _ => ⟨.fr d, by simp, rfl⟩⟩
    rcases hd with rfl | rfl | rfl
    · simp [lw, cut, t1, q95, lim]
      unfold qs
      by_cases h1 : c = 32
      · simp [h1]
      · have : ¬ 32 = c := fun z => h1 z.symm
        by_cases h2 : c = 10
        · simp [h2]
        · by_cases h3 : c = 126
          · simp [h3]
          · simp [h1, h2, h3, this]
    · simp [lw, cut, t2, q47, lim]
      unfold qs
      by_cases h1 : c = 32
      · simp [h1]
      · by_cases h2 : c = 10
        · simp [h2]
        · have : ¬ 10 = c := fun z => h2 z.symm
          by_cases h3 : c = 126
          · simp [h3]
          · simp [h1, h2, h3, this]
    · simp [lw, cut, t3, q26, lim]
      unfold qs
      by_cases h1 : c = 32
      · simp [h1]
      · by_cases h2 : c = 10
        · simp [h2]
        · by_cases h3 : c = 126
          · simp [h3]
          · have : ¬ 126 = c := fun z => h3 z.symm
            simp [h1, h2, h3, this]]
  unfold sgm
  by_cases h1 : c = 32
  · subst h1; rfl
  · by_cases h2 : c = 10
    · subst h2; rfl
    · by_cases h3 : c = 126
      · subst h3; rfl
      · have n1 : ¬ 32 = c := fun z => h1 z.symm
        have n2 : ¬ 10 = c := fun z => h2 z.symm
        have n3 : ¬ 126 = c := fun z => h3 z.symm
        simp [h1, h2, h3, n1, n2, n3]
theorem whGo_step {G : Type} {c : DSt → G → Out G Bool} {body : DSt → G → OutS G} {n : Nat} {sd s : DSt} {g g1 g2 : G} (hc : c sd g = .ok true g1) (hb : body sd g1 = .nx s g2) : whGo c body (n + 1) sd g = whGo c body n s g2 := by
  rw [whGo, hc, e_of_ok, if_pos rfl, hb]
theorem unquoted_eq {x : List Nat} (hx : chs x = true) (hl : x.length ≤ 400) : run_unquoted [.str (qL x)] () = .ok (.fr (.str x)) () := by
  have ql := qL_len x
  have qc : chs (qL x) = true := wch_chs (qL_wch hx)
  have e0 := oEq_str qc (y := [126, 46]) (by decide)
  by_cases hn : x = []
  · subst hn
    have : qL [] = [126, 46] := rfl
    rw [this] at e0 ⊢
    simp [run_unquoted, f_unquoted, e0, lim]
  · have eq : qL x = qF x := by unfold qL; rw [if_neg hn]
    rw [eq] at ql qc e0 ⊢
    have fl := qF_len x
    have ne : (qF x == [126, 46]) = false := by
      cases x with
      | nil => exact absurd rfl hn
      | cons c r =>
        rw [qF_cons]
        unfold qs
        by_cases h1 : c = 32
        · simp [h1]
        · by_cases h2 : c = 10
          · simp [h2]
          · by_cases h3 : c = 126
            · simp [h3]
            · simp [h1, h2, h3]
    have key : ∀ (r l : List Nat), x = l ++ r → ∀ (n : Nat), r.length < n → ∀ s3 s4, ∃ s3' s4', whGo (asB (fOp oLt (toB (fVar 2)) (toB (fCall cLen [fVar 0]))))
        (sSeq (sSet 3 (fLc [4] (fTKeys SG) (gNm 4) (asB (fOp oEq (toB (fSlice (fVar 0) (fSo (fVar 2)) (fSo (fOp oAdd (toB (fVar 2)) (toB (fC (.int 2))))))) (toB (fOp oAdd (toB (fC (.str [126]))) (toB (fTGet SG (fVar 4))))))) (fVar 4))) (sSeq (sIf (gAnd (asB (fOp oEq (toB (fOp oIx (toB (fVar 0)) (toB (fVar 2)))) (toB (fC (.str [126]))))) (asB (fOp oEq (toB (fVar 3)) (toB (fLst []))))) (sRet (fC .non)) (sNx)) (sSeq (sSet 1 (fOp oAdd (toB (fVar 1)) (toB (fIf (asB (fOp oNe (toB (fVar 3)) (toB (fLst [])))) (fOp oIx (toB (fVar 3)) (toB (fC (.int 0)))) (fOp oIx (toB (fVar 0)) (toB (fVar 2))))))) (sSet 2 (fOp oAdd (toB (fOp oAdd (toB (fVar 2)) (toB (fC (.int 1))))) (toB (fCall cLen [fVar 3])))))))
        n [some (.fr (.str (qF x))), some (.fr (.str l)), some (.fr (.int ((qF l).length : Nat))), s3, s4] () = .nx [some (.fr (.str (qF x))), some (.fr (.str x)), some (.fr (.int ((qF x).length : Nat))), s3', s4'] () := by
      have lq : (qF x).length ≤ DL.lim := by show _ ≤ 16777216; omega
      intro r
      induction r with
      | nil =>
        intro l e n hn s3 s4
        rw [List.append_nil] at e
        subst e
        cases n with
        | zero => omega
        | succ n =>
          refine ⟨s3, s4, ?_⟩
          unfold whGo
          simp [lq]
      | cons c r ih =>
        intro l e n hn s3 s4
        cases n with
        | zero => omega
        | succ n =>
          have hc : c < 1114112 := by
            have := List.all_eq_true.mp hx c (by rw [e]; simp)
            exact of_decide_eq_true this
          have ex : qF x = qF l ++ (qs c ++ qF r) := by rw [e, qF_app, qF_cons]
          have dr : (qF x).drop (qF l).length = qs c ++ qF r := by rw [ex, List.drop_left]
          have us := un_some qc (by omega) dr hc (some (.fr (.str l))) s3 none
          have cl := qs_len c
          have lt : (qF l).length < (qF x).length := by rw [ex, List.length_append, List.length_append]; omega
          have le : x.length = l.length + (r.length + 1) := by rw [e]; simp
          obtain ⟨s3', s4', h⟩ := ih (l ++ [c]) (by rw [e]; simp) n (by simp at hn; omega) (some (.ow (.lst (sgm c)))) s4
          refine ⟨s3', s4', ?_⟩
          have gt : (qF x)[(qF l).length]? = some ((qs c)[0]?.getD 0) := by
            rw [ex, List.getElem?_append_right (Nat.le_refl _), Nat.sub_self, List.getElem?_append_left (by omega)]
            cases e2 : qs c with
            | nil => rw [e2] at cl; simp at cl
            | cons a b => rfl
          have ga := HW.atI_nat gt
          have la : l.length + 1 ≤ DL.lim := by show _ ≤ 16777216; omega
          have dl : decide (((qF l).length : Int) < ((qF x).length : Int)) = true := by rw [decide_eq_true_eq]; omega
          have k3 : (3 : Nat) ≤ DL.lim := by decide
          have fm : (D.lst (sgm c)).fit = true := by
            unfold sgm
            split
            · rename_i z
              rcases z with rfl | rfl | rfl <;> decide
            · rfl
          have eqm : oEq (.lst (sgm c)) (.lst []) = some (.fr (.bl (sgm c).isEmpty)) := by rw [oEq_of fm rfl, eqv_nil]
          have nem : oNe (.lst (sgm c)) (.lst []) = some (.fr (.bl (!(sgm c).isEmpty))) := by rw [oNe_of fm rfl, eqv_nil]
          have hd : chs [(qs c)[0]?.getD 0] = true := by
            unfold qs
            split
            · decide
            · split
              · decide
              · split
                · decide
                · simp [chs, hc]
          have eq1 := oEq_str hd (y := [126]) (by decide)
          have qq : (qF (l ++ [c])).length = (qF l).length + (qs c).length := by rw [qF_app, List.length_append]; simp [qF]
          rw [qq] at h
          have sm : (sgm c).length + 1 = (qs c).length := by
            unfold sgm qs
            by_cases h1 : c = 32
            · simp [h1]
            · by_cases h2 : c = 10
              · simp [h2]
              · by_cases h3 : c = 126
                · simp [h3]
                · simp [h1, h2, h3]
          have nsp : (([(qs c)[0]?.getD 0] : List Nat) == [126]) = true → (sgm c).isEmpty = false := by
            unfold sgm qs
            by_cases h1 : c = 32
            · simp [h1]
            · by_cases h2 : c = 10
              · simp [h2]
              · by_cases h3 : c = 126
                · simp [h3]
                · simp [h1, h2, h3]
          have ls : (kdKeys SG).length ≤ DL.lim := by decide
          unfold SG at us ls h ⊢
          rw [whGo_step (g1 := ()) (s := [some (.fr (.str (qF x))), some (.fr (.str (l ++ [c]))), some (.fr (.int (((qF l).length + (qs c).length : Nat) : Int))), some (.ow (.lst (sgm c))), s4]) (g2 := ()) (by simp [lq, lt]) ?_]
          · exact h
          refine sq (R := fun o => o = _) (sd' := [some (.fr (.str (qF x))), some (.fr (.str l)), some (.fr (.int ((qF l).length : Nat))), some (.ow (.lst (sgm c))), s4]) (g' := ()) (by simp [us, ls]) ?_
          refine sq (R := fun o => o = _) (sd' := [some (.fr (.str (qF x))), some (.fr (.str l)), some (.fr (.int ((qF l).length : Nat))), some (.ow (.lst (sgm c))), s4]) (g' := ()) ?_ ?_
          · by_cases q : (([(qs c)[0]?.getD 0] : List Nat) == [126]) = true
            · have q2 := nsp q
              simp only [e_sif, e_gAnd, e_asB, e_op, e_toB, e_var, e_c, List.getElem?_cons_zero, List.getElem?_cons_succ, bind_ok, sv_fr, sv_bo, oIx_eq, oIxD_str, lq, if_true, ga, Option.map_some, lift_some, eq1, q, e_lst, List.map_nil, e_nil, sv_ow, eqm, q2, e_of_ok, e_nx, Bool.false_eq_true, if_false]
            · have q2 : (([(qs c)[0]?.getD 0] : List Nat) == [126]) = false := by simpa using q
              simp only [e_sif, e_gAnd, e_asB, e_op, e_toB, e_var, e_c, List.getElem?_cons_zero, List.getElem?_cons_succ, bind_ok, sv_fr, oIx_eq, oIxD_str, lq, if_true, ga, Option.map_some, lift_some, eq1, q2, e_of_ok, e_nx, Bool.false_eq_true, if_false]
          refine sq (R := fun o => o = _) (sd' := [some (.fr (.str (qF x))), some (.fr (.str (l ++ [c]))), some (.fr (.int ((qF l).length : Nat))), some (.ow (.lst (sgm c))), s4]) (g' := ()) ?_ ?_
          · by_cases q : c = 32 ∨ c = 10 ∨ c = 126
            · have e5 : sgm c = [.str [c]] := by unfold sgm; rw [if_pos q]
              rw [e5] at nem ⊢
              have a5 : L2.atI [D.str [c]] 0 = some (.str [c]) := rfl
              simp [nem, a5, la]
            · have e5 : sgm c = [] := by unfold sgm; rw [if_neg q]
              have e6 : (qs c)[0]?.getD 0 = c := by
                unfold qs
                have q1 : ¬ c = 32 := fun z => q (.inl z)
                have q2 : ¬ c = 10 := fun z => q (.inr (.inl z))
                have q3 : ¬ c = 126 := fun z => q (.inr (.inr z))
                simp [q1, q2, q3]
              rw [e6] at ga
              rw [e5] at nem ⊢
              simp [nem, lq, ga, la]
          have e7 : ((qF l).length : Int) + 1 + ((sgm c).length : Int) = (((qF l).length + (qs c).length : Nat) : Int) := by omega
          simp [e7, -Int.natCast_add]
    obtain ⟨s3', s4', h⟩ := key x [] rfl WH (by show _ < 1000; omega) none none
    have e9 := oNe_str hx (y := []) rfl
    have q9 : (x == []) = false := by simp [hn]
    unfold run_unquoted f_unquoted
    rw [e_run]
    refine run_step (sd' := [some (.fr (.str (qF x))), none, none, none, none]) (g' := ()) (by simp [e0, ne, lim]) ?_
    refine run_step (sd' := [some (.fr (.str (qF x))), some (.fr (.str [])), none, none, none]) (g' := ()) (by simp) ?_
    refine run_step (sd' := [some (.fr (.str (qF x))), some (.fr (.str [])), some (.fr (.int 0)), none, none]) (g' := ()) (by simp) ?_
    refine run_step (sd' := [some (.fr (.str (qF x))), some (.fr (.str x)), some (.fr (.int ((qF x).length : Nat))), s3', s4']) (g' := ()) h ?_
    simp [e9, q9]
end HW
/-! HR3: a step's words, read -/
namespace PM
open DL
/-- a part that is written: a number, a text -/
inductive Pt where
  | n (k : Nat)
  | t (x : List Nat)
def Pt.w : Pt → List Nat
  | .n k => TL.numL k
  | .t x => qL x
def Pt.s : Pt → Nat
  | .n _ => 110
  | .t _ => 116
def Pt.d : Pt → D
  | .n k => .int (k : Int)
  | .t x => .str x
def Pt.ok : Pt → Prop
  | .n k => k < 1000
  | .t x => DL.chs x = true ∧ x.length ≤ 300
end PM
namespace HW
open PySem PySem.Spec PyProof.Rows L2 DL PM
theorem cut1 {α : Type} (xs : List α) : cutL xs (some 1) none = xs.drop 1 := cut_drop xs 1
theorem cut2 {α : Type} (xs : List α) : cutL xs (some 2) none = xs.drop 2 := cut_drop xs 2
theorem cutT2 {α : Type} (xs : List α) : cutL xs none (some 2) = xs.take 2 := cut_take xs 2
theorem zip_parts (ps : List Pt) : zipF (ps.map fun p => .str p.w) (DL.signs (ps.map Pt.s)) = ps.map fun p => .tup [.str p.w, .str [p.s]] := by
  induction ps with
  | nil => rfl
  | cons p ps ih =>
    show D.tup [.str p.w, .str [p.s]] :: zipF (ps.map fun p => .str p.w) (DL.signs (ps.map Pt.s)) = _
    rw [ih]; rfl
theorem parts_of_eq {ps : List Pt} (hok : ∀ p ∈ ps, p.ok) (hl : ps.length ≤ 1000) : run_parts_of [.lst (ps.map fun p => .str p.w), .str (ps.map Pt.s)] () = .ok (.ow (.lst (ps.map Pt.d))) () := by
  have lm : (ps.map Pt.s).length ≤ DL.lim := by show _ ≤ 16777216; rw [List.length_map]; omega
  have l2 : (ps.map fun p => D.tup [.str p.w, .str [p.s]]).length ≤ DL.lim := by show _ ≤ 16777216; rw [List.length_map]; omega
  have lc : ∀ s2, lcGo (gTp (gCo (gNm 3) (gCo (gNm 4) (gNo)))) (gYes) (fIf (asB (fOp oEq (toB (fVar 4)) (toB (fC (.str [110]))))) (fFn (up0 run_number_of_2) [fVar 3]) (fFn (up0 run_unquoted) [fVar 3]))
      [some (.fr (.lst (ps.map fun p => .str p.w))), some (.fr (.str (ps.map Pt.s))), s2, none, none] (ps.map fun p => .tup [.str p.w, .str [p.s]]) () = (.ok (ps.map Pt.d) () : Out Unit (List D)) := fun s2 => by
    rw [lcGo_enc (fun p : Pt => D.tup [.str p.w, .str [p.s]]) (fun _ => true) Pt.d ps fun p hp => by
      have h := hok p hp
      cases p with
      | n k =>
        have e := number_of_num (n := k) h
        have q : oEq (.str [110]) (.str [110]) = some (.fr (.bl true)) := rfl
        exact ⟨_, rfl, rfl, fun _ => ⟨.fr (.int (k : Int)), by simp [Pt.s, Pt.w, q, e], rfl⟩⟩
      | t x =>
        have e := unquoted_eq (x := x) h.1 (by have := h.2; omega)
        have q : oEq (.str [116]) (.str [110]) = some (.fr (.bl false)) := rfl
        exact ⟨_, rfl, rfl, fun _ => ⟨.fr (.str x), by simp [Pt.s, Pt.w, q, e], rfl⟩⟩, DL.filter_true]
  have ni : oIn .non (.lst (ps.map Pt.d)) = some (.fr (.bl false)) := by
    have fl : (ps.map Pt.d).all D.flat = true := by
      rw [List.all_eq_true]
      intro d hd
      obtain ⟨p, _, rfl⟩ := List.mem_map.mp hd
      cases p <;> rfl
    have an : ((ps.map Pt.d).any fun e => e.eqf .non) = false := by
      rw [List.any_eq_false]
      intro d hd
      obtain ⟨p, _, rfl⟩ := List.mem_map.mp hd
      cases p <;> simp [Pt.d, D.eqf]
    show (oInB .non (.lst (ps.map Pt.d))).map _ = _
    have e : oInB .non (.lst (ps.map Pt.d)) = some false := by
      show (if _ then _ else _) = _
      rw [if_pos ⟨rfl, fl⟩, an]
    rw [e]; rfl
  have zp := zip_parts ps
  unfold run_parts_of f_parts_of
  rw [e_run]
  refine run_step (sd' := [some (.fr (.lst (ps.map fun p => .str p.w))), some (.fr (.str (ps.map Pt.s))), none, none, none]) (g' := ()) ?_ ?_
  · have lm' : ps.length ≤ DL.lim := by show _ ≤ 16777216; omega
    simp [lm', -List.map_map]
  · refine run_step (sd' := [some (.fr (.lst (ps.map fun p => .str p.w))), some (.fr (.str (ps.map Pt.s))), some (.ow (.lst (ps.map Pt.d))), none, none]) (g' := ()) ?_ ?_
    · have lm' : ps.length ≤ DL.lim := by show _ ≤ 16777216; omega
      have l3 := lc none
      simp [zp, l3, lm']
    · simp [ni]
/-! ### steps -/
end HW
namespace PM
open DL
def CLOSE : List Nat := [99, 108, 111, 115, 101]
def OFF : List Nat := [111, 102, 102]
def TAKE : List Nat := [116, 97, 107, 101]
def WORK : List Nat := [119, 111, 114, 107]
def OPEN : List Nat := [111, 112, 101, 110]
def ASK : List Nat := [97, 115, 107]
def EDIT : List Nat := [101, 100, 105, 116]
def FIND : List Nat := [102, 105, 110, 100]
def ROWS : List Nat := [114, 111, 119, 115]
def WORD : List Nat := [119, 111, 114, 100]
def RENAME : List Nat := [114, 101, 110, 97, 109, 101]
def PL : List (List Nat) := [[99, 97, 114, 114, 121], [98, 114, 105, 110, 103], [102, 97, 108, 108], [97, 110, 101, 119], [115, 101, 116, 116, 108, 101]]
abbrev Ed5 : Type := Nat × Nat × Nat × Nat × List Nat
inductive Sp where
  | plain (w : List Nat)
  | one (w : List Nat) (n : Nat)
  | opn (f : Nat) (x : List Nat)
  | edt (f : Nat) (es : List Ed5)
  | askt (w : List Nat) (f : Nat) (x : List Nat)
  | askw (f r c : Nat)
  | askr (f r c : Nat) (x : List Nat)
def e5D (e : Ed5) : D := .tup [.tup [.int (e.1 : Int), .int (e.2.1 : Int)], .tup [.int (e.2.2.1 : Int), .int (e.2.2.2.1 : Int)], .str e.2.2.2.2]
def e5P (e : Ed5) : List Pt := [.n e.1, .n e.2.1, .n e.2.2.1, .n e.2.2.2.1, .t e.2.2.2.2]
def Sp.d : Sp → D
  | .plain w => .tup [.str w]
  | .one w n => .tup [.str w, .int (n : Int)]
  | .opn f x => .tup [.str OPEN, .int (f : Int), .str x]
  | .edt f es => .tup [.str EDIT, .int (f : Int), .tup (es.map e5D)]
  | .askt w f x => .tup [.str ASK, .int (f : Int), .tup [.str w, .str x]]
  | .askw f r c => .tup [.str ASK, .int (f : Int), .tup [.str WORD, .tup [.int (r : Int), .int (c : Int)]]]
  | .askr f r c x => .tup [.str ASK, .int (f : Int), .tup [.str RENAME, .tup [.int (r : Int), .int (c : Int)], .str x]]
def Sp.hd : Sp → List Nat
  | .plain w => w
  | .one w _ => w
  | .opn _ _ => OPEN
  | .edt _ _ => EDIT
  | _ => ASK
/-- the words behind the first -/
def Sp.tl : Sp → List (List Nat)
  | .plain _ => []
  | .one _ n => [TL.numL n]
  | .opn f x => [TL.numL f, qL x]
  | .edt f es => TL.numL f :: (es.map e5P).flatten.map Pt.w
  | .askt w f x => [TL.numL f, w, x]
  | .askw f r c => [TL.numL f, WORD, TL.numL r, TL.numL c]
  | .askr f r c x => [TL.numL f, RENAME, TL.numL r, TL.numL c, x]
def nmOk (x : List Nat) : Prop := x ≠ [] ∧ x.length ≤ 300 ∧ ∀ c ∈ x, 97 ≤ c ∧ c ≤ 122
def Sp.ok : Sp → Prop
  | .plain w => w ∈ PL
  | .one w n => (w = CLOSE ∨ w = OFF ∨ w = TAKE ∨ w = WORK) ∧ n < 1000
  | .opn f x => f < 1000 ∧ DL.chs x = true ∧ x.length ≤ 300
  | .edt f es => f < 1000 ∧ es.length ≤ 50 ∧ ∀ e ∈ es, ∀ p ∈ e5P e, p.ok
  | .askt w f x => (w = FIND ∨ w = ROWS) ∧ f < 1000 ∧ nmOk x
  | .askw f r c => f < 1000 ∧ r < 1000 ∧ c < 1000
  | .askr f r c x => f < 1000 ∧ r < 1000 ∧ c < 1000 ∧ nmOk x
theorem nm_qL {x : List Nat} (h : nmOk x) : qL x = x := by
  unfold qL
  rw [if_neg h.1]
  have : ∀ l : List Nat, (∀ c ∈ l, 97 ≤ c ∧ c ≤ 122) → qF l = l := by
    intro l
    induction l with
    | nil => intro _; rfl
    | cons c l ih =>
      intro hl
      have hc := hl c List.mem_cons_self
      rw [qF_cons, ih fun d hd => hl d (List.mem_cons_of_mem _ hd)]
      unfold qs
      rw [if_neg (by omega), if_neg (by omega), if_neg (by omega)]
      rfl
  exact this x h.2.2
theorem nm_chs {x : List Nat} (h : nmOk x) : DL.chs x = true := by
  unfold DL.chs
  rw [List.all_eq_true]
  intro c hc
  have := h.2.2 c hc
  simp
  omega
end PM
/-! HR4: a step of its words -/
namespace HW
open PySem PySem.Spec PyProof.Rows L2 DL PM
theorem eqT {x y : List Nat} (hx : chs x = true) (hy : chs y = true) (h : x = y) : oEq (.str x) (.str y) = some (.fr (.bl true)) := by rw [oEq_str hx hy, h]; simp
theorem eqF {x y : List Nat} (hx : chs x = true) (hy : chs y = true) (h : ¬ x = y) : oEq (.str x) (.str y) = some (.fr (.bl false)) := by
  rw [oEq_str hx hy]
  have : (x == y) = false := by simp [h]
  rw [this]
theorem p2 (a : Pt) (ha : a.ok) (sh : List Nat) (hs : sh = [a.s]) : run_parts_of [.lst [.str a.w], .str sh] () = .ok (.ow (.lst [a.d])) () := by
  subst hs
  exact parts_of_eq (ps := [a]) (fun p hp => by rw [List.mem_singleton.mp hp]; exact ha) (by simp)
theorem p3 (a b : Pt) (ha : a.ok) (hb : b.ok) (sh : List Nat) (hs : sh = [a.s, b.s]) : run_parts_of [.lst [.str a.w, .str b.w], .str sh] () = .ok (.ow (.lst [a.d, b.d])) () := by
  subst hs
  exact parts_of_eq (ps := [a, b]) (fun p hp => by
    rcases List.mem_cons.mp hp with rfl | hp
    · exact ha
    · rw [List.mem_singleton.mp hp]; exact hb) (by simp)
theorem p4 (a b c : Pt) (ha : a.ok) (hb : b.ok) (hc : c.ok) (sh : List Nat) (hs : sh = [a.s, b.s, c.s]) : run_parts_of [.lst [.str a.w, .str b.w, .str c.w], .str sh] () = .ok (.ow (.lst [a.d, b.d, c.d])) () := by
  subst hs
  exact parts_of_eq (ps := [a, b, c]) (fun p hp => by
    rcases List.mem_cons.mp hp with rfl | hp
    · exact ha
    · rcases List.mem_cons.mp hp with rfl | hp
      · exact hb
      · rw [List.mem_singleton.mp hp]; exact hc) (by simp)
def WT : List (List Nat × List Nat) := [(FIND, [116]), (ROWS, [116]), (WORD, [110, 110]), (RENAME, [110, 110, 116])]
theorem lim_ge {n : Nat} (h : n ≤ 100000) : n ≤ DL.lim := by show n ≤ 16777216; omega
/-! asks -/
theorem ask_t {w x : List Nat} {f : Nat} (hw : w = FIND ∨ w = ROWS) (hf : f < 1000) (hx : nmOk x) : run_ask_from [.lst [.str (TL.numL f), .str w, .str x]] () = .ok (.fr (.tup [.str ASK, .int (f : Int), .tup [.str w, .str x]])) () := by
  have e1 := number_of_num hf
  have e2 := p2 (.t x) ⟨nm_chs hx, hx.2.1⟩ [116] rfl
  rw [show (Pt.t x).w = x from nm_qL hx, show (Pt.t x).d = .str x from rfl] at e2
  have n1 : oNe (.str [116]) (.str [116]) = some (.fr (.bl false)) := oNe_self rfl
  have k5 := lim_ge (n := 2) (by omega)
  rcases hw with rfl | rfl
  · have t1 : tbl WT FIND = some [116] := rfl
    unfold WT FIND ROWS WORD RENAME at t1
    unfold FIND
    simp [run_ask_from, f_ask_from, t1, e1, e2, cut2, n1, ASK, k5, lim, frz]
  · have t1 : tbl WT ROWS = some [116] := rfl
    unfold WT FIND ROWS WORD RENAME at t1
    unfold ROWS
    simp [run_ask_from, f_ask_from, t1, e1, e2, cut2, n1, ASK, k5, lim, frz]
theorem ask_w {f r c : Nat} (hf : f < 1000) (hr : r < 1000) (hc : c < 1000) : run_ask_from [.lst [.str (TL.numL f), .str WORD, .str (TL.numL r), .str (TL.numL c)]] () = .ok (.fr (.tup [.str ASK, .int (f : Int), .tup [.str WORD, .tup [.int (r : Int), .int (c : Int)]]])) () := by
  have e1 := number_of_num hf
  have e2 := p3 (.n r) (.n c) hr hc [110, 110] rfl
  simp only [Pt.w, Pt.d] at e2
  have n1 : oNe (.str [110, 110]) (.str [116]) = some (.fr (.bl true)) := rfl
  have k5 := lim_ge (n := 2) (by omega)
  have t1 : tbl WT WORD = some [110, 110] := rfl
  unfold WT FIND ROWS WORD RENAME at t1
  unfold WORD
  simp [run_ask_from, f_ask_from, t1, e1, e2, cut2, cutT2, n1, ASK, k5, lim, frz]
theorem ask_r {f r c : Nat} {x : List Nat} (hf : f < 1000) (hr : r < 1000) (hc : c < 1000) (hx : nmOk x) : run_ask_from [.lst [.str (TL.numL f), .str RENAME, .str (TL.numL r), .str (TL.numL c), .str x]] () = .ok (.fr (.tup [.str ASK, .int (f : Int), .tup [.str RENAME, .tup [.int (r : Int), .int (c : Int)], .str x]])) () := by
  have e1 := number_of_num hf
  have e2 := p4 (.n r) (.n c) (.t x) hr hc ⟨nm_chs hx, hx.2.1⟩ [110, 110, 116] rfl
  rw [show (Pt.t x).w = x from nm_qL hx] at e2
  simp only [Pt.w, Pt.d] at e2
  have n1 : oNe (.str [110, 110, 116]) (.str [116]) = some (.fr (.bl true)) := rfl
  have k5 := lim_ge (n := 3) (by omega)
  have t1 : tbl WT RENAME = some [110, 110, 116] := rfl
  unfold WT FIND ROWS WORD RENAME at t1
  unfold RENAME
  simp [run_ask_from, f_ask_from, t1, e1, e2, cut2, cutT2, n1, ASK, k5, lim, frz]
/-! edits -/
def shE : Nat → List Nat
  | 0 => []
  | k + 1 => [110, 110, 110, 110, 116] ++ shE k
theorem shE_rep (k : Nat) : (List.replicate k [110, 110, 110, 110, 116]).flatten = shE k := by
  induction k with
  | zero => rfl
  | succ k ih => rw [List.replicate_succ, List.flatten_cons, ih]; rfl
theorem e5_sh : ∀ es : List Ed5, ((es.map e5P).flatten.map Pt.s) = shE es.length
  | [] => rfl
  | e :: es => by
    rw [List.map_cons, List.flatten_cons, List.map_append, e5_sh es]
    rfl
theorem e5_len (es : List Ed5) : (es.map e5P).flatten.length = 5 * es.length := by
  induction es with
  | nil => rfl
  | cons e es ih => rw [List.map_cons, List.flatten_cons, List.length_append, ih, List.length_cons]; show 5 + _ = _; omega
theorem rngC_five (k : Nat) : rgB3 [.int 1, .int ((1 + 5 * k : Nat) : Int), .int 5] = if k ≤ 100 then some ((List.range k).map fun i => D.int ((1 + 5 * i : Nat) : Int)) else rgB3 [.int 1, .int ((1 + 5 * k : Nat) : Int), .int 5] := by
  by_cases h : k ≤ 100
  · rw [if_pos h]
    have e : rgB3 [.int 1, .int ((1 + 5 * k : Nat) : Int), .int 5] = some (rngC 1 5 (Builtin.Range.rangeSize 1 ((1 + 5 * k : Nat) : Int) 5).toNat) := if_pos (by omega)
    rw [e]
    have sz : (Builtin.Range.rangeSize 1 ((1 + 5 * k : Nat) : Int) 5).toNat = k := by
      unfold Builtin.Range.rangeSize
      rw [if_pos (by omega)]
      split
      · omega
      · omega
    rw [sz]
    unfold rngC
    congr 1
    apply List.map_congr_left
    intro i _
    congr 1
    omega
  · rw [if_neg h]
theorem edit_from_eq {f : Nat} {es : List Ed5} (hf : f < 1000) (hl : es.length ≤ 50) (hok : ∀ e ∈ es, ∀ p ∈ e5P e, p.ok) :
    run_edit_from [.lst ((TL.numL f :: (es.map e5P).flatten.map Pt.w).map .str)] () = .ok (.fr (.tup [.str EDIT, .int (f : Int), .tup (es.map e5D)])) () := by
  have L := e5_len es
  have pe := parts_of_eq (ps := .n f :: (es.map e5P).flatten) (fun p hp => by
    rcases List.mem_cons.mp hp with rfl | hp
    · exact hf
    · obtain ⟨l, hl', hp⟩ := List.mem_flatten.mp hp
      obtain ⟨e, he, rfl⟩ := List.mem_map.mp hl'
      exact hok e he p hp) (by rw [List.length_cons, L]; omega)
  have sh : (Pt.n f :: (es.map e5P).flatten).map Pt.s = 110 :: shE es.length := by rw [List.map_cons, e5_sh]; rfl
  rw [sh] at pe
  generalize hW : ((Pt.n f :: (es.map e5P).flatten).map fun p => D.str p.w) = W at pe
  have hW2 : ((TL.numL f :: (es.map e5P).flatten.map Pt.w).map D.str) = W := by rw [← hW, List.map_cons, List.map_cons, List.map_map]; rfl
  have hWl : W.length = 1 + 5 * es.length := by rw [← hW, List.length_map, List.length_cons, L]; omega
  rw [hW2]
  have fW : (D.lst W).fit = true := by
    rw [← hW]
    refine fit_lst fun d hd => ?_
    obtain ⟨p, hp, rfl⟩ := List.mem_map.mp hd
    have hpo : p.ok := by
      rcases List.mem_cons.mp hp with rfl | hp
      · exact hf
      · obtain ⟨l, hl', hp⟩ := List.mem_flatten.mp hp
        obtain ⟨e, he, rfl⟩ := List.mem_map.mp hl'
        exact hok e he p hp
    refine ⟨?_, Nat.zero_le _⟩
    show chs p.w = true
    cases p with
    | n k => exact numL_chs k
    | t x => exact wch_chs (qL_wch hpo.1)
  have ne : oNe (.lst W) (.lst []) = some (.fr (.bl true)) := by
    rw [oNe_of fW rfl, eqv_nil]
    cases W with
    | nil => simp at hWl; omega
    | cons => rfl
  have dv : oDiv (.int (W.length : Int)) (.int 5) = some (.fr (.int (es.length : Int))) := by
    rw [oDiv_int (by decide)]
    congr 3
    omega
  have ml : oMul (.str [110, 110, 110, 110, 116]) (.int (es.length : Int)) = some (.fr (.str (shE es.length))) := by
    rw [oMul_str, if_pos ⟨by omega, by show _ ≤ 16777216; simp; omega, by show _ ≤ 16777216; omega⟩]
    rw [show ((es.length : Int)).toNat = es.length from rfl, shE_rep]
  have sl : (shE es.length).length = 5 * es.length := by rw [← e5_sh, List.length_map, L]
  have ad : oAdd (.str [110]) (.str (shE es.length)) = some (.fr (.str (110 :: shE es.length))) := by
    rw [oAdd_str, if_pos (by show _ ≤ 16777216; rw [sl]; simp; omega)]
    rfl
  generalize hV : (Pt.n f :: (es.map e5P).flatten).map Pt.d = V at pe
  have hVl : V.length = 1 + 5 * es.length := by rw [← hV, List.length_map, List.length_cons, L]; omega
  have v0 : L2.atI V 0 = some (.int (f : Int)) := by rw [← hV]; simp [Pt.d]
  have rg : rgB3 [.int 1, .int (V.length : Int), .int 5] = some ((List.range es.length).map fun i => D.int ((1 + 5 * i : Nat) : Int)) := by
    rw [hVl, rngC_five, if_pos (by omega)]
  have key : ∀ (r l : List Ed5), es = l ++ r → ∀ s3, ∃ s3', forGo (gNm 3) (sApp 2 (fTup [fTup [fOp oIx (toB (fVar 1)) (toB (fVar 3)), fOp oIx (toB (fVar 1)) (toB (fOp oAdd (toB (fVar 3)) (toB (fC (.int 1)))))], fTup [fOp oIx (toB (fVar 1)) (toB (fOp oAdd (toB (fVar 3)) (toB (fC (.int 2))))), fOp oIx (toB (fVar 1)) (toB (fOp oAdd (toB (fVar 3)) (toB (fC (.int 3)))))], fOp oIx (toB (fVar 1)) (toB (fOp oAdd (toB (fVar 3)) (toB (fC (.int 4)))))]))
      (((List.range es.length).drop l.length).map fun i => D.int ((1 + 5 * i : Nat) : Int)) [some (.fr (.lst W)), some (.ow (.lst V)), some (.ow (.lst (l.map e5D))), s3] () = (.nx [some (.fr (.lst W)), some (.ow (.lst V)), some (.ow (.lst (es.map e5D))), s3'] () : OutS Unit) := by
    intro r
    induction r with
    | nil =>
      intro l e s3
      rw [List.append_nil] at e
      rw [← e, List.drop_eq_nil_of_le (by simp)]
      exact ⟨s3, rfl⟩
    | cons e5 r ih =>
      intro l e s3
      have hlen : es.length = l.length + (r.length + 1) := by rw [e]; simp
      obtain ⟨s3', h⟩ := ih (l ++ [e5]) (by rw [e]; simp) (some (.fr (.int ((1 + 5 * l.length : Nat) : Int))))
      refine ⟨s3', ?_⟩
      have dr : (List.range es.length).drop l.length = l.length :: (List.range es.length).drop (l.length + 1) := by
        rw [List.drop_eq_getElem_cons (by simp; omega), List.getElem_range]
      obtain ⟨P, R, hP, hPl⟩ : ∃ P R, V = P ++ (e5P e5).map Pt.d ++ R ∧ P.length = 1 + 5 * l.length := by
        refine ⟨(Pt.n f :: (l.map e5P).flatten).map Pt.d, ((r.map e5P).flatten).map Pt.d, ?_, ?_⟩
        · rw [← hV, e]
          simp
        · rw [List.length_map, List.length_cons, e5_len]; omega
      have g : ∀ (j : Nat) (d : D), ((e5P e5).map Pt.d)[j]? = some d → L2.atI V ((1 + 5 * l.length + j : Nat) : Int) = some d := fun j d hj => by
        apply HW.atI_nat
        have jl : j < ((e5P e5).map Pt.d).length := by
          refine Nat.lt_of_not_le fun z => ?_
          rw [List.getElem?_eq_none z] at hj
          cases hj
        rw [hP, ← hPl, List.append_assoc, List.getElem?_append_right (by omega), Nat.add_sub_cancel_left, List.getElem?_append_left jl]
        exact hj
      have g0 := g 0 _ rfl
      have g1 := g 1 _ rfl
      have g2 := g 2 _ rfl
      have g3 := g 3 _ rfl
      have g4 := g 4 _ rfl
      have c1 : (((1 + 5 * l.length : Nat) : Int) + 1) = ((1 + 5 * l.length + 1 : Nat) : Int) := by omega
      have c2 : (((1 + 5 * l.length : Nat) : Int) + 2) = ((1 + 5 * l.length + 2 : Nat) : Int) := by omega
      have c3 : (((1 + 5 * l.length : Nat) : Int) + 3) = ((1 + 5 * l.length + 3 : Nat) : Int) := by omega
      have c4 : (((1 + 5 * l.length : Nat) : Int) + 4) = ((1 + 5 * l.length + 4 : Nat) : Int) := by omega
      rw [← c1] at g1
      rw [← c2] at g2
      rw [← c3] at g3
      rw [← c4] at g4
      rw [Nat.add_zero] at g0
      have ll : l.length < DL.lim := by show _ < 16777216; omega
      rw [dr, List.map_cons]
      generalize ((1 + 5 * l.length : Nat) : Int) = z at *
      rw [forGo_step (sd' := [some (.fr (.lst W)), some (.ow (.lst V)), some (.ow (.lst (l.map e5D))), some (.fr (.int z))]) (s2 := [some (.fr (.lst W)), some (.ow (.lst V)), some (.ow (.lst ((l ++ [e5]).map e5D))), some (.fr (.int z))]) (g2 := ()) rfl (by simp [g0, g1, g2, g3, g4, ownL, ll, e5D, Pt.d])]
      rw [List.length_append] at h
      exact h
  obtain ⟨s3', kk⟩ := key es [] rfl none
  have lV : (V.length : Int) = (V.length : Int) := rfl
  unfold run_edit_from f_edit_from
  rw [e_run]
  refine run_step (sd' := [some (.fr (.lst W)), some (.ow (.lst V)), none, none]) (g' := ()) (by simp [ne, dv, ml, ad, pe, -oMul_str, -oAdd_str]) ?_
  refine run_step (sd' := [some (.fr (.lst W)), some (.ow (.lst V)), none, none]) (g' := ()) (by simp) ?_
  refine run_step (sd' := [some (.fr (.lst W)), some (.ow (.lst V)), some (.ow (.lst [])), none]) (g' := ()) (by simp) ?_
  refine run_step (sd' := [some (.fr (.lst W)), some (.ow (.lst V)), some (.ow (.lst (es.map e5D))), s3']) (g' := ()) ?_ ?_
  · rw [e_for, e_rng3]
    simp only [List.map_cons, List.map_nil, e_cons, e_nil, e_toB, e_c, bind_ok, sv_fr, e_call, e_var, List.getElem?_cons_zero, List.getElem?_cons_succ, sv_bo, cLen_lst, lift_some, rg, e_of_ok]
    exact kk
  · simp [v0, EDIT]
end HW
/-! HR5: a step of its words; a step's words -/
namespace HW
open PySem PySem.Spec PyProof.Rows L2 DL PM
def ST : List (List Nat × List Nat) := [(CLOSE, [110]), (OFF, [110]), (TAKE, [110]), (WORK, [110]), (OPEN, [110, 116])]
theorem step_from_eq {s : PM.Sp} (h : s.ok) : run_step_from [.lst ((s.hd :: s.tl).map .str)] () = .ok (.fr s.d) () := by
  have k5 := lim_ge (n := 2) (by omega)
  cases s with
  | plain w =>
    have h : w ∈ PL := h
    unfold PL at h
    simp only [List.mem_cons, List.not_mem_nil, or_false] at h
    rcases h with rfl | rfl | rfl | rfl | rfl <;> simp [run_step_from, f_step_from, PM.Sp.hd, PM.Sp.tl, PM.Sp.d]
  | one w n =>
    obtain ⟨hw, hn⟩ := h
    have e2 := p2 (.n n) hn [110] rfl
    simp only [Pt.w, Pt.d] at e2
    rcases hw with rfl | rfl | rfl | rfl
    · have q1 := eqF (x := CLOSE) (y := ASK) rfl rfl (by decide)
      have q2 := eqF (x := CLOSE) (y := EDIT) rfl rfl (by decide)
      have t1 : tbl ST CLOSE = some [110] := rfl
      unfold ST CLOSE OFF TAKE WORK OPEN at t1
      unfold CLOSE ASK at q1
      unfold CLOSE EDIT at q2
      simp [run_step_from, f_step_from, PM.Sp.hd, PM.Sp.tl, PM.Sp.d, CLOSE, q1, q2, t1, e2, cut1, lim]
    · have q1 := eqF (x := OFF) (y := ASK) rfl rfl (by decide)
      have q2 := eqF (x := OFF) (y := EDIT) rfl rfl (by decide)
      have t1 : tbl ST OFF = some [110] := rfl
      unfold ST CLOSE OFF TAKE WORK OPEN at t1
      unfold OFF ASK at q1
      unfold OFF EDIT at q2
      simp [run_step_from, f_step_from, PM.Sp.hd, PM.Sp.tl, PM.Sp.d, OFF, q1, q2, t1, e2, cut1, lim]
    · have q1 := eqF (x := TAKE) (y := ASK) rfl rfl (by decide)
      have q2 := eqF (x := TAKE) (y := EDIT) rfl rfl (by decide)
      have t1 : tbl ST TAKE = some [110] := rfl
      unfold ST CLOSE OFF TAKE WORK OPEN at t1
      unfold TAKE ASK at q1
      unfold TAKE EDIT at q2
      simp [run_step_from, f_step_from, PM.Sp.hd, PM.Sp.tl, PM.Sp.d, TAKE, q1, q2, t1, e2, cut1, lim]
    · have q1 := eqF (x := WORK) (y := ASK) rfl rfl (by decide)
      have q2 := eqF (x := WORK) (y := EDIT) rfl rfl (by decide)
      have t1 : tbl ST WORK = some [110] := rfl
      unfold ST CLOSE OFF TAKE WORK OPEN at t1
      unfold WORK ASK at q1
      unfold WORK EDIT at q2
      simp [run_step_from, f_step_from, PM.Sp.hd, PM.Sp.tl, PM.Sp.d, WORK, q1, q2, t1, e2, cut1, lim]
  | opn f x =>
    obtain ⟨hf, hx, hl⟩ := h
    have e2 := p3 (.n f) (.t x) hf ⟨hx, hl⟩ [110, 116] rfl
    simp only [Pt.w, Pt.d] at e2
    have q1 := eqF (x := OPEN) (y := ASK) rfl rfl (by decide)
    have q2 := eqF (x := OPEN) (y := EDIT) rfl rfl (by decide)
    have t1 : tbl ST OPEN = some [110, 116] := rfl
    unfold ST CLOSE OFF TAKE WORK OPEN at t1
    unfold OPEN ASK at q1
    unfold OPEN EDIT at q2
    simp [run_step_from, f_step_from, PM.Sp.hd, PM.Sp.tl, PM.Sp.d, OPEN, q1, q2, t1, e2, cut1, lim]
  | edt f es =>
    obtain ⟨hf, hl, hok⟩ := h
    have e := edit_from_eq hf hl hok
    have q1 := eqF (x := EDIT) (y := ASK) rfl rfl (by decide)
    have q2 := eqT (x := EDIT) (y := EDIT) rfl rfl rfl
    show run_step_from [.lst (.str EDIT :: ((TL.numL f :: (es.map e5P).flatten.map Pt.w).map .str))] () = _
    generalize ((TL.numL f :: (es.map e5P).flatten.map Pt.w).map D.str) = W at e
    unfold EDIT ASK at q1
    unfold EDIT at q2 e
    simp [run_step_from, f_step_from, PM.Sp.d, EDIT, q1, q2, cut1, e]
  | askt w f x =>
    obtain ⟨hw, hf, hx⟩ := h
    have e := ask_t hw hf hx
    have q1 := eqT (x := ASK) (y := ASK) rfl rfl rfl
    unfold ASK at q1 e
    simp [run_step_from, f_step_from, PM.Sp.hd, PM.Sp.tl, PM.Sp.d, ASK, q1, cut1, e]
  | askw f r c =>
    obtain ⟨hf, hr, hc⟩ := h
    have e := ask_w hf hr hc
    have q1 := eqT (x := ASK) (y := ASK) rfl rfl rfl
    unfold ASK at q1 e
    simp [run_step_from, f_step_from, PM.Sp.hd, PM.Sp.tl, PM.Sp.d, ASK, q1, cut1, e]
  | askr f r c x =>
    obtain ⟨hf, hr, hc, hx⟩ := h
    have e := ask_r hf hr hc hx
    have q1 := eqT (x := ASK) (y := ASK) rfl rfl rfl
    unfold ASK at q1 e
    simp [run_step_from, f_step_from, PM.Sp.hd, PM.Sp.tl, PM.Sp.d, ASK, q1, cut1, e]
/-! ### words_of -/
theorem ptC {k : Nat} (h : k < 1000) : cStrA [.int (k : Int)] = some (.fr (.str (TL.numL k))) := cStrA_n (by omega)
theorem ptC' {k : Nat} (h : k < 1000) : cStr [.int (k : Int)] = some (.fr (.str (TL.numL k))) := cStr_n (by omega)
/-- the parts' data as words_of gathers it: a text is quoted -/
def ptG : Pt → D
  | .n k => .int (k : Int)
  | .t x => .str (qL x)
theorem str_parts {ps : List Pt} (hok : ∀ p ∈ ps, p.ok) (sd : DSt) (h3 : sd.length = 7) : lcGo (gNm 3) gYes (fCall cStrA [fVar 3]) sd (ps.map ptG) () = (.ok ((ps.map Pt.w).map .str) () : Out Unit (List D)) := by
  rw [List.map_map]
  unfold gYes
  rw [lcGo_enc ptG (fun _ => true) (D.str ∘ Pt.w) ps fun p hp => by
    have h := hok p hp
    obtain ⟨a, b, c, d, e, f, g, rfl⟩ : ∃ a b c d e f g, sd = [a, b, c, d, e, f, g] := by
      match sd, h3 with
      | [a, b, c, d, e, f, g], _ => exact ⟨_, _, _, _, _, _, _, rfl⟩
    cases p with
    | n k =>
      have e := ptC (k := k) h
      exact ⟨_, rfl, rfl, fun _ => ⟨.fr (.str (TL.numL k)), by simp [ptG, e], rfl⟩⟩
    | t x => exact ⟨_, rfl, rfl, fun _ => ⟨.fr (.str (qL x)), by simp [ptG], rfl⟩⟩, DL.filter_true]
end HW
/-! HR6: a step's words -/
namespace HW
open PySem PySem.Spec PyProof.Rows L2 DL PM
def stw : D → List Nat
  | .int i => TL.numL i.toNat
  | .str x => x
  | _ => []
def stOk (d : D) : Prop := (∃ k : Nat, k < 1000 ∧ d = .int (k : Int)) ∨ ∃ x, d = .str x
theorem words_tail {ds : List D} (hok : ∀ d ∈ ds, stOk d) (hl : ds.length ≤ 10000) (d0 : D) (w : List Nat) (s3 s4 s5 s6 : Option SV) :
    (sFrz 1 (sRet (fOp oAdd (toB (fLst [fVar 1])) (toB (fLc [3] (fSeq true (fVar 2)) (gNm 3) (gYes) (fCall cStrA [fVar 3]))))) [some (.fr d0), some (.fr (.str w)), some (.ow (.lst ds)), s3, s4, s5, s6] () : OutS Unit) = .rt (.ow (.lst (.str w :: ds.map fun d => .str (stw d)))) () := by
  have lc : lcGo (gNm 3) gYes (fCall cStrA [fVar 3]) [some (.fr d0), some (.fr (.str w)), some (.ow (.lst ds)), none, s4, s5, s6] ds () = (.ok (ds.map fun d => .str (stw d)) () : Out Unit (List D)) := by
    rw [lcGo_map (fun d => .str (stw d)) ds fun d hd => by
      rcases hok d hd with ⟨k, hk, rfl⟩ | ⟨x, rfl⟩
      · have e := ptC hk
        exact ⟨_, rfl, .fr (.str (TL.numL k)), by simp [e], rfl⟩
      · exact ⟨_, rfl, .fr (.str x), by simp, rfl⟩]
  have l1 := lim_ge (n := ds.length) (by omega)
  have l2 := lim_ge (n := 1 + ds.length) (by omega)
  have l3 := lim_ge (n := ds.length + 1) (by omega)
  simp [frz, lc, l1, l2, l3]
theorem words_else {ps : List Pt} {w : List Nat} (hw : chs w = true) (h1 : ¬ w = ASK) (h2 : ¬ w = EDIT) (hok : ∀ p ∈ ps, p.ok) (hl : ps.length ≤ 1000) :
    run_words_of [.tup (.str w :: ps.map Pt.d)] () = .ok (.ow (.lst (.str w :: ps.map fun p => .str p.w))) () := by
  have q1 := eqF hw (y := ASK) rfl h1
  have q2 := eqF hw (y := EDIT) rfl h2
  have lc : ∀ s2, lcGo (gNm 3) gYes (fIf (asB (fCall cIsi [fVar 3, fC (.obj (.ty "str"))])) (fFn (up0 run_quoted) [fVar 3]) (fVar 3)) [some (.fr (.tup (.str w :: ps.map Pt.d))), some (.fr (.str w)), s2, none, none, none, none] (ps.map Pt.d) () = (.ok (ps.map ptG) () : Out Unit (List D)) := fun s2 => by
    unfold gYes
    rw [lcGo_enc Pt.d (fun _ => true) ptG ps fun p hp => by
      have h := hok p hp
      cases p with
      | n k => exact ⟨_, rfl, rfl, fun _ => ⟨.fr (.int (k : Int)), by simp [Pt.d, isT], rfl⟩⟩
      | t x =>
        have e := quoted_eq (x := x) h.1 (by have := h.2; omega)
        exact ⟨_, rfl, rfl, fun _ => ⟨.fr (.str (qL x)), by simp [Pt.d, isT, e], rfl⟩⟩, DL.filter_true]
  have lp := lim_ge (n := ps.length) (by omega)
  unfold ASK at q1
  unfold EDIT at q2
  unfold run_words_of f_words_of
  rw [e_run]
  refine run_step (sd' := [some (.fr (.tup (.str w :: ps.map Pt.d))), some (.fr (.str w)), none, none, none, none, none]) (g' := ()) (by simp) ?_
  refine run_step (sd' := [some (.fr (.tup (.str w :: ps.map Pt.d))), some (.fr (.str w)), some (.ow (.lst (ps.map ptG))), none, none, none, none]) (g' := ()) ?_ ?_
  · have l0 := lc none
    have c1 : oSl (.tup (.str w :: ps.map Pt.d)) (some 1) none = some (.fr (.tup (ps.map Pt.d))) := by
      show some (SV.fr (.tup (cutL (.str w :: ps.map Pt.d) (some 1) none))) = _
      rw [cut1]; rfl
    simp [q1, q2, c1, l0, lp]
  · rw [words_tail (ds := ps.map ptG) (fun d hd => by
      obtain ⟨p, hp, rfl⟩ := List.mem_map.mp hd
      have h := hok p hp
      cases p with
      | n k => exact .inl ⟨k, h, rfl⟩
      | t x => exact .inr ⟨_, rfl⟩) (by rw [List.length_map]; omega)]
    rw [List.map_map]
    have e : (fun d => D.str (stw d)) ∘ ptG = fun p => D.str p.w := funext fun p => by cases p <;> rfl
    rw [e]
    simp
@[simp] theorem oSl_tup (x : List D) (lo hi : Option Int) : oSl (.tup x) lo hi = some (.fr (.tup (cutL x lo hi))) := id rfl
@[simp] theorem cList_tup (x : List D) : cList [.tup x] = some (.ow (.lst x)) := id rfl
theorem forGo_nil {G : Type} {gf : D → DSt → Option DSt} {body : DSt → G → OutS G} (sd : DSt) (g : G) : forGo gf body [] sd g = .nx sd g := rfl
theorem words_ask {w : List Nat} {f : Nat} {as ds : List D} (hf : f < 1000) (hds : ∀ d ∈ ds, stOk d) (hl : ds.length ≤ 10)
    (hloop : ∀ s3, ∃ s3', forGo (gNm 3) (sExt 2 (fIf (asB (fCall cIsi [fVar 3, fC (.obj (.ty "tuple"))])) (fCall cList [fVar 3]) (fLst [fVar 3]))) as [some (.fr (.tup [.str ASK, .int (f : Int), .tup (.str w :: as)])), some (.fr (.str ASK)), some (.ow (.lst [.int (f : Int), .str w])), s3, none, none, none] () = (.nx [some (.fr (.tup [.str ASK, .int (f : Int), .tup (.str w :: as)])), some (.fr (.str ASK)), some (.ow (.lst ([.int (f : Int), .str w] ++ ds))), s3', none, none, none] () : OutS Unit)) :
    run_words_of [.tup [.str ASK, .int (f : Int), .tup (.str w :: as)]] () = .ok (.ow (.lst (.str ASK :: .str (TL.numL f) :: .str w :: ds.map fun d => .str (stw d)))) () := by
  have q1 := eqT (x := ASK) (y := ASK) rfl rfl rfl
  obtain ⟨s3', h⟩ := hloop none
  unfold run_words_of f_words_of
  rw [e_run]
  refine run_step (sd' := [some (.fr (.tup [.str ASK, .int (f : Int), .tup (.str w :: as)])), some (.fr (.str ASK)), none, none, none, none, none]) (g' := ()) (by simp) ?_
  refine run_step (sd' := [some (.fr (.tup [.str ASK, .int (f : Int), .tup (.str w :: as)])), some (.fr (.str ASK)), some (.ow (.lst ([.int (f : Int), .str w] ++ ds))), s3', none, none, none]) (g' := ()) ?_ ?_
  · have e : ∀ (a b : DSt → Unit → OutS Unit) (sd : DSt), asB (fOp oEq (toB (fVar 1)) (toB (fC (.str [97, 115, 107])))) sd () = .ok true () → sIf (asB (fOp oEq (toB (fVar 1)) (toB (fC (.str [97, 115, 107]))))) a b sd () = a sd () := fun a b sd q => by rw [e_sif, q]; rfl
    rw [e _ _ _ (by unfold ASK at q1 ⊢; simp [q1])]
    refine sq (R := fun o => o = _) (sd' := [some (.fr (.tup [.str ASK, .int (f : Int), .tup (.str w :: as)])), some (.fr (.str ASK)), some (.ow (.lst [.int (f : Int), .str w])), none, none, none, none]) (g' := ()) (by simp [L2.atI, ixN]) ?_
    rw [e_for]
    have a2 : L2.atI [D.str ASK, .int (f : Int), .tup (.str w :: as)] 2 = some (.tup (.str w :: as)) := HW.atI_nat (n := 2) rfl
    simp only [e_seqF, e_toD, e_slice, e_toB, e_op, e_var, e_c, List.getElem?_cons_zero, bind_ok, sv_fr, oIx_eq, oIxD_tup, a2, Option.map_some, lift_some, e_so, e_no, oSl_tup, cut1, List.drop_succ_cons, List.drop_zero, kp_fr, seqB_tup, e_of_ok]
    exact h
  · rw [words_tail (ds := [D.int (f : Int), D.str w] ++ ds) (fun d hd => by
      rcases List.mem_append.mp hd with hd | hd
      · rcases List.mem_cons.mp hd with rfl | hd
        · exact .inl ⟨f, hf, rfl⟩
        · rw [List.mem_singleton.mp hd]; exact .inr ⟨_, rfl⟩
      · exact hds d hd) (by simp; omega)]
    rfl

theorem words_edt {f : Nat} {es : List Ed5} (hf : f < 1000) (hl : es.length ≤ 50) (hok : ∀ e ∈ es, ∀ p ∈ e5P e, p.ok) :
    run_words_of [.tup [.str EDIT, .int (f : Int), .tup (es.map e5D)]] () = .ok (.ow (.lst (.str EDIT :: .str (TL.numL f) :: ((es.map e5P).flatten.map fun p => .str p.w)))) () := by
  have q1 := eqF (x := EDIT) (y := ASK) rfl rfl (by decide)
  have q2 := eqT (x := EDIT) (y := EDIT) rfl rfl rfl
  have key : ∀ (r l : List Ed5), es = l ++ r → ∀ s4 s5 s6, ∃ s4' s5' s6', forGo (gTp (gCo (gNm 4) (gCo (gNm 5) (gCo (gNm 6) (gNo))))) (sExt 2 (fLst [fOp oIx (toB (fVar 4)) (toB (fC (.int 0))), fOp oIx (toB (fVar 4)) (toB (fC (.int 1))), fOp oIx (toB (fVar 5)) (toB (fC (.int 0))), fOp oIx (toB (fVar 5)) (toB (fC (.int 1))), fFn (up0 run_quoted) [fVar 6]]))
      (r.map e5D) [some (.fr (.tup [.str EDIT, .int (f : Int), .tup (es.map e5D)])), some (.fr (.str EDIT)), some (.ow (.lst (.int (f : Int) :: ((l.map e5P).flatten.map ptG)))), none, s4, s5, s6] () = (.nx [some (.fr (.tup [.str EDIT, .int (f : Int), .tup (es.map e5D)])), some (.fr (.str EDIT)), some (.ow (.lst (.int (f : Int) :: ((es.map e5P).flatten.map ptG)))), none, s4', s5', s6'] () : OutS Unit) := by
    intro r
    induction r with
    | nil =>
      intro l e s4 s5 s6
      rw [List.append_nil] at e
      subst e
      exact ⟨_, _, _, rfl⟩
    | cons e5 r ih =>
      intro l e s4 s5 s6
      have hlen : es.length = l.length + (r.length + 1) := by rw [e]; simp
      have he : e5 ∈ es := by rw [e]; simp
      have ht : (Pt.t e5.2.2.2.2).ok := hok e5 he _ (by simp [e5P])
      have qe := quoted_eq (x := e5.2.2.2.2) ht.1 (by have := ht.2; omega)
      obtain ⟨s4', s5', s6', h⟩ := ih (l ++ [e5]) (by rw [e]; simp) (some (.fr (.tup [.int (e5.1 : Int), .int (e5.2.1 : Int)]))) (some (.fr (.tup [.int (e5.2.2.1 : Int), .int (e5.2.2.2.1 : Int)]))) (some (.fr (.str e5.2.2.2.2)))
      refine ⟨s4', s5', s6', ?_⟩
      have ll := e5_len l
      have l1 : ((l.map e5P).flatten.map ptG).length = 5 * l.length := by rw [List.length_map, ll]
      have ap : (.int (f : Int) :: ((l ++ [e5]).map e5P).flatten.map ptG : List D) = (.int (f : Int) :: ((l.map e5P).flatten.map ptG)) ++ [.int (e5.1 : Int), .int (e5.2.1 : Int), .int (e5.2.2.1 : Int), .int (e5.2.2.2.1 : Int), .str (qL e5.2.2.2.2)] := by
        simp [e5P, ptG]
      rw [ap] at h
      have Ml : (.int (f : Int) :: ((l.map e5P).flatten.map ptG) : List D).length = 5 * l.length + 1 := by rw [List.length_cons, l1]
      generalize (.int (f : Int) :: ((l.map e5P).flatten.map ptG) : List D) = M at h Ml ⊢
      have l5 := lim_ge (n := M.length + 5) (by omega)
      rw [List.map_cons, forGo_step (sd' := [some (.fr (.tup [.str EDIT, .int (f : Int), .tup (es.map e5D)])), some (.fr (.str EDIT)), some (.ow (.lst M)), none, some (.fr (.tup [.int (e5.1 : Int), .int (e5.2.1 : Int)])), some (.fr (.tup [.int (e5.2.2.1 : Int), .int (e5.2.2.2.1 : Int)])), some (.fr (.str e5.2.2.2.2))])
        (s2 := [some (.fr (.tup [.str EDIT, .int (f : Int), .tup (es.map e5D)])), some (.fr (.str EDIT)), some (.ow (.lst (M ++ [.int (e5.1 : Int), .int (e5.2.1 : Int), .int (e5.2.2.1 : Int), .int (e5.2.2.2.1 : Int), .str (qL e5.2.2.2.2)]))), none, some (.fr (.tup [.int (e5.1 : Int), .int (e5.2.1 : Int)])), some (.fr (.tup [.int (e5.2.2.1 : Int), .int (e5.2.2.2.1 : Int)])), some (.fr (.str e5.2.2.2.2))]) (g2 := ()) (by simp [e5D]) (by simp [qe, ownL, l5])]
      exact h
  obtain ⟨s4', s5', s6', h⟩ := key es [] rfl none none none
  have a2 : L2.atI [D.str EDIT, .int (f : Int), .tup (es.map e5D)] 2 = some (.tup (es.map e5D)) := HW.atI_nat (n := 2) rfl
  unfold run_words_of f_words_of
  rw [e_run]
  refine run_step (sd' := [some (.fr (.tup [.str EDIT, .int (f : Int), .tup (es.map e5D)])), some (.fr (.str EDIT)), none, none, none, none, none]) (g' := ()) (by simp) ?_
  refine run_step (sd' := [some (.fr (.tup [.str EDIT, .int (f : Int), .tup (es.map e5D)])), some (.fr (.str EDIT)), some (.ow (.lst (.int (f : Int) :: ((es.map e5P).flatten.map ptG)))), none, s4', s5', s6']) (g' := ()) ?_ ?_
  · have eT : ∀ (v : List Nat) (a b : DSt → Unit → OutS Unit) (sd : DSt), asB (fOp oEq (toB (fVar 1)) (toB (fC (.str v)))) sd () = .ok true () → sIf (asB (fOp oEq (toB (fVar 1)) (toB (fC (.str v))))) a b sd () = a sd () := fun v a b sd q => by rw [e_sif, q]; rfl
    have eF : ∀ (v : List Nat) (a b : DSt → Unit → OutS Unit) (sd : DSt), asB (fOp oEq (toB (fVar 1)) (toB (fC (.str v)))) sd () = .ok false () → sIf (asB (fOp oEq (toB (fVar 1)) (toB (fC (.str v))))) a b sd () = b sd () := fun v a b sd q => by rw [e_sif, q]; rfl
    rw [eF _ _ _ _ (by unfold ASK at q1; simp [q1]), eT _ _ _ _ (by unfold EDIT at q2 ⊢; simp [q2])]
    refine sq (R := fun o => o = _) (sd' := [some (.fr (.tup [.str EDIT, .int (f : Int), .tup (es.map e5D)])), some (.fr (.str EDIT)), some (.ow (.lst [.int (f : Int)])), none, none, none, none]) (g' := ()) (by simp) ?_
    rw [e_for]
    simp only [e_seqF, e_toD, e_op, e_toB, e_var, e_c, List.getElem?_cons_zero, bind_ok, sv_fr, oIx_eq, oIxD_tup, a2, Option.map_some, lift_some, kp_fr, seqB_tup, e_of_ok]
    exact h
  · have wt := words_tail (ds := (D.int (f : Int) :: ((es.map e5P).flatten.map ptG))) (fun d hd => by
      rcases List.mem_cons.mp hd with rfl | hd
      · exact .inl ⟨f, hf, rfl⟩
      · obtain ⟨p, hp, rfl⟩ := List.mem_map.mp hd
        obtain ⟨l, hl', hp⟩ := List.mem_flatten.mp hp
        obtain ⟨e, he, rfl⟩ := List.mem_map.mp hl'
        have h := hok e he p hp
        cases p with
        | n k => exact .inl ⟨k, h, rfl⟩
        | t x => exact .inr ⟨_, rfl⟩) (by rw [List.length_cons, List.length_map, e5_len]; omega) (.tup [.str EDIT, .int (f : Int), .tup (es.map e5D)]) EDIT none s4' s5' s6'
    rw [wt, List.map_cons, List.map_map]
    have e : (fun d => D.str (stw d)) ∘ ptG = fun p => D.str p.w := funext fun p => by cases p <;> rfl
    rw [e]
    rfl
theorem words_of_eq {s : PM.Sp} (h : s.ok) : run_words_of [s.d] () = .ok (.ow (.lst ((s.hd :: s.tl).map .str))) () := by
  have k4 := lim_ge (n := 4) (by omega)
  cases s with
  | plain w =>
    have hw : chs w = true ∧ ¬ w = ASK ∧ ¬ w = EDIT := by
      have h : w ∈ PL := h
      unfold PL at h
      simp only [List.mem_cons, List.not_mem_nil, or_false] at h
      rcases h with rfl | rfl | rfl | rfl | rfl <;> decide
    exact words_else (ps := []) hw.1 hw.2.1 hw.2.2 (fun _ z => nomatch z) (by simp)
  | one w n =>
    obtain ⟨hw, hn⟩ := h
    have hw' : chs w = true ∧ ¬ w = ASK ∧ ¬ w = EDIT := by rcases hw with rfl | rfl | rfl | rfl <;> decide
    exact words_else (ps := [.n n]) hw'.1 hw'.2.1 hw'.2.2 (fun p hp => by rw [List.mem_singleton.mp hp]; exact hn) (by simp)
  | opn f x =>
    obtain ⟨hf, hx, hl⟩ := h
    exact words_else (ps := [.n f, .t x]) (w := OPEN) (by decide) (by decide) (by decide) (fun p hp => by
      rcases List.mem_cons.mp hp with rfl | hp
      · exact hf
      · rw [List.mem_singleton.mp hp]; exact ⟨hx, hl⟩) (by simp)
  | edt f es =>
    obtain ⟨hf, hl, hok⟩ := h
    have e := words_edt hf hl hok
    show run_words_of [.tup [.str EDIT, .int (f : Int), .tup (es.map e5D)]] () = .ok (.ow (.lst (.str EDIT :: .str (TL.numL f) :: (((es.map e5P).flatten.map Pt.w).map .str)))) ()
    rw [e, List.map_map]
    rfl
  | askt w f x =>
    obtain ⟨hw, hf, hx⟩ := h
    exact words_ask (w := w) (as := [.str x]) (ds := [.str x]) hf (fun d hd => by rw [List.mem_singleton.mp hd]; exact .inr ⟨_, rfl⟩) (by simp) fun s3 => ⟨some (.fr (.str x)), by
      rw [forGo_step (sd' := [some (.fr (.tup [.str ASK, .int (f : Int), .tup [.str w, .str x]])), some (.fr (.str ASK)), some (.ow (.lst [.int (f : Int), .str w])), some (.fr (.str x)), none, none, none]) (s2 := [some (.fr (.tup [.str ASK, .int (f : Int), .tup [.str w, .str x]])), some (.fr (.str ASK)), some (.ow (.lst [.int (f : Int), .str w, .str x])), some (.fr (.str x)), none, none, none]) (g2 := ()) rfl (by simp [isT, ownL, lim])]
      rfl⟩
  | askw f r c =>
    obtain ⟨hf, hr, hc⟩ := h
    exact words_ask (w := WORD) (as := [.tup [.int (r : Int), .int (c : Int)]]) (ds := [.int (r : Int), .int (c : Int)]) hf (fun d hd => by
      rcases List.mem_cons.mp hd with rfl | hd
      · exact .inl ⟨r, hr, rfl⟩
      · rw [List.mem_singleton.mp hd]; exact .inl ⟨c, hc, rfl⟩) (by simp) fun s3 => ⟨some (.fr (.tup [.int (r : Int), .int (c : Int)])), by
      rw [forGo_step (sd' := [some (.fr (.tup [.str ASK, .int (f : Int), .tup [.str WORD, .tup [.int (r : Int), .int (c : Int)]]])), some (.fr (.str ASK)), some (.ow (.lst [.int (f : Int), .str WORD])), some (.fr (.tup [.int (r : Int), .int (c : Int)])), none, none, none]) (s2 := [some (.fr (.tup [.str ASK, .int (f : Int), .tup [.str WORD, .tup [.int (r : Int), .int (c : Int)]]])), some (.fr (.str ASK)), some (.ow (.lst [.int (f : Int), .str WORD, .int (r : Int), .int (c : Int)])), some (.fr (.tup [.int (r : Int), .int (c : Int)])), none, none, none]) (g2 := ()) rfl (by simp [isT, ownL, lim])]
      rfl⟩
  | askr f r c x =>
    obtain ⟨hf, hr, hc, hx⟩ := h
    exact words_ask (w := RENAME) (as := [.tup [.int (r : Int), .int (c : Int)], .str x]) (ds := [.int (r : Int), .int (c : Int), .str x]) hf (fun d hd => by
      rcases List.mem_cons.mp hd with rfl | hd
      · exact .inl ⟨r, hr, rfl⟩
      · rcases List.mem_cons.mp hd with rfl | hd
        · exact .inl ⟨c, hc, rfl⟩
        · rw [List.mem_singleton.mp hd]; exact .inr ⟨_, rfl⟩) (by simp) fun s3 => ⟨some (.fr (.str x)), by
      rw [forGo_step (sd' := [some (.fr (.tup [.str ASK, .int (f : Int), .tup [.str RENAME, .tup [.int (r : Int), .int (c : Int)], .str x]])), some (.fr (.str ASK)), some (.ow (.lst [.int (f : Int), .str RENAME])), some (.fr (.tup [.int (r : Int), .int (c : Int)])), none, none, none]) (s2 := [some (.fr (.tup [.str ASK, .int (f : Int), .tup [.str RENAME, .tup [.int (r : Int), .int (c : Int)], .str x]])), some (.fr (.str ASK)), some (.ow (.lst [.int (f : Int), .str RENAME, .int (r : Int), .int (c : Int)])), some (.fr (.tup [.int (r : Int), .int (c : Int)])), none, none, none]) (g2 := ()) rfl (by simp [isT, ownL, lim])]
      rw [forGo_step (sd' := [some (.fr (.tup [.str ASK, .int (f : Int), .tup [.str RENAME, .tup [.int (r : Int), .int (c : Int)], .str x]])), some (.fr (.str ASK)), some (.ow (.lst [.int (f : Int), .str RENAME, .int (r : Int), .int (c : Int)])), some (.fr (.str x)), none, none, none]) (s2 := [some (.fr (.tup [.str ASK, .int (f : Int), .tup [.str RENAME, .tup [.int (r : Int), .int (c : Int)], .str x]])), some (.fr (.str ASK)), some (.ow (.lst [.int (f : Int), .str RENAME, .int (r : Int), .int (c : Int), .str x])), some (.fr (.str x)), none, none, none]) (g2 := ()) rfl (by simp [isT, ownL, lim])]
      rfl⟩
end HW
/-! HR7: the law's words of a step -/
namespace HW
open PySem PySem.Spec PyProof.Rows L2 DL PM
noncomputable def lwB : DSt → Unit → OutS Unit :=
  sIf (asB (fCall cIsi [fVar 5, fC (.obj (.ty "tuple"))])) (sSeq (sApp 1 (fOp oIx (toB (fVar 5)) (toB (fC (.int 0))))) (sFor (fSeq false (fSlice (fVar 5) (fSo (fC (.int 1))) (fNo))) (gNm 6) (sSet 1 (fOp oAdd (toB (fVar 1)) (toB (fIf (asB (fCall cIsi [fVar 6, fC (.obj (.ty "tuple"))])) (fLc [7] (fSeq true (fVar 6)) (gNm 7) (gYes) (fCall cStr [fVar 7])) (fLst [fVar 6]))))))) (sApp 1 (fIf (asB (fCall cIsi [fVar 5, fC (.obj (.ty "str"))])) (fFn (up0 run__law_quoted) [fVar 5]) (fCall cStr [fVar 5])))
section
variable {A s2 s3 s4 s6 s7 : Option SV} {l : List D}
theorem lw_int {k : Nat} (hk : k < 1000) (hl : l.length ≤ 100) : lwB [A, some (.ow (.lst l)), s2, s3, s4, some (.fr (.int (k : Int))), s6, s7] () = .nx [A, some (.ow (.lst (l ++ [.str (TL.numL k)]))), s2, s3, s4, some (.fr (.int (k : Int))), s6, s7] () := by
  have e := ptC' hk
  have ll : l.length < DL.lim := by show _ < 16777216; omega
  unfold lwB
  simp [isT, e, ownL, ll]
theorem lw_str {x : List Nat} (hx : chs x = true) (hn : x.length ≤ 300) (hl : l.length ≤ 100) : lwB [A, some (.ow (.lst l)), s2, s3, s4, some (.fr (.str x)), s6, s7] () = .nx [A, some (.ow (.lst (l ++ [.str (qL x)]))), s2, s3, s4, some (.fr (.str x)), s6, s7] () := by
  have e := law_quoted_eq hx (by omega)
  have ll : l.length < DL.lim := by show _ < 16777216; omega
  unfold lwB
  simp [isT, e, ownL, ll]
theorem two_lc {r c : Nat} (hr : r < 1000) (hc : c < 1000) (sd : DSt) (h : sd.length = 8) : lcGo (gNm 7) gYes (fCall cStr [fVar 7]) sd [.int (r : Int), .int (c : Int)] () = (.ok [.str (TL.numL r), .str (TL.numL c)] () : Out Unit (List D)) := by
  obtain ⟨a, b, c', d, e, f, g, i, rfl⟩ : ∃ a b c d e f g i, sd = [a, b, c, d, e, f, g, i] := by
    match sd, h with
    | [a, b, c, d, e, f, g, i], _ => exact ⟨_, _, _, _, _, _, _, _, rfl⟩
  have e1 := ptC' hr
  have e2 := ptC' hc
  have := lcGo_map (gf := gNm 7) (fe := fCall cStr [fVar 7]) (sd := [a, b, c', d, e, f, g, i]) (g := ()) (fun d => .str (stw d)) [.int (r : Int), .int (c : Int)] fun d hd => by
    rcases List.mem_cons.mp hd with rfl | hd
    · exact ⟨_, rfl, .fr (.str (TL.numL r)), by simp [e1], rfl⟩
    · rw [List.mem_singleton.mp hd]
      exact ⟨_, rfl, .fr (.str (TL.numL c)), by simp [e2], rfl⟩
  exact this
noncomputable def lwI : DSt → Unit → OutS Unit := sSet 1 (fOp oAdd (toB (fVar 1)) (toB (fIf (asB (fCall cIsi [fVar 6, fC (.obj (.ty "tuple"))])) (fLc [7] (fSeq true (fVar 6)) (gNm 7) (gYes) (fCall cStr [fVar 7])) (fLst [fVar 6]))))
theorem lwI_str {x : List Nat} {s5 : Option SV} (hl : l.length ≤ 100) : lwI [A, some (.ow (.lst l)), s2, s3, s4, s5, some (.fr (.str x)), s7] () = .nx [A, some (.ow (.lst (l ++ [.str x]))), s2, s3, s4, s5, some (.fr (.str x)), s7] () := by
  have l1 := lim_ge (n := l.length + 1) (by omega)
  unfold lwI
  simp [isT, l1]
theorem lwI_tup {r c : Nat} {s5 : Option SV} (hr : r < 1000) (hc : c < 1000) (hl : l.length ≤ 100) : lwI [A, some (.ow (.lst l)), s2, s3, s4, s5, some (.fr (.tup [.int (r : Int), .int (c : Int)])), s7] () = .nx [A, some (.ow (.lst (l ++ [.str (TL.numL r), .str (TL.numL c)]))), s2, s3, s4, s5, some (.fr (.tup [.int (r : Int), .int (c : Int)])), s7] () := by
  have l1 := lim_ge (n := l.length + 2) (by omega)
  have lc := two_lc hr hc [A, some (.ow (.lst l)), s2, s3, s4, s5, some (.fr (.tup [.int (r : Int), .int (c : Int)])), none] rfl
  unfold lwI
  simp [isT, l1, lc, lim]
theorem lw_tup {w : List Nat} {as : List D} {l2 : List D} {sx : Option SV} (hl : l.length ≤ 100) (h : forGo (gNm 6) lwI as [A, some (.ow (.lst (l ++ [.str w]))), s2, s3, s4, some (.fr (.tup (.str w :: as))), s6, s7] () = .nx [A, some (.ow (.lst l2)), s2, s3, s4, some (.fr (.tup (.str w :: as))), sx, s7] ()) :
    lwB [A, some (.ow (.lst l)), s2, s3, s4, some (.fr (.tup (.str w :: as))), s6, s7] () = .nx [A, some (.ow (.lst l2)), s2, s3, s4, some (.fr (.tup (.str w :: as))), sx, s7] () := by
  have ll : l.length < DL.lim := by show _ < 16777216; omega
  unfold lwB
  rw [e_sif]
  have t : asB (fCall cIsi [fVar 5, fC (.obj (.ty "tuple"))]) [A, some (.ow (.lst l)), s2, s3, s4, some (.fr (.tup (.str w :: as))), s6, s7] () = (.ok true () : Out Unit Bool) := by simp [isT]
  rw [t, e_of_ok, if_pos rfl]
  refine sq (R := fun o => o = _) (sd' := [A, some (.ow (.lst (l ++ [.str w]))), s2, s3, s4, some (.fr (.tup (.str w :: as))), s6, s7]) (g' := ()) (by simp [ownL, ll]) ?_
  rw [e_for]
  simp only [e_seqF, e_toD, e_slice, e_toB, e_var, e_c, List.getElem?_cons_zero, List.getElem?_cons_succ, bind_ok, sv_fr, e_so, e_no, oSl_tup, cut1, List.drop_succ_cons, List.drop_zero, lift_some, kp_fr, seqB_tup, e_of_ok]
  exact h
end
theorem lw_else {d : List D} {w : List Nat} {l2 : List D} (hw : chs w = true) (h2 : ¬ w = EDIT) (h : ∃ s5 s6, forGo (gNm 5) lwB d [some (.fr (.tup (.str w :: d))), some (.ow (.lst [])), none, none, none, none, none, none] () = .nx [some (.fr (.tup (.str w :: d))), some (.ow (.lst l2)), none, none, none, s5, s6, none] ()) :
    run__law_words [.tup (.str w :: d)] () = .ok (.ow (.lst l2)) () := by
  have q2 := eqF hw (y := EDIT) rfl h2
  obtain ⟨s5, s6, h⟩ := h
  unfold EDIT at q2
  unfold run__law_words f__law_words
  rw [e_run]
  refine run_step (sd' := [some (.fr (.tup (.str w :: d))), none, none, none, none, none, none, none]) (g' := ()) (by simp [q2]) ?_
  refine run_step (sd' := [some (.fr (.tup (.str w :: d))), some (.ow (.lst [])), none, none, none, none, none, none]) (g' := ()) (by simp) ?_
  refine run_step (sd' := [some (.fr (.tup (.str w :: d))), some (.ow (.lst l2)), none, none, none, s5, s6, none]) (g' := ()) ?_ (by simp)
  rw [e_for]
  simp only [e_seqF, e_toD, e_slice, e_toB, e_var, e_c, List.getElem?_cons_zero, List.getElem?_cons_succ, bind_ok, sv_fr, e_so, e_no, oSl_tup, cut1, List.drop_succ_cons, List.drop_zero, lift_some, kp_fr, seqB_tup, e_of_ok]
  exact h

theorem oAdd_tup (x y : List D) : oAdd (.tup x) (.tup y) = if x.isEmpty = false ∧ y.isEmpty = false ∧ x.length + y.length ≤ DL.lim then some (.fr (.tup (x ++ y))) else none := rfl
theorem lw_edt {f : Nat} {es : List Ed5} (hf : f < 1000) (hl : es.length ≤ 50) (hok : ∀ e ∈ es, ∀ p ∈ e5P e, p.ok) :
    run__law_words [.tup [.str EDIT, .int (f : Int), .tup (es.map e5D)]] () = .ok (.ow (.lst (.str (TL.numL f) :: ((es.map e5P).flatten.map fun p => .str p.w)))) () := by
  have q2 := eqT (x := EDIT) (y := EDIT) rfl rfl rfl
  have ef := ptC' hf
  have key : ∀ (r l : List Ed5), es = l ++ r → ∀ s2 s3 s4, ∃ s2' s3' s4', forGo (gTp (gCo (gNm 2) (gCo (gNm 3) (gCo (gNm 4) (gNo))))) (sSet 1 (fOp oAdd (toB (fOp oAdd (toB (fVar 1)) (toB (fLc [5] (fSeq true (fOp oAdd (toB (fVar 2)) (toB (fVar 3)))) (gNm 5) (gYes) (fCall cStr [fVar 5]))))) (toB (fLst [fFn (up0 run__law_quoted) [fVar 4]]))))
      (r.map e5D) [some (.fr (.tup [.str EDIT, .int (f : Int), .tup (es.map e5D)])), some (.ow (.lst (.str (TL.numL f) :: ((l.map e5P).flatten.map fun p => .str p.w)))), s2, s3, s4, none, none, none] () = (.nx [some (.fr (.tup [.str EDIT, .int (f : Int), .tup (es.map e5D)])), some (.ow (.lst (.str (TL.numL f) :: ((es.map e5P).flatten.map fun p => .str p.w)))), s2', s3', s4', none, none, none] () : OutS Unit) := by
    intro r
    induction r with
    | nil =>
      intro l e s2 s3 s4
      rw [List.append_nil] at e
      subst e
      exact ⟨_, _, _, rfl⟩
    | cons e5 r ih =>
      intro l e s2 s3 s4
      have hlen : es.length = l.length + (r.length + 1) := by rw [e]; simp
      have he : e5 ∈ es := by rw [e]; simp
      have ht : (Pt.t e5.2.2.2.2).ok := hok e5 he _ (by simp [e5P])
      have h1 : (Pt.n e5.1).ok := hok e5 he _ (by simp [e5P])
      have h2 : (Pt.n e5.2.1).ok := hok e5 he _ (by simp [e5P])
      have h3 : (Pt.n e5.2.2.1).ok := hok e5 he _ (by simp [e5P])
      have h4 : (Pt.n e5.2.2.2.1).ok := hok e5 he _ (by simp [e5P])
      have qe := law_quoted_eq (x := e5.2.2.2.2) ht.1 (by have := ht.2; omega)
      obtain ⟨s2', s3', s4', h⟩ := ih (l ++ [e5]) (by rw [e]; simp) (some (.fr (.tup [.int (e5.1 : Int), .int (e5.2.1 : Int)]))) (some (.fr (.tup [.int (e5.2.2.1 : Int), .int (e5.2.2.2.1 : Int)]))) (some (.fr (.str e5.2.2.2.2)))
      refine ⟨s2', s3', s4', ?_⟩
      have ll := e5_len l
      have l1 : ((l.map e5P).flatten.map fun p : Pt => D.str p.w).length = 5 * l.length := by rw [List.length_map, ll]
      have ap : (D.str (TL.numL f) :: (((l ++ [e5]).map e5P).flatten.map fun p => D.str p.w)) = (D.str (TL.numL f) :: ((l.map e5P).flatten.map fun p => D.str p.w)) ++ [.str (TL.numL e5.1), .str (TL.numL e5.2.1), .str (TL.numL e5.2.2.1), .str (TL.numL e5.2.2.2.1), .str (qL e5.2.2.2.2)] := by
        simp [e5P, Pt.w]
      rw [ap] at h
      have Ml : (D.str (TL.numL f) :: ((l.map e5P).flatten.map fun p => D.str p.w)).length = 5 * l.length + 1 := by rw [List.length_cons, l1]
      generalize (D.str (TL.numL f) :: ((l.map e5P).flatten.map fun p => D.str p.w)) = M at h Ml ⊢
      have l4 := lim_ge (n := M.length + 4) (by omega)
      have l5 := lim_ge (n := M.length + 5) (by omega)
      have c1 := ptC' (k := e5.1) h1
      have c2 := ptC' (k := e5.2.1) h2
      have c3 := ptC' (k := e5.2.2.1) h3
      have c4 := ptC' (k := e5.2.2.2.1) h4
      have lc : lcGo (gNm 5) gYes (fCall cStr [fVar 5]) [some (.fr (.tup [.str EDIT, .int (f : Int), .tup (es.map e5D)])), some (.ow (.lst M)), some (.fr (.tup [.int (e5.1 : Int), .int (e5.2.1 : Int)])), some (.fr (.tup [.int (e5.2.2.1 : Int), .int (e5.2.2.2.1 : Int)])), some (.fr (.str e5.2.2.2.2)), none, none, none]
          [.int (e5.1 : Int), .int (e5.2.1 : Int), .int (e5.2.2.1 : Int), .int (e5.2.2.2.1 : Int)] () = (.ok [.str (TL.numL e5.1), .str (TL.numL e5.2.1), .str (TL.numL e5.2.2.1), .str (TL.numL e5.2.2.2.1)] () : Out Unit (List D)) := by
        have := lcGo_map (gf := gNm 5) (fe := fCall cStr [fVar 5]) (sd := [some (.fr (.tup [.str EDIT, .int (f : Int), .tup (es.map e5D)])), some (.ow (.lst M)), some (.fr (.tup [.int (e5.1 : Int), .int (e5.2.1 : Int)])), some (.fr (.tup [.int (e5.2.2.1 : Int), .int (e5.2.2.2.1 : Int)])), some (.fr (.str e5.2.2.2.2)), none, none, none]) (g := ()) (fun d => .str (stw d)) [.int (e5.1 : Int), .int (e5.2.1 : Int), .int (e5.2.2.1 : Int), .int (e5.2.2.2.1 : Int)] fun d hd => by
          simp only [List.mem_cons, List.not_mem_nil, or_false] at hd
          rcases hd with rfl | rfl | rfl | rfl
          · exact ⟨_, rfl, .fr (.str (TL.numL e5.1)), by simp [c1], rfl⟩
          · exact ⟨_, rfl, .fr (.str (TL.numL e5.2.1)), by simp [c2], rfl⟩
          · exact ⟨_, rfl, .fr (.str (TL.numL e5.2.2.1)), by simp [c3], rfl⟩
          · exact ⟨_, rfl, .fr (.str (TL.numL e5.2.2.2.1)), by simp [c4], rfl⟩
        exact this
      have oa : oAdd (.tup [.int (e5.1 : Int), .int (e5.2.1 : Int)]) (.tup [.int (e5.2.2.1 : Int), .int (e5.2.2.2.1 : Int)]) = some (.fr (.tup [.int (e5.1 : Int), .int (e5.2.1 : Int), .int (e5.2.2.1 : Int), .int (e5.2.2.2.1 : Int)])) := by
        rw [oAdd_tup, if_pos ⟨rfl, rfl, by show 2 + 2 ≤ 16777216; omega⟩]
        rfl
      rw [List.map_cons, forGo_step (sd' := [some (.fr (.tup [.str EDIT, .int (f : Int), .tup (es.map e5D)])), some (.ow (.lst M)), some (.fr (.tup [.int (e5.1 : Int), .int (e5.2.1 : Int)])), some (.fr (.tup [.int (e5.2.2.1 : Int), .int (e5.2.2.2.1 : Int)])), some (.fr (.str e5.2.2.2.2)), none, none, none])
        (s2 := [some (.fr (.tup [.str EDIT, .int (f : Int), .tup (es.map e5D)])), some (.ow (.lst (M ++ [.str (TL.numL e5.1), .str (TL.numL e5.2.1), .str (TL.numL e5.2.2.1), .str (TL.numL e5.2.2.2.1), .str (qL e5.2.2.2.2)]))), some (.fr (.tup [.int (e5.1 : Int), .int (e5.2.1 : Int)])), some (.fr (.tup [.int (e5.2.2.1 : Int), .int (e5.2.2.2.1 : Int)])), some (.fr (.str e5.2.2.2.2)), none, none, none]) (g2 := ()) (by simp [e5D]) (by simp [qe, oa, lc, l4, l5, lim])]
      exact h
  obtain ⟨s2', s3', s4', h⟩ := key es [] rfl none none none
  have a2 : L2.atI [D.str EDIT, .int (f : Int), .tup (es.map e5D)] 2 = some (.tup (es.map e5D)) := HW.atI_nat (n := 2) rfl
  unfold run__law_words f__law_words
  rw [e_run]
  have eT : ∀ (a b : DSt → Unit → OutS Unit) (c : DSt → Unit → Out Unit Bool) (sd : DSt), c sd () = .ok true () → sIf c a b sd () = a sd () := fun a b c sd q => by rw [e_sif, q]; rfl
  have es1 : ∀ (f k : DSt → Unit → OutS Unit) (sd : DSt) (x : SV), f sd () = .rt x () → (sSeq f k sd ()).out = .ok (ownR x) () := fun f k sd x q => by rw [e_seq, q]; rfl
  refine es1 _ _ _ (.bo (.lst (.str (TL.numL f) :: ((es.map e5P).flatten.map fun p => .str p.w)))) ?_
  rw [eT _ _ _ _ (by unfold EDIT at q2 ⊢; simp [q2])]
  refine sq (R := fun o => o = _) (sd' := [some (.fr (.tup [.str EDIT, .int (f : Int), .tup (es.map e5D)])), some (.ow (.lst [.str (TL.numL f)])), none, none, none, none, none, none]) (g' := ()) (by simp [ef]) ?_
  refine sq (R := fun o => o = _) (sd' := [some (.fr (.tup [.str EDIT, .int (f : Int), .tup (es.map e5D)])), some (.ow (.lst (.str (TL.numL f) :: ((es.map e5P).flatten.map fun p => .str p.w)))), s2', s3', s4', none, none, none]) (g' := ()) ?_ (by simp)
  rw [e_for]
  simp only [e_seqF, e_toD, e_op, e_toB, e_var, e_c, List.getElem?_cons_zero, bind_ok, sv_fr, oIx_eq, oIxD_tup, a2, Option.map_some, lift_some, kp_fr, seqB_tup, e_of_ok]
  exact h
theorem law_words_eq {s : PM.Sp} (h : s.ok) : run__law_words [s.d] () = .ok (.ow (.lst (s.tl.map .str))) () := by
  cases s with
  | plain w =>
    have hw : chs w = true ∧ ¬ w = EDIT := by
      have h : w ∈ PL := h
      unfold PL at h
      simp only [List.mem_cons, List.not_mem_nil, or_false] at h
      rcases h with rfl | rfl | rfl | rfl | rfl <;> decide
    exact lw_else (d := []) hw.1 hw.2 ⟨none, none, rfl⟩
  | one w n =>
    obtain ⟨hw, hn⟩ := h
    have hw' : chs w = true ∧ ¬ w = EDIT := by rcases hw with rfl | rfl | rfl | rfl <;> decide
    refine lw_else (d := [.int (n : Int)]) (l2 := [.str (TL.numL n)]) hw'.1 hw'.2 ⟨some (.fr (.int (n : Int))), none, ?_⟩
    rw [forGo_step rfl (lw_int (l := []) hn (by simp))]
    rfl
  | opn f x =>
    obtain ⟨hf, hx, hl⟩ := h
    refine lw_else (w := OPEN) (d := [.int (f : Int), .str x]) (l2 := [.str (TL.numL f), .str (qL x)]) (by decide) (by decide) ⟨some (.fr (.str x)), none, ?_⟩
    rw [forGo_step rfl (lw_int (l := []) hf (by simp)), forGo_step rfl (lw_str (l := [.str (TL.numL f)]) hx hl (by simp))]
    rfl
  | edt f es =>
    obtain ⟨hf, hl, hok⟩ := h
    have e := lw_edt hf hl hok
    show run__law_words [.tup [.str EDIT, .int (f : Int), .tup (es.map e5D)]] () = .ok (.ow (.lst (.str (TL.numL f) :: (((es.map e5P).flatten.map Pt.w).map .str)))) ()
    rw [e, List.map_map]
    rfl
  | askt w f x =>
    obtain ⟨hw, hf, hx⟩ := h
    refine lw_else (w := ASK) (d := [.int (f : Int), .tup [.str w, .str x]]) (l2 := [.str (TL.numL f), .str w, .str x]) (by decide) (by decide) ⟨some (.fr (.tup [.str w, .str x])), some (.fr (.str x)), ?_⟩
    rw [forGo_step rfl (lw_int (l := []) hf (by simp)), forGo_step rfl (lw_tup (l := [.str (TL.numL f)]) (l2 := [.str (TL.numL f), .str w, .str x]) (sx := some (.fr (.str x))) (by simp) ?_)]
    · rfl
    · rw [forGo_step rfl (lwI_str (l := [.str (TL.numL f), .str w]) (by simp))]
      rfl
  | askw f r c =>
    obtain ⟨hf, hr, hc⟩ := h
    refine lw_else (w := ASK) (d := [.int (f : Int), .tup [.str WORD, .tup [.int (r : Int), .int (c : Int)]]]) (l2 := [.str (TL.numL f), .str WORD, .str (TL.numL r), .str (TL.numL c)]) (by decide) (by decide) ⟨some (.fr (.tup [.str WORD, .tup [.int (r : Int), .int (c : Int)]])), some (.fr (.tup [.int (r : Int), .int (c : Int)])), ?_⟩
    rw [forGo_step rfl (lw_int (l := []) hf (by simp)), forGo_step rfl (lw_tup (l := [.str (TL.numL f)]) (l2 := [.str (TL.numL f), .str WORD, .str (TL.numL r), .str (TL.numL c)]) (sx := some (.fr (.tup [.int (r : Int), .int (c : Int)]))) (by simp) ?_)]
    · rfl
    · rw [forGo_step rfl (lwI_tup (l := [.str (TL.numL f), .str WORD]) hr hc (by simp))]
      rfl
  | askr f r c x =>
    obtain ⟨hf, hr, hc, hx⟩ := h
    refine lw_else (w := ASK) (d := [.int (f : Int), .tup [.str RENAME, .tup [.int (r : Int), .int (c : Int)], .str x]]) (l2 := [.str (TL.numL f), .str RENAME, .str (TL.numL r), .str (TL.numL c), .str x]) (by decide) (by decide) ⟨some (.fr (.tup [.str RENAME, .tup [.int (r : Int), .int (c : Int)], .str x])), some (.fr (.str x)), ?_⟩
    rw [forGo_step rfl (lw_int (l := []) hf (by simp)), forGo_step rfl (lw_tup (l := [.str (TL.numL f)]) (l2 := [.str (TL.numL f), .str RENAME, .str (TL.numL r), .str (TL.numL c), .str x]) (sx := some (.fr (.str x))) (by simp) ?_)]
    · rfl
    · rw [forGo_step rfl (lwI_tup (l := [.str (TL.numL f), .str RENAME]) hr hc (by simp)), forGo_step rfl (lwI_str (l := [.str (TL.numL f), .str RENAME, .str (TL.numL r), .str (TL.numL c)]) (by simp))]
      rfl
end HW
/-! HR8: rows; written, read -/
namespace PM
open DL (spl1 spl1_hit spl1_miss spl1_ne)
theorem spl_one {s : Nat} : ∀ p : List Nat, s ∉ p → spl1 s p = [p]
  | [], _ => rfl
  | c :: p, h => by
    have h1 : ¬ c = s := fun e => h (by rw [e]; exact List.mem_cons_self)
    rw [spl1_miss h1, spl_one p fun z => h (List.mem_cons_of_mem _ z)]
theorem spl_app {s : Nat} (r : List Nat) : ∀ p : List Nat, s ∉ p → spl1 s (p ++ (s :: r)) = p :: spl1 s r
  | [], _ => spl1_hit s r
  | c :: p, h => by
    have h1 : ¬ c = s := fun e => h (by rw [e]; exact List.mem_cons_self)
    rw [List.cons_append, spl1_miss h1, spl_app r p fun z => h (List.mem_cons_of_mem _ z)]
theorem spl_join {s : Nat} : ∀ ps : List (List Nat), ps ≠ [] → (∀ p ∈ ps, s ∉ p) → spl1 s (TL.joinL [s] ps) = ps
  | [], h, _ => absurd rfl h
  | [p], _, h => spl_one p (h p List.mem_cons_self)
  | p :: q :: r, _, h => by
    show spl1 s (p ++ ([s] ++ TL.joinL [s] (q :: r))) = _
    rw [List.singleton_append, spl_app _ p (h p List.mem_cons_self), spl_join (q :: r) (by simp) fun z hz => h z (List.mem_cons_of_mem _ hz)]
theorem join_mem {s c : Nat} : ∀ ps : List (List Nat), c ∈ TL.joinL [s] ps → c = s ∨ ∃ p ∈ ps, c ∈ p
  | [], h => by cases h
  | [p], h => .inr ⟨p, List.mem_cons_self, h⟩
  | p :: q :: r, h => by
    have h : c ∈ p ++ ([s] ++ TL.joinL [s] (q :: r)) := h
    rcases List.mem_append.mp h with h | h
    · exact .inr ⟨p, List.mem_cons_self, h⟩
    · rcases List.mem_append.mp h with h | h
      · exact .inl (List.mem_singleton.mp h)
      · rcases join_mem (q :: r) h with h | ⟨z, hz, h⟩
        · exact .inl h
        · exact .inr ⟨z, List.mem_cons_of_mem _ hz, h⟩
theorem join_len {s : Nat} : ∀ ps : List (List Nat), (TL.joinL [s] ps).length ≤ (ps.map (·.length)).sum + ps.length
  | [] => Nat.le_refl _
  | [p] => by show p.length ≤ _; simp
  | p :: q :: r => by
    have ih := join_len (s := s) (q :: r)
    show (p ++ ([s] ++ TL.joinL [s] (q :: r))).length ≤ _
    rw [List.length_append, List.length_append, List.map_cons, List.sum_cons, List.length_cons (a := p)]
    simp only [List.length_singleton]
    omega
theorem sum_le {l : List Nat} {m : Nat} (h : ∀ x ∈ l, x ≤ m) : l.sum ≤ l.length * m := by
  induction l with
  | nil => simp
  | cons x l ih =>
    have a := h x List.mem_cons_self
    have b := ih fun y hy => h y (List.mem_cons_of_mem _ hy)
    rw [List.sum_cons, List.length_cons, Nat.add_mul]
    omega
/-- a word of a row -/
def wd (x : List Nat) : Prop := (∀ d ∈ x, wch d = true) ∧ x.length ≤ 610 ∧ x ≠ []
theorem pt_wd {p : Pt} (h : p.ok) : wd p.w := by
  cases p with
  | n k =>
    have l := HW.numL_len (n := k) h
    exact ⟨fun d hd => (HW.numL_wch k d hd).1, by show (TL.numL k).length ≤ 610; omega, fun e => by
      have q : (TL.numL k).length = 0 := congrArg List.length e
      omega⟩
  | t x =>
    have l := qL_len x
    have := h.2
    exact ⟨qL_wch h.1, by show (qL x).length ≤ 610; omega, fun e => by
      have q : (qL x).length = 0 := congrArg List.length e
      omega⟩
theorem nm_wd {x : List Nat} (h : nmOk x) : wd x := ⟨fun d hd => by
  have := h.2.2 d hd
  simp [wch]
  omega, by have := h.2.1; omega, h.1⟩
theorem wd_of {x : List Nat} (h : (x.all wch && decide (x.length ≤ 610) && !x.isEmpty) = true) : wd x := by
  simp at h
  exact ⟨h.1.1, h.1.2, h.2⟩
theorem sp_wd {s : Sp} (h : s.ok) : ∀ x ∈ s.hd :: s.tl, wd x := by
  cases s with
  | plain w =>
    intro x hx
    rw [show x = w from List.mem_singleton.mp hx]
    have h : w ∈ PL := h
    unfold PL at h
    simp only [List.mem_cons, List.not_mem_nil, or_false] at h
    rcases h with rfl | rfl | rfl | rfl | rfl <;> exact wd_of (by decide)
  | one w n =>
    obtain ⟨hw, hn⟩ := h
    intro x hx
    rcases List.mem_cons.mp hx with e | hx
    · rw [show x = w from e]
      rcases hw with rfl | rfl | rfl | rfl <;> exact wd_of (by decide)
    · rw [show x = _ from List.mem_singleton.mp hx]; exact pt_wd (p := .n n) hn
  | opn f y =>
    obtain ⟨hf, hy⟩ := h
    intro x hx
    rcases List.mem_cons.mp hx with rfl | hx
    · exact wd_of (x := OPEN) (by decide)
    · rcases List.mem_cons.mp hx with rfl | hx
      · exact pt_wd (p := .n f) hf
      · rw [show x = _ from List.mem_singleton.mp hx]; exact pt_wd (p := .t y) hy
  | edt f es =>
    obtain ⟨hf, hl, hok⟩ := h
    intro x hx
    rcases List.mem_cons.mp hx with rfl | hx
    · exact wd_of (x := EDIT) (by decide)
    · rcases List.mem_cons.mp hx with rfl | hx
      · exact pt_wd (p := .n f) hf
      · obtain ⟨p, hp, rfl⟩ := List.mem_map.mp hx
        obtain ⟨l, hl', hp⟩ := List.mem_flatten.mp hp
        obtain ⟨e, he, rfl⟩ := List.mem_map.mp hl'
        exact pt_wd (hok e he p hp)
  | askt w f y =>
    obtain ⟨hw, hf, hy⟩ := h
    intro x hx
    rcases List.mem_cons.mp hx with rfl | hx
    · exact wd_of (x := ASK) (by decide)
    · rcases List.mem_cons.mp hx with rfl | hx
      · exact pt_wd (p := .n f) hf
      · rcases List.mem_cons.mp hx with rfl | hx
        · rcases hw with rfl | rfl <;> exact wd_of (by decide)
        · rw [show x = _ from List.mem_singleton.mp hx]; exact nm_wd hy
  | askw f r c =>
    obtain ⟨hf, hr, hc⟩ := h
    intro x hx
    rcases List.mem_cons.mp hx with rfl | hx
    · exact wd_of (x := ASK) (by decide)
    · rcases List.mem_cons.mp hx with rfl | hx
      · exact pt_wd (p := .n f) hf
      · rcases List.mem_cons.mp hx with rfl | hx
        · exact wd_of (x := WORD) (by decide)
        · rcases List.mem_cons.mp hx with rfl | hx
          · exact pt_wd (p := .n r) hr
          · rw [show x = _ from List.mem_singleton.mp hx]; exact pt_wd (p := .n c) hc
  | askr f r c y =>
    obtain ⟨hf, hr, hc, hy⟩ := h
    intro x hx
    rcases List.mem_cons.mp hx with rfl | hx
    · exact wd_of (x := ASK) (by decide)
    · rcases List.mem_cons.mp hx with rfl | hx
      · exact pt_wd (p := .n f) hf
      · rcases List.mem_cons.mp hx with rfl | hx
        · exact wd_of (x := RENAME) (by decide)
        · rcases List.mem_cons.mp hx with rfl | hx
          · exact pt_wd (p := .n r) hr
          · rcases List.mem_cons.mp hx with rfl | hx
            · exact pt_wd (p := .n c) hc
            · rw [show x = _ from List.mem_singleton.mp hx]; exact nm_wd hy
theorem sp_many {s : Sp} (h : s.ok) : (s.hd :: s.tl).length ≤ 252 := by
  cases s with
  | edt f es =>
    have := h.2.1
    show (_ :: _ :: List.map Pt.w _).length ≤ 252
    rw [List.length_cons, List.length_cons, List.length_map, HW.e5_len]
    omega
  | _ => simp [Sp.tl]
/-- a step's row -/
def rowL (s : Sp) : List Nat := TL.joinL [32] (s.hd :: s.tl)
theorem wch_no {x : List Nat} (h : ∀ d ∈ x, wch d = true) : 32 ∉ x ∧ 10 ∉ x := ⟨fun z => by have := h _ z; simp [wch] at this, fun z => by have := h _ z; simp [wch] at this⟩
theorem row_spl {s : Sp} (h : s.ok) : spl1 32 (rowL s) = s.hd :: s.tl := spl_join _ (by simp) fun p hp => (wch_no (sp_wd h p hp).1).1
theorem row_no {s : Sp} (h : s.ok) : 10 ∉ rowL s := fun z => by
  rcases join_mem _ z with e | ⟨p, hp, z⟩
  · cases e
  · exact (wch_no (sp_wd h p hp).1).2 z
theorem row_chs {s : Sp} (h : s.ok) : DL.chs (rowL s) = true := by
  unfold DL.chs
  rw [List.all_eq_true]
  intro c hc
  rcases join_mem _ hc with e | ⟨p, hp, z⟩
  · subst e; rfl
  · have := (sp_wd h p hp).1 c z
    simp [wch] at this
    simp [this]
theorem row_sum {s : Sp} (h : s.ok) : ((s.hd :: s.tl).map (·.length)).sum + (s.hd :: s.tl).length ≤ 154000 := by
  have a := sum_le (l := (s.hd :: s.tl).map (·.length)) (m := 610) fun n hn => by
    obtain ⟨p, hp, rfl⟩ := List.mem_map.mp hn
    exact (sp_wd h p hp).2.1
  have b := sp_many h
  rw [List.length_map] at a
  have c : (s.hd :: s.tl).length * 610 ≤ 252 * 610 := Nat.mul_le_mul_right _ b
  omega
theorem row_len {s : Sp} (h : s.ok) : (rowL s).length ≤ 154000 := Nat.le_trans (join_len _) (row_sum h)
theorem row_ne {s : Sp} (h : s.ok) : rowL s ≠ [] := by
  have w := sp_wd h s.hd List.mem_cons_self
  unfold rowL
  cases e : s.tl with
  | nil => exact w.2.2
  | cons q r =>
    show s.hd ++ _ ≠ []
    intro z
    exact w.2.2 (List.append_eq_nil_iff.mp z).1
def txtL (ss : List Sp) : List Nat := TL.joinL [10] (ss.map rowL)
theorem txt_ne {ss : List Sp} (h : ∀ s ∈ ss, s.ok) (hn : ss ≠ []) : txtL ss ≠ [] := by
  cases ss with
  | nil => exact absurd rfl hn
  | cons s ss =>
    have w := row_ne (h s List.mem_cons_self)
    unfold txtL
    cases ss with
    | nil => exact w
    | cons q r =>
      show rowL s ++ _ ≠ []
      intro z
      exact w (List.append_eq_nil_iff.mp z).1
theorem txt_spl {ss : List Sp} (h : ∀ s ∈ ss, s.ok) (hn : ss ≠ []) : spl1 10 (txtL ss) = ss.map rowL := spl_join _ (by cases ss with
  | nil => exact absurd rfl hn
  | cons => simp) fun p hp => by
  obtain ⟨s, hs, rfl⟩ := List.mem_map.mp hp
  exact row_no (h s hs)
theorem txt_chs {ss : List Sp} (h : ∀ s ∈ ss, s.ok) : DL.chs (txtL ss) = true := by
  unfold DL.chs
  rw [List.all_eq_true]
  intro c hc
  rcases join_mem _ hc with e | ⟨p, hp, z⟩
  · subst e; rfl
  · obtain ⟨s, hs, rfl⟩ := List.mem_map.mp hp
    exact List.all_eq_true.mp (row_chs (h s hs)) c z
theorem txt_sum {ss : List Sp} (h : ∀ s ∈ ss, s.ok) (hl : ss.length ≤ 100) : ((ss.map rowL).map (·.length)).sum + (ss.map rowL).length ≤ 15500000 := by
  have a := sum_le (l := (ss.map rowL).map (·.length)) (m := 154000) fun n hn => by
    obtain ⟨p, hp, rfl⟩ := List.mem_map.mp hn
    obtain ⟨s, hs, rfl⟩ := List.mem_map.mp hp
    exact row_len (h s hs)
  rw [List.length_map, List.length_map] at a
  rw [List.length_map]
  have c : ss.length * 154000 ≤ 100 * 154000 := Nat.mul_le_mul_right _ hl
  omega
theorem txt_len {ss : List Sp} (h : ∀ s ∈ ss, s.ok) (hl : ss.length ≤ 100) : (txtL ss).length ≤ 15500000 := Nat.le_trans (join_len _) (txt_sum h hl)
end PM
/-! HR9: written, read -/
namespace HW
open PySem PySem.Spec PyProof.Rows L2 DL PM
theorem join_row {s : PM.Sp} (h : s.ok) : mJoin [32] (.lst ((s.hd :: s.tl).map .str)) = some (.fr (.str (rowL s))) := by
  rw [mJoin_lst, DL.allStr_map]
  show (if _ then _ else _) = _
  have := row_sum h
  rw [if_pos (by show _ ≤ 16777216; simp only [List.length_singleton, Nat.mul_one]; omega)]
  rfl
theorem join_txt {ss : List PM.Sp} (h : ∀ s ∈ ss, s.ok) (hl : ss.length ≤ 100) : mJoin [10] (.lst ((ss.map rowL).map .str)) = some (.fr (.str (txtL ss))) := by
  rw [mJoin_lst, DL.allStr_map]
  show (if _ then _ else _) = _
  have := txt_sum h hl
  rw [if_pos (by show _ ≤ 16777216; simp only [List.length_singleton, Nat.mul_one]; omega)]
  rfl
theorem written_eq {ss : List PM.Sp} (h : ∀ s ∈ ss, s.ok) (hl : ss.length ≤ 100) : run_written [.lst (ss.map PM.Sp.d)] () = .ok (.fr (.str (txtL ss))) () := by
  have lc : lcGo (gNm 1) gYes (fM1 mJoin (fC (.str [32])) (fFn (up0 run_words_of) [fVar 1])) [some (.fr (.lst (ss.map PM.Sp.d))), none] (ss.map PM.Sp.d) () = (.ok ((ss.map rowL).map .str) () : Out Unit (List D)) := by
    rw [List.map_map]
    unfold gYes
    rw [lcGo_enc PM.Sp.d (fun _ => true) (D.str ∘ rowL) ss fun s hs => by
      have e := words_of_eq (h s hs)
      have j := join_row (h s hs)
      generalize (s.hd :: s.tl).map D.str = W at e j
      exact ⟨_, rfl, rfl, fun _ => ⟨.fr (.str (rowL s)), by simp [e, j, -mJoin_lst], rfl⟩⟩, DL.filter_true]
  have j := join_txt h hl
  have l1 := lim_ge (n := ss.length) (by omega)
  unfold run_written f_written
  rw [List.map_map] at lc j
  simp [lc, j, l1, -mJoin_lst]
theorem read_eq {ss : List PM.Sp} (h : ∀ s ∈ ss, s.ok) (hl : ss.length ≤ 100) : run_read [.str (txtL ss)] () = .ok (.ow (.lst (ss.map PM.Sp.d))) () := by
  have tc := txt_chs h
  have tl := txt_len h hl
  have e0 := oNe_str tc (y := []) rfl
  have key : ∀ (r l : List PM.Sp), ss = l ++ r → ∀ n s2 s3 s4, ∃ s2' s3' s4', forGo (gTp (gCo (gNm 2) (gCo (gNm 3) (gNo)))) (sSeq (sSet 4 (fFn (up0 run_step_from) [fM1 mSplit (fVar 3) (fC (.str [32]))])) (sSeq (sIf (asB (fUn uIsN (toB (fVar 4)))) (sBad) (sNx)) (sFrz 4 (sApp 1 (fVar 4)))))
      (enumF n ((r.map rowL).map .str)) [some (.fr (.str (txtL ss))), some (.ow (.lst (l.map PM.Sp.d))), s2, s3, s4] () = (.nx [some (.fr (.str (txtL ss))), some (.ow (.lst (ss.map PM.Sp.d))), s2', s3', s4'] () : OutS Unit) := by
    intro r
    induction r with
    | nil =>
      intro l e n s2 s3 s4
      rw [List.append_nil] at e
      rw [← e]
      exact ⟨_, _, _, rfl⟩
    | cons s r ih =>
      intro l e n s2 s3 s4
      have hs := h s (by rw [e]; simp)
      have hlen : ss.length = l.length + (r.length + 1) := by rw [e]; simp
      obtain ⟨s2', s3', s4', hh⟩ := ih (l ++ [s]) (by rw [e]; simp) (n + 1) (some (.fr (.int (n : Int)))) (some (.fr (.str (rowL s)))) (some (.fr s.d))
      refine ⟨s2', s3', s4', ?_⟩
      have sf := step_from_eq hs
      have sp := row_spl hs
      have rl := PM.row_len hs
      have l2 : (rowL s).length + 2 ≤ DL.lim := by show _ ≤ 16777216; omega
      have ll : l.length < DL.lim := by show _ < 16777216; omega
      have ms : mSplit (rowL s) (.str [32]) = some (.ow (.lst ((s.hd :: s.tl).map .str))) := by rw [mSplit_eq, if_pos ⟨by decide, l2⟩, sp]
      have nn : ∃ x, s.d = .tup x := by cases s <;> exact ⟨_, rfl⟩
      obtain ⟨x, nx⟩ := nn
      have ap : (l ++ [s]).map PM.Sp.d = l.map PM.Sp.d ++ [s.d] := by simp
      rw [ap] at hh
      rw [nx] at hh sf
      show forGo _ _ (.tup [.int (n : Int), .str (rowL s)] :: enumF (n + 1) ((r.map rowL).map .str)) _ () = _
      generalize (s.hd :: s.tl).map D.str = W at sf ms
      rw [forGo_step (sd' := [some (.fr (.str (txtL ss))), some (.ow (.lst (l.map PM.Sp.d))), some (.fr (.int (n : Int))), some (.fr (.str (rowL s))), s4]) (s2 := [some (.fr (.str (txtL ss))), some (.ow (.lst (l.map PM.Sp.d ++ [.tup x]))), some (.fr (.int (n : Int))), some (.fr (.str (rowL s))), some (.fr (.tup x))]) (g2 := ()) (by simp) (by simp [ms, sf, frz, ownL, ll, -mSplit_eq])]
      exact hh
  obtain ⟨s2', s3', s4', kk⟩ := key ss [] rfl 0 none none none
  unfold run_read f_read
  rw [e_run]
  refine run_step (sd' := [some (.fr (.str (txtL ss))), some (.ow (.lst [])), none, none, none]) (g' := ()) (by simp) ?_
  refine run_step (sd' := [some (.fr (.str (txtL ss))), some (.ow (.lst (ss.map PM.Sp.d))), s2', s3', s4']) (g' := ()) ?_ (by simp)
  by_cases hn : ss = []
  · subst hn
    have t0 : txtL [] = [] := rfl
    rw [t0] at e0 kk ⊢
    rw [e_for]
    have e9 : (fEnum false (fIf (asB (fOp oNe (toB (fVar 0)) (toB (fC (.str []))))) (fM1 mSplit (fVar 0) (fC (.str [10]))) (fLst []))) [some (.fr (.str [])), some (.ow (.lst [])), none, none, none] () = (.ok [] () : Out Unit (List D)) := by
      simp [e0, enumF]
    rw [e9, e_of_ok]
    exact kk
  · have ne := txt_ne h hn
    have q : (txtL ss == []) = false := by simp [ne]
    have sp := txt_spl h hn
    have ms : mSplit (txtL ss) (.str [10]) = some (.ow (.lst ((ss.map rowL).map .str))) := by rw [mSplit_eq, if_pos ⟨by decide, by show _ ≤ 16777216; omega⟩, sp]
    rw [e_for]
    have e9 : (fEnum false (fIf (asB (fOp oNe (toB (fVar 0)) (toB (fC (.str []))))) (fM1 mSplit (fVar 0) (fC (.str [10]))) (fLst []))) [some (.fr (.str (txtL ss))), some (.ow (.lst [])), none, none, none] () = (.ok (enumF 0 ((ss.map rowL).map .str)) () : Out Unit (List D)) := by
      simp only [e_enumF, e_toD, e_if, e_asB, e_op, e_toB, e_var, e_c, List.getElem?_cons_zero, bind_ok, sv_fr, e0, q, Bool.not_false, if_true, lift_some, e_m1, e_asStr, ms, kp_ow, enumB_lst]
    rw [e9, e_of_ok]
    exact kk
/-! ### a step is plain data -/
theorem sp_okS {s : PM.Sp} (h : s.ok) : okS 4 s.d = true := by
  have one : ∀ {x : List Nat}, wd x → chs x = true := fun h => wch_chs h.1
  cases s with
  | plain w =>
    have := one (sp_wd h w List.mem_cons_self)
    simp [PM.Sp.d, okS, this]
  | one w n =>
    have := one (sp_wd h w List.mem_cons_self)
    simp [PM.Sp.d, okS, this]
  | opn f x =>
    have c := h.2.1
    have o : chs OPEN = true := rfl
    simp [PM.Sp.d, okS, c, o]
  | edt f es =>
    have o : chs EDIT = true := rfl
    have hl := h.2.1
    have hh : ((es.map e5D).all (okS 2)) = true := by
      rw [List.all_eq_true]
      intro d hd
      obtain ⟨e, he, rfl⟩ := List.mem_map.mp hd
      have ht : (Pt.t e.2.2.2.2).ok := h.2.2 e he _ (by simp [e5P])
      simp [e5D, okS, ht.1]
    have l2 : es.length ≤ 10000 := by omega
    show (decide (3 ≤ 10000) && (okS 3 (.str EDIT) && (okS 3 (.int (f : Int)) && ((decide ((es.map e5D).length ≤ 10000) && (es.map e5D).all (okS 2)) && true)))) = true
    rw [hh]
    simp [okS, o, l2]
  | askt w f x =>
    obtain ⟨hw, hf, hx⟩ := h
    have o : chs ASK = true := rfl
    have c := nm_chs hx
    have cw : chs w = true := by rcases hw with rfl | rfl <;> rfl
    simp [PM.Sp.d, okS, c, o, cw]
  | askw f r c =>
    have o : chs ASK = true := rfl
    have o2 : chs WORD = true := rfl
    simp [PM.Sp.d, okS, o, o2]
  | askr f r c x =>
    have o : chs ASK = true := rfl
    have o2 : chs RENAME = true := rfl
    have c := nm_chs h.2.2.2
    simp [PM.Sp.d, okS, o, o2, c]
theorem okS_ok : ∀ (n : Nat) (d : D), okS n d = true → d.ok = true ∧ d.dep ≤ n
  | n, .non, _ => ⟨rfl, Nat.zero_le _⟩
  | n, .bl _, _ => ⟨rfl, Nat.zero_le _⟩
  | n, .int _, _ => ⟨rfl, Nat.zero_le _⟩
  | n, .str x, h => ⟨by cases n <;> exact h, Nat.zero_le _⟩
  | 0, .tup _, h => by cases h
  | 0, .lst _, h => by cases h
  | n + 1, .tup ds, h => by
    have h : (decide (ds.length ≤ 10000) && ds.all (okS n)) = true := h
    rw [Bool.and_eq_true, List.all_eq_true] at h
    refine ⟨by rw [ok_tup, okAll_iff]; exact fun d hd => (okS_ok n d (h.2 d hd)).1, ?_⟩
    rw [dep_tup]
    have := (depAll_le ds n).mpr fun d hd => (okS_ok n d (h.2 d hd)).2
    omega
  | n + 1, .lst ds, h => by
    have h : (decide (ds.length ≤ 10000) && ds.all (okS n)) = true := h
    rw [Bool.and_eq_true, List.all_eq_true] at h
    refine ⟨by rw [ok_lst, okAll_iff]; exact fun d hd => (okS_ok n d (h.2 d hd)).1, ?_⟩
    rw [dep_lst]
    have := (depAll_le ds n).mpr fun d hd => (okS_ok n d (h.2 d hd)).2
    omega
  | 0, .dk _, h => by cases h
  | 0, .dt _, h => by cases h
  | 0, .obj _, h => by cases h
  | 0, .clo _ _, h => by cases h
  | 0, .exn _ _ _ _, h => by cases h
  | 0, .ft _, h => by cases h
  | _ + 1, .dk _, h => by cases h
  | _ + 1, .dt _, h => by cases h
  | _ + 1, .obj _, h => by cases h
  | _ + 1, .clo _ _, h => by cases h
  | _ + 1, .exn _ _ _ _, h => by cases h
  | _ + 1, .ft _, h => by cases h
theorem steps_okS {ss : List PM.Sp} (h : ∀ s ∈ ss, s.ok) (hl : ss.length ≤ 100) : okS 5 (.lst (ss.map PM.Sp.d)) = true := by
  show (decide (_ ≤ 10000) && List.all _ (okS 4)) = true
  rw [Bool.and_eq_true, decide_eq_true_eq, List.all_eq_true, List.length_map]
  refine ⟨by omega, fun d hd => ?_⟩
  obtain ⟨s, hs, rfl⟩ := List.mem_map.mp hd
  exact sp_okS (h s hs)
theorem steps_fit {ss : List PM.Sp} (h : ∀ s ∈ ss, s.ok) (hl : ss.length ≤ 100) : (D.lst (ss.map PM.Sp.d)).fit = true := by
  rw [fit_iff]
  have := okS_ok 5 _ (steps_okS h hl)
  exact ⟨this.1, by omega⟩
end HW
/-! HRA: drawn steps -/
namespace HW
open PySem PySem.Spec PyProof.Rows L2 DL PM
theorem pos_le : ∀ l : List Nat, (pos l).1 ≤ l.length ∧ (pos l).2 ≤ l.length
  | [] => ⟨Nat.le_refl _, Nat.le_refl _⟩
  | c :: t => by
    have ih := pos_le t
    by_cases hc : c = 10
    · subst hc
      rw [pos_nl, List.length_cons]
      exact ⟨by show (pos t).1 + 1 ≤ _; omega, by show (pos t).2 ≤ _; omega⟩
    · rw [pos_c hc, List.length_cons]
      split
      · exact ⟨by show 0 ≤ _; omega, by show (pos t).2 + 1 ≤ _; omega⟩
      · omega
theorem pos_lt {x : List Nat} (hl : x.length ≤ 200) (n : Nat) : (pos (x.take n)).1 < 1000 ∧ (pos (x.take n)).2 < 1000 := by
  have a := pos_le (x.take n)
  have b := List.length_take_le' n x
  omega
theorem wd_nm {w : List Nat} (h : wdOk w) : nmOk w := ⟨fun e => by rw [e] at h; have := h.1; simp at this, by have := h.2.1; omega, fun c hc => by
  have := h.2.2 c hc
  unfold lt at this
  simp at this
  exact this⟩
theorem eds_sp {f : Nat} (hf : f < 1000) {x : List Nat} (hx : x.length ≤ 200) {Es : List Ed} (h : OkEs x Es) (hl : Es.length ≤ 50) : ∃ s : PM.Sp, s.ok ∧ s.d = .tup [.str EDIT, .int (f : Int), .tup (edsD x Es)] := by
  have key : ∀ (Es : List Ed) (x : List Nat), x.length ≤ 200 → OkEs x Es → ∃ es : List Ed5, es.length = Es.length ∧ (∀ e ∈ es, ∀ p ∈ e5P e, p.ok) ∧ es.map e5D = edsD x Es := by
    intro Es
    induction Es with
    | nil => exact fun x _ _ => ⟨[], rfl, fun _ z => (nomatch z), rfl⟩
    | cons E Es ih =>
      intro x hx h
      obtain ⟨hE, h2⟩ := h
      obtain ⟨es, h3, h4, h5⟩ := ih (aft x E) hE.le h2
      have p1 := pos_lt hx E.s
      have p2 := pos_lt hx E.e
      refine ⟨((pos (x.take E.s)).1, (pos (x.take E.s)).2, (pos (x.take E.e)).1, (pos (x.take E.e)).2, E.put) :: es, by rw [List.length_cons, h3]; rfl, ?_, ?_⟩
      · intro e he p hp
        rcases List.mem_cons.mp he with rfl | he
        · simp only [e5P, List.mem_cons, List.not_mem_nil, or_false] at hp
          rcases hp with rfl | rfl | rfl | rfl | rfl
          · exact p1.1
          · exact p1.2
          · exact p2.1
          · exact p2.2
          · exact ⟨chs_okt hE.pt, by have := hE.pl; omega⟩
        · exact h4 e he p hp
      · rw [List.map_cons, h5]
        rfl
  obtain ⟨es, h3, h4, h5⟩ := key Es x hx h
  exact ⟨.edt f es, ⟨hf, by omega, h4⟩, by show D.tup [.str EDIT, .int (f : Int), .tup (es.map e5D)] = _; rw [h5]⟩
theorem want_sp {f : Nat} (hf : f < 1000) {x : List Nat} (hx : x.length ≤ 200) {W : Wt} (h : OkW x W) : ∃ s : PM.Sp, s.ok ∧ s.d = .tup [.str ASK, .int (f : Int), wtD x W] := by
  cases W with
  | find w => exact ⟨.askt FIND f w, ⟨.inl rfl, hf, wd_nm h⟩, rfl⟩
  | rows w => exact ⟨.askt ROWS f w, ⟨.inr rfl, hf, wd_nm h⟩, rfl⟩
  | word n => exact ⟨.askw f (pos (x.take n)).1 (pos (x.take n)).2, ⟨hf, pos_lt hx n⟩, rfl⟩
  | ren n w => exact ⟨.askr f (pos (x.take n)).1 (pos (x.take n)).2 w, ⟨hf, (pos_lt hx n).1, (pos_lt hx n).2, wd_nm h.2⟩, rfl⟩
noncomputable def playB (p : Addr) (ns : List Int) : DSt → Gs → OutS Gs :=
  (sSeq (sPar2 4 5 (fFn (drawR p ns) [fVar 0, fC (.int 15)]) (fFn (drawR p ns) [fVar 0, fVar 1])) (sSeq (sSet 6 (fFn (drawR p ns) [fVar 0, fOp oIx (toB (fLst [fC (.int 4), fC (.int 1000)])) (toB (fOp oDiv (toB (fFn (drawR p ns) [fVar 0, fC (.int 9)])) (toB (fC (.int 8)))))])) (sSeq (sSet 7 (fSlice (fFn (run__law_sheet p ns) [fVar 0]) (fNo) (fSo (fC (.int 60))))) (sSeq (sFrz 7 (sFrz 5 (sSet 8 (fLst [fTup [fC (.str [111, 112, 101, 110]), fVar 5, fVar 7], fTup [fC (.str [111, 112, 101, 110]), fVar 5, fVar 7], fTup [fC (.str [101, 100, 105, 116]), fVar 5, fCall cTup [fOp oIx (toB (fFn (run__law_edits p ns) [fVar 0, fVar 7, fC (.int 2)])) (toB (fC (.int 0)))]]])))) (sSeq (sFrz 5 (sSet 8 (fOp oAdd (toB (fVar 8)) (toB (fLst [fTup [fC (.str [101, 100, 105, 116]), fVar 5, fTup [fTup [fTup [fC (.int 0), fC (.int 0)], fTup [fC (.int 0), fC (.int 0)], fFn (run__law_put p ns) [fVar 0, fC (.int 9)]]]], fTup [fC (.str [99, 108, 111, 115, 101]), fVar 5]]))))) (sSeq (sFrz 7 (sFrz 6 (sFrz 5 (sSet 8 (fOp oAdd (toB (fVar 8)) (toB (fLst [fTup [fC (.str [97, 115, 107]), fVar 5, fFn (run__law_want p ns) [fVar 0, fVar 7]], fTup [fC (.str [97, 115, 107]), fVar 5, fFn (run__law_want p ns) [fVar 0, fVar 7]], fTup [fC (.str [111, 102, 102]), fVar 6]]))))))) (sSeq (sFrz 6 (sSet 8 (fOp oAdd (toB (fVar 8)) (toB (fLst [fTup [fC (.str [116, 97, 107, 101]), fVar 6], fTup [fC (.str [99, 97, 114, 114, 121])], fTup [fC (.str [98, 114, 105, 110, 103])], fTup [fC (.str [119, 111, 114, 107]), fVar 6], fTup [fC (.str [102, 97, 108, 108])], fTup [fC (.str [97, 110, 101, 119])], fTup [fC (.str [115, 101, 116, 116, 108, 101])]]))))) (sApp 2 (fOp oIx (toB (fVar 8)) (toB (fVar 4)))))))))))
theorem play_step (p : Addr) (ns : List Int) {F : Nat} (hF : 0 < F ∧ F ≤ 1000) {l : List D} (hl : l.length ≤ 1000) (s3 s4 s5 s6 s7 s8 : Option SV) (g : Gs) :
    ∃ (s : PM.Sp) (s4' s5' s6' s7' s8' : Option SV) (g' : Gs), s.ok ∧ playB p ns [some (.fr (.obj (.ref p))), some (.fr (.int (F : Int))), some (.ow (.lst l)), s3, s4, s5, s6, s7, s8] g =
      .nx [some (.fr (.obj (.ref p))), some (.fr (.int (F : Int))), some (.ow (.lst (l ++ [s.d]))), s3, s4', s5', s6', s7', s8'] g' := by
  obtain ⟨k, g1, hk, e1⟩ := draw_ex p ns 15 g (by omega) (by decide)
  obtain ⟨f, g2, hf, e2⟩ := draw_ex p ns F g1 hF.1 (by have := hF.2; omega)
  obtain ⟨v, g3, hv, e3⟩ := draw_ex p ns 9 g2 (by omega) (by decide)
  obtain ⟨m, hm1, hm⟩ : ∃ m : Nat, (m = 4 ∨ m = 1000) ∧ (oDiv (.int (v : Int)) (.int 8)).bind (fun z => match z with | .fr d => oIxD (.lst [.int 4, .int 1000]) d | _ => none) = some (.int (m : Int)) := by
    rw [oDiv_int (by decide)]
    rcases (show v < 8 ∨ v = 8 by omega) with h | h
    · refine ⟨4, .inl rfl, ?_⟩
      have : ((v : Int) / 8) = 0 := by omega
      rw [this]; rfl
    · refine ⟨1000, .inr rfl, ?_⟩
      subst h; rfl
  have hd : oDiv (.int (v : Int)) (.int 8) = some (.fr (.int ((v : Int) / 8))) := oDiv_int (by decide)
  rw [hd] at hm
  have hm : L2.atI [D.int 4, D.int 1000] ((v : Int) / 8) = some (.int (m : Int)) := hm
  obtain ⟨n, g4, hn, e4⟩ := draw_ex p ns m g3 (by omega) (by omega)
  have hn : n < 1000 := by omega
  obtain ⟨x0, g5, ht0, hx0, e5⟩ := law_sheet_ex p ns g4
  have cx : oSl (.str x0) none (some 60) = some (.fr (.str (x0.take 60))) := by rw [oSl_str, if_pos (lim_ge (by omega))]; rw [show (60 : Int) = ((60 : Nat) : Int) from rfl, cut_take]
  have ht : okt (x0.take 60) = true := okt_take _ ht0
  have hx : (x0.take 60).length ≤ 60 := List.length_take_le _ _
  generalize x0.take 60 = x at cx ht hx
  have hx2 : x.length ≤ 200 := by omega
  obtain ⟨Es, g6, hE, hEl, e6⟩ := law_edits_ex p ns ht hx2 2 (by omega) g5
  obtain ⟨pu, g7, hp, _, hpl, e7⟩ := law_put_ex p ns 9 g6
  obtain ⟨W, g8, hW, e8⟩ := law_want_ex p ns (chs_okt ht) hx2 g7
  obtain ⟨W2, g9, hW2, e9⟩ := law_want_ex p ns (chs_okt ht) hx2 g8
  have hf9 : f < 1000 := by have := hF.2; omega
  obtain ⟨sE, hsE, dE⟩ := eds_sp hf9 hx2 hE (by omega)
  obtain ⟨sW, hsW, dW⟩ := want_sp hf9 hx2 hW
  obtain ⟨sV, hsV, dV⟩ := want_sp hf9 hx2 hW2
  obtain ⟨sl, hsl, hsd, hlen⟩ : ∃ sl : List PM.Sp, (∀ s ∈ sl, s.ok) ∧ sl.map PM.Sp.d = [.tup [.str [111, 112, 101, 110], .int (f : Int), .str x], .tup [.str [111, 112, 101, 110], .int (f : Int), .str x], .tup [.str [101, 100, 105, 116], .int (f : Int), .tup (edsD x Es)],
      .tup [.str [101, 100, 105, 116], .int (f : Int), .tup [.tup [.tup [.int 0, .int 0], .tup [.int 0, .int 0], .str pu]]], .tup [.str [99, 108, 111, 115, 101], .int (f : Int)], .tup [.str [97, 115, 107], .int (f : Int), wtD x W], .tup [.str [97, 115, 107], .int (f : Int), wtD x W2], .tup [.str [111, 102, 102], .int (n : Int)],
      .tup [.str [116, 97, 107, 101], .int (n : Int)], .tup [.str [99, 97, 114, 114, 121]], .tup [.str [98, 114, 105, 110, 103]], .tup [.str [119, 111, 114, 107], .int (n : Int)], .tup [.str [102, 97, 108, 108]], .tup [.str [97, 110, 101, 119]], .tup [.str [115, 101, 116, 116, 108, 101]]] ∧ sl.length = 15 := by
    refine ⟨[.opn f x, .opn f x, sE, .edt f [(0, 0, 0, 0, pu)], .one CLOSE f, sW, sV, .one OFF n, .one TAKE n, .plain [99, 97, 114, 114, 121], .plain [98, 114, 105, 110, 103], .one WORK n, .plain [102, 97, 108, 108], .plain [97, 110, 101, 119], .plain [115, 101, 116, 116, 108, 101]], ?_, ?_, rfl⟩
    · have ho : (PM.Sp.opn f x).ok := ⟨hf9, chs_okt ht, by omega⟩
      have he : (PM.Sp.edt f [(0, 0, 0, 0, pu)]).ok := ⟨hf9, by simp, fun e he p hp' => by
        rw [List.mem_singleton.mp he] at hp'
        simp only [e5P, List.mem_cons, List.not_mem_nil, or_false] at hp'
        rcases hp' with rfl | rfl | rfl | rfl | rfl
        · show 0 < 1000; omega
        · show 0 < 1000; omega
        · show 0 < 1000; omega
        · show 0 < 1000; omega
        · exact ⟨chs_okt hp, by omega⟩⟩
      have hpl : ∀ w ∈ PL, (PM.Sp.plain w).ok := fun w h => h
      intro s hs
      simp only [List.mem_cons, List.not_mem_nil, or_false] at hs
      rcases hs with rfl | rfl | rfl | rfl | rfl | rfl | rfl | rfl | rfl | rfl | rfl | rfl | rfl | rfl | rfl
      · exact ho
      · exact ho
      · exact hsE
      · exact he
      · exact ⟨.inl rfl, hf9⟩
      · exact hsW
      · exact hsV
      · exact ⟨.inr (.inl rfl), hn⟩
      · exact ⟨.inr (.inr (.inl rfl)), hn⟩
      · exact hpl _ (by decide)
      · exact hpl _ (by decide)
      · exact ⟨.inr (.inr (.inr rfl)), hn⟩
      · exact hpl _ (by decide)
      · exact hpl _ (by decide)
      · exact hpl _ (by decide)
    · simp only [List.map_cons, List.map_nil, dE, dW, dV]
      rfl
  have hk2 : k < sl.length := by omega
  refine ⟨sl[k], some (.fr (.int (k : Int))), some (.fr (.int (f : Int))), some (.fr (.int (n : Int))), some (.fr (.str x)), some (.ow (.lst [.tup [.str [111, 112, 101, 110], .int (f : Int), .str x], .tup [.str [111, 112, 101, 110], .int (f : Int), .str x], .tup [.str [101, 100, 105, 116], .int (f : Int), .tup (edsD x Es)],
      .tup [.str [101, 100, 105, 116], .int (f : Int), .tup [.tup [.tup [.int 0, .int 0], .tup [.int 0, .int 0], .str pu]]], .tup [.str [99, 108, 111, 115, 101], .int (f : Int)], .tup [.str [97, 115, 107], .int (f : Int), wtD x W], .tup [.str [97, 115, 107], .int (f : Int), wtD x W2], .tup [.str [111, 102, 102], .int (n : Int)],
      .tup [.str [116, 97, 107, 101], .int (n : Int)], .tup [.str [99, 97, 114, 114, 121]], .tup [.str [98, 114, 105, 110, 103]], .tup [.str [119, 111, 114, 107], .int (n : Int)], .tup [.str [102, 97, 108, 108]], .tup [.str [97, 110, 101, 119]], .tup [.str [115, 101, 116, 116, 108, 101]]])), g9, hsl _ (List.getElem_mem hk2), ?_⟩
  have ka : L2.atI (sl.map PM.Sp.d) (k : Int) = some sl[k].d := by
    apply HW.atI_nat
    rw [List.getElem?_map, List.getElem?_eq_getElem hk2]
    rfl
  rw [hsd] at ka
  have ll : l.length < DL.lim := by show _ < 16777216; omega
  generalize sl[k].d = dd at ka
  simp at e1 e2 e3 e4 e5 e6 e7 e8 e9
  unfold playB
  refine sq (R := fun o => o = _) (sd' := [some (.fr (.obj (.ref p))), some (.fr (.int (F : Int))), some (.ow (.lst l)), s3, some (.fr (.int (k : Int))), some (.fr (.int (f : Int))), s6, s7, s8]) (g' := g2) (by simp [e1, e2]) ?_
  refine sq (R := fun o => o = _) (sd' := [some (.fr (.obj (.ref p))), some (.fr (.int (F : Int))), some (.ow (.lst l)), s3, some (.fr (.int (k : Int))), some (.fr (.int (f : Int))), some (.fr (.int (n : Int))), s7, s8]) (g' := g4) (by simp [e3, hd, hm, e4]) ?_
  refine sq (R := fun o => o = _) (sd' := [some (.fr (.obj (.ref p))), some (.fr (.int (F : Int))), some (.ow (.lst l)), s3, some (.fr (.int (k : Int))), some (.fr (.int (f : Int))), some (.fr (.int (n : Int))), some (.fr (.str x)), s8]) (g' := g5) (by simp [e5, cx, -oSl_str]) ?_
  refine sq (R := fun o => o = _) (sd' := [some (.fr (.obj (.ref p))), some (.fr (.int (F : Int))), some (.ow (.lst l)), s3, some (.fr (.int (k : Int))), some (.fr (.int (f : Int))), some (.fr (.int (n : Int))), some (.fr (.str x)), some (.ow (.lst [.tup [.str [111, 112, 101, 110], .int (f : Int), .str x], .tup [.str [111, 112, 101, 110], .int (f : Int), .str x], .tup [.str [101, 100, 105, 116], .int (f : Int), .tup (edsD x Es)]]))]) (g' := g6) (by simp [frz, e6]) ?_
  refine sq (R := fun o => o = _) (sd' := [some (.fr (.obj (.ref p))), some (.fr (.int (F : Int))), some (.ow (.lst l)), s3, some (.fr (.int (k : Int))), some (.fr (.int (f : Int))), some (.fr (.int (n : Int))), some (.fr (.str x)), some (.ow (.lst [.tup [.str [111, 112, 101, 110], .int (f : Int), .str x], .tup [.str [111, 112, 101, 110], .int (f : Int), .str x], .tup [.str [101, 100, 105, 116], .int (f : Int), .tup (edsD x Es)],
      .tup [.str [101, 100, 105, 116], .int (f : Int), .tup [.tup [.tup [.int 0, .int 0], .tup [.int 0, .int 0], .str pu]]], .tup [.str [99, 108, 111, 115, 101], .int (f : Int)]]))]) (g' := g7) (by simp [frz, e7, lim]) ?_
  refine sq (R := fun o => o = _) (sd' := [some (.fr (.obj (.ref p))), some (.fr (.int (F : Int))), some (.ow (.lst l)), s3, some (.fr (.int (k : Int))), some (.fr (.int (f : Int))), some (.fr (.int (n : Int))), some (.fr (.str x)), some (.ow (.lst [.tup [.str [111, 112, 101, 110], .int (f : Int), .str x], .tup [.str [111, 112, 101, 110], .int (f : Int), .str x], .tup [.str [101, 100, 105, 116], .int (f : Int), .tup (edsD x Es)],
      .tup [.str [101, 100, 105, 116], .int (f : Int), .tup [.tup [.tup [.int 0, .int 0], .tup [.int 0, .int 0], .str pu]]], .tup [.str [99, 108, 111, 115, 101], .int (f : Int)], .tup [.str [97, 115, 107], .int (f : Int), wtD x W], .tup [.str [97, 115, 107], .int (f : Int), wtD x W2], .tup [.str [111, 102, 102], .int (n : Int)]]))]) (g' := g9) (by simp [frz, e8, e9, lim]) ?_
  refine sq (R := fun o => o = _) (sd' := [some (.fr (.obj (.ref p))), some (.fr (.int (F : Int))), some (.ow (.lst l)), s3, some (.fr (.int (k : Int))), some (.fr (.int (f : Int))), some (.fr (.int (n : Int))), some (.fr (.str x)), some (.ow (.lst [.tup [.str [111, 112, 101, 110], .int (f : Int), .str x], .tup [.str [111, 112, 101, 110], .int (f : Int), .str x], .tup [.str [101, 100, 105, 116], .int (f : Int), .tup (edsD x Es)],
      .tup [.str [101, 100, 105, 116], .int (f : Int), .tup [.tup [.tup [.int 0, .int 0], .tup [.int 0, .int 0], .str pu]]], .tup [.str [99, 108, 111, 115, 101], .int (f : Int)], .tup [.str [97, 115, 107], .int (f : Int), wtD x W], .tup [.str [97, 115, 107], .int (f : Int), wtD x W2], .tup [.str [111, 102, 102], .int (n : Int)],
      .tup [.str [116, 97, 107, 101], .int (n : Int)], .tup [.str [99, 97, 114, 114, 121]], .tup [.str [98, 114, 105, 110, 103]], .tup [.str [119, 111, 114, 107], .int (n : Int)], .tup [.str [102, 97, 108, 108]], .tup [.str [97, 110, 101, 119]], .tup [.str [115, 101, 116, 116, 108, 101]]]))]) (g' := g9) (by simp [frz, lim]) ?_
  simp only [e_app, ownL, List.getElem?_cons_succ, List.getElem?_cons_zero, e_toD, e_op, e_toB, e_var, bind_ok, sv_bo, sv_fr, oIx_eq, oIxD_lst, ka, Option.map_some, lift_some, kp_fr, e_of_ok, ll, if_true]
  rfl
theorem law_play_ex (p : Addr) (ns : List Int) {F : Nat} (hF : 0 < F ∧ F ≤ 1000) (g : Gs) : ∃ (ss : List PM.Sp) (g' : Gs), (∀ s ∈ ss, s.ok) ∧ ss.length ≤ 24 ∧ run__law_play p ns [.obj (.ref p), .int (F : Int)] g = .ok (.ow (.lst (ss.map PM.Sp.d))) g' := by
  obtain ⟨v, g1, hv, e1⟩ := draw_ex p ns 25 g (by omega) (by decide)
  have r0 := rgB1 (j := (v : Int)) (by omega)
  obtain ⟨sd', g', h1, ss, hok, hlen, s3, s4, s5, s6, s7, s8, rfl⟩ := forGo_inv (gf := gNm 3) (body := playB p ns) (fun r sd _ => ∃ ss : List PM.Sp, (∀ s ∈ ss, s.ok) ∧ ss.length + r.length = v ∧ ∃ s3 s4 s5 s6 s7 s8, sd = [some (.fr (.obj (.ref p))), some (.fr (.int (F : Int))), some (.ow (.lst (ss.map PM.Sp.d))), s3, s4, s5, s6, s7, s8]) (rng 0 v)
    [some (.fr (.obj (.ref p))), some (.fr (.int (F : Int))), some (.ow (.lst [])), none, none, none, none, none, none] g1 ⟨[], fun _ z => (nomatch z), by rw [rng_len]; simp, _, _, _, _, _, _, rfl⟩ (by
      rintro d r sd g _ ⟨ss, hok, hlen, s3, s4, s5, s6, s7, s8, rfl⟩
      rw [List.length_cons] at hlen
      obtain ⟨s, s4', s5', s6', s7', s8', g', hs, e⟩ := play_step p ns hF (l := ss.map PM.Sp.d) (by rw [List.length_map]; omega) (some (.fr d)) s4 s5 s6 s7 s8 g
      refine ⟨_, rfl, _, g', .inl e, ss ++ [s], ?_, ?_, some (.fr d), s4', s5', s6', s7', s8', by rw [List.map_append]; rfl⟩
      · intro t ht
        rcases List.mem_append.mp ht with ht | ht
        · exact hok t ht
        · rw [List.mem_singleton.mp ht]; exact hs
      · rw [List.length_append]; simp; omega)
  refine ⟨ss, g', hok, by simp at hlen; omega, ?_⟩
  unfold run__law_play f__law_play
  rw [e_run]
  refine run_step (sd' := [some (.fr (.obj (.ref p))), some (.fr (.int (F : Int))), some (.ow (.lst [])), none, none, none, none, none, none]) (g' := g) (by simp) ?_
  refine run_step (sd' := [some (.fr (.obj (.ref p))), some (.fr (.int (F : Int))), some (.ow (.lst (ss.map PM.Sp.d))), s3, s4, s5, s6, s7, s8]) (g' := g') ?_ (by simp)
  rw [e_for]
  have e9 : fRng [fFn (drawR p ns) [fVar 0, fC (.int 25)]] [some (.fr (.obj (.ref p))), some (.fr (.int (F : Int))), some (.ow (.lst [])), none, none, none, none, none, none] g = .ok (rng 0 v) g1 := by
    simp at e1
    simp [e1, r0]
  rw [e9, e_of_ok]
  exact h1
end HW
namespace HW
open PySem PySem.Spec PyProof.Rows L2 DL PM
theorem okS_up : ∀ {n : Nat} {d : D}, okS n d = true → okS (n + 1) d = true
  | _, .non, _ => rfl
  | _, .bl _, _ => rfl
  | _, .int _, _ => rfl
  | n, .str x, h => by cases n <;> exact h
  | 0, .tup _, h => by cases h
  | 0, .lst _, h => by cases h
  | n + 1, .tup ds, h => by
    have h : (decide (ds.length ≤ 10000) && ds.all (okS n)) = true := h
    show (decide (ds.length ≤ 10000) && ds.all (okS (n + 1))) = true
    rw [Bool.and_eq_true, List.all_eq_true] at h ⊢
    exact ⟨h.1, fun d hd => okS_up (h.2 d hd)⟩
  | n + 1, .lst ds, h => by
    have h : (decide (ds.length ≤ 10000) && ds.all (okS n)) = true := h
    show (decide (ds.length ≤ 10000) && ds.all (okS (n + 1))) = true
    rw [Bool.and_eq_true, List.all_eq_true] at h ⊢
    exact ⟨h.1, fun d hd => okS_up (h.2 d hd)⟩
  | 0, .dk _, h => by cases h
  | 0, .dt _, h => by cases h
  | 0, .obj _, h => by cases h
  | 0, .clo _ _, h => by cases h
  | 0, .exn _ _ _ _, h => by cases h
  | 0, .ft _, h => by cases h
  | _ + 1, .dk _, h => by cases h
  | _ + 1, .dt _, h => by cases h
  | _ + 1, .obj _, h => by cases h
  | _ + 1, .clo _ _, h => by cases h
  | _ + 1, .exn _ _ _ _, h => by cases h
  | _ + 1, .ft _, h => by cases h
end HW
namespace K14
open PySem PySem.Spec PyProof.Rows L2 DL HW LamX
def top (i : Nat) : Stmt := PySem.Challenge.pw_helperwire_k14_written_and_read.main.body.getD i (.Pass ⟨0, 0, 0, 0⟩)
def mth (i j : Nat) : Stmt := match top i with
  | .ClassDef _ _ _ b _ _ _ _ _ _ _ => b.getD j (.Pass ⟨0, 0, 0, 0⟩)
  | _ => .Pass ⟨0, 0, 0, 0⟩
/-! ### what the defs answer, by data -/
noncomputable def f_law (p : Addr) (ns : List Int) : DSt → Gs → OutS Gs :=
  sSeq (sFor (fRng [fC (.int 4)]) (gNm 2) (sSeq (sFrz 1 (sSet 3 (fFn (run__law_play p ns) [fVar 1, fC (.int 10)]))) (sSeq (sSet 4 (fM1 mJoin (fC (.str [10])) (fLc [5] (fSeq true (fVar 3)) (gNm 5) (gYes) (fM1 mJoin (fC (.str [32])) (fOp oAdd (toB (fLst [fOp oIx (toB (fVar 5)) (toB (fC (.int 0)))])) (toB (fFn (up0 run__law_words) [fVar 5]))))))) (sSeq (sSet 6 (fCall cList [fVar 3])) (sSeq (sFrz 4 (sFrz 3 (sFrz 6 (sIf (gOr (gNot (asB (fFn (up0 (run__law_same 7)) [fFn (up0 run_written) [fVar 6], fVar 4]))) (gOr (asB (fOp oNe (toB (fVar 6)) (toB (fVar 3)))) (gNot (asB (fFn (up0 (run__law_same 7)) [fFn (up0 run_read) [fVar 4], fVar 3]))))) (sRet (fC (.bl false))) (sNx))))) (sFrz 4 (sAppE (fFn (up0 run_read) [fVar 4]) (fC (.int 0))))))))) (sRet (fAnd (fOp oEq (toB (fFn (up0 run_read) [fC (.str [])])) (toB (fLst []))) (fOp oEq (toB (fFn (up0 run_written) [fLst []])) (toB (fC (.str []))))))
/-! ### what is known of the module -/
structure Fx (w : World) (K : PySem.W.Frag) (mg : Str → Option Value) : Prop where
  fr_bool : mg "bool" = none
  fr_enumerate : mg "enumerate" = none
  fr_int : mg "int" = none
  fr_isinstance : mg "isinstance" = none
  fr_len : mg "len" = none
  fr_list : mg "list" = none
  fr_min : mg "min" = none
  fr_range : mg "range" = none
  fr_sorted : mg "sorted" = none
  fr_str : mg "str" = none
  fr_tuple : mg "tuple" = none
  fr_zip : mg "zip" = none
  g_FIGURES : ∃ t, mg "FIGURES" = some (.str "0123456789" t)
  g_MARK : ∃ t, mg "MARK" = some (.str "~" t)
  t_SHAPES : KD K w mg "SHAPES" [([99, 108, 111, 115, 101], [110]), ([111, 102, 102], [110]), ([116, 97, 107, 101], [110]), ([119, 111, 114, 107], [110]), ([111, 112, 101, 110], [110, 116])]
  t_SIGNS : KD K w mg "SIGNS" [([32], [95]), ([10], [47]), ([126], [126])]
  t_WANTS : KD K w mg "WANTS" [([102, 105, 110, 100], [116]), ([114, 111, 119, 115], [116]), ([119, 111, 114, 100], [110, 110]), ([114, 101, 110, 97, 109, 101], [110, 110, 116])]
  u_PLAIN : KT' K mg "PLAIN" [[99, 97, 114, 114, 121], [98, 114, 105, 110, 103], [102, 97, 108, 108], [97, 110, 101, 119], [115, 101, 116, 116, 108, 101]]
  d__law_start : ∃ fa fd, FunD K "_law_start" "_law_start" (defArgs (top 21)) (defBody (top 21)) (defScope (top 21)) [] [] fa fd ∧ mg "_law_start" = some (.ref fa)
  d__law_drawn : ∃ fa fd, FunD K "_law_drawn" "_law_drawn" (defArgs (top 22)) (defBody (top 22)) (defScope (top 22)) [] [] fa fd ∧ mg "_law_drawn" = some (.ref fa)
  d__law_sign : ∃ fa fd, FunD K "_law_sign" "_law_sign" (defArgs (top 24)) (defBody (top 24)) (defScope (top 24)) [] [] fa fd ∧ mg "_law_sign" = some (.ref fa)
  d__law_put : ∃ fa fd, FunD K "_law_put" "_law_put" (defArgs (top 25)) (defBody (top 25)) (defScope (top 25)) [] [] fa fd ∧ mg "_law_put" = some (.ref fa)
  d__law_sheet : ∃ fa fd, FunD K "_law_sheet" "_law_sheet" (defArgs (top 26)) (defBody (top 26)) (defScope (top 26)) [] [] fa fd ∧ mg "_law_sheet" = some (.ref fa)
  d__law_at : ∃ fa fd, FunD K "_law_at" "_law_at" (defArgs (top 27)) (defBody (top 27)) (defScope (top 27)) [] [] fa fd ∧ mg "_law_at" = some (.ref fa)
  d__law_runs : ∃ fa fd, FunD K "_law_runs" "_law_runs" (defArgs (top 33)) (defBody (top 33)) (defScope (top 33)) [] [] fa fd ∧ mg "_law_runs" = some (.ref fa)
  d__law_name : ∃ fa fd, FunD K "_law_name" "_law_name" (defArgs (top 32)) (defBody (top 32)) (defScope (top 32)) [] [] fa fd ∧ mg "_law_name" = some (.ref fa)
  d__law_want : ∃ fa fd, FunD K "_law_want" "_law_want" (defArgs (top 34)) (defBody (top 34)) (defScope (top 34)) [] [] fa fd ∧ mg "_law_want" = some (.ref fa)
  d__law_numbers : ∃ fa fd, FunD K "_law_numbers" "_law_numbers" (defArgs (top 28)) (defBody (top 28)) (defScope (top 28)) [] [] fa fd ∧ mg "_law_numbers" = some (.ref fa)
  d__law_after : ∃ fa fd, FunD K "_law_after" "_law_after" (defArgs (top 30)) (defBody (top 30)) (defScope (top 30)) [] [] fa fd ∧ mg "_law_after" = some (.ref fa)
  d__law_edit : ∃ fa fd, FunD K "_law_edit" "_law_edit" (defArgs (top 29)) (defBody (top 29)) (defScope (top 29)) [] [] fa fd ∧ mg "_law_edit" = some (.ref fa)
  d__law_edits : ∃ fa fd, FunD K "_law_edits" "_law_edits" (defArgs (top 31)) (defBody (top 31)) (defScope (top 31)) [] [] fa fd ∧ mg "_law_edits" = some (.ref fa)
  d__law_play : ∃ fa fd, FunD K "_law_play" "_law_play" (defArgs (top 36)) (defBody (top 36)) (defScope (top 36)) [] [] fa fd ∧ mg "_law_play" = some (.ref fa)
  d_number_of : ∃ fa fd, FunD K "number_of" "number_of" (defArgs (top 14)) (defBody (top 14)) (defScope (top 14)) [] [] fa fd ∧ mg "number_of" = some (.ref fa)
  d_unquoted : ∃ fa fd, FunD K "unquoted" "unquoted" (defArgs (top 11)) (defBody (top 11)) (defScope (top 11)) [] [] fa fd ∧ mg "unquoted" = some (.ref fa)
  d_parts_of : ∃ fa fd, FunD K "parts_of" "parts_of" (defArgs (top 15)) (defBody (top 15)) (defScope (top 15)) [] [] fa fd ∧ mg "parts_of" = some (.ref fa)
  d_ask_from : ∃ fa fd, FunD K "ask_from" "ask_from" (defArgs (top 16)) (defBody (top 16)) (defScope (top 16)) [] [] fa fd ∧ mg "ask_from" = some (.ref fa)
  d_edit_from : ∃ fa fd, FunD K "edit_from" "edit_from" (defArgs (top 17)) (defBody (top 17)) (defScope (top 17)) [] [] fa fd ∧ mg "edit_from" = some (.ref fa)
  d_step_from : ∃ fa fd, FunD K "step_from" "step_from" (defArgs (top 18)) (defBody (top 18)) (defScope (top 18)) [] [] fa fd ∧ mg "step_from" = some (.ref fa)
  d_read : ∃ fa fd, FunD K "read" "read" (defArgs (top 19)) (defBody (top 19)) (defScope (top 19)) [] [] fa fd ∧ mg "read" = some (.ref fa)
  d_quoted : ∃ fa fd, FunD K "quoted" "quoted" (defArgs (top 10)) (defBody (top 10)) (defScope (top 10)) [] [] fa fd ∧ mg "quoted" = some (.ref fa)
  d_words_of : ∃ fa fd, FunD K "words_of" "words_of" (defArgs (top 12)) (defBody (top 12)) (defScope (top 12)) [] [] fa fd ∧ mg "words_of" = some (.ref fa)
  d_written : ∃ fa fd, FunD K "written" "written" (defArgs (top 13)) (defBody (top 13)) (defScope (top 13)) [] [] fa fd ∧ mg "written" = some (.ref fa)
  d__law_same : ∃ fa fd, FunD K "_law_same" "_law_same" (defArgs (top 23)) (defBody (top 23)) (defScope (top 23)) [] [] fa fd ∧ mg "_law_same" = some (.ref fa)
  d__law_quoted : ∃ fa fd, FunD K "_law_quoted" "_law_quoted" (defArgs (top 37)) (defBody (top 37)) (defScope (top 37)) [] [] fa fd ∧ mg "_law_quoted" = some (.ref fa)
  d__law_words : ∃ fa fd, FunD K "_law_words" "_law_words" (defArgs (top 38)) (defBody (top 38)) (defScope (top 38)) [] [] fa fd ∧ mg "_law_words" = some (.ref fa)
  d_law : ∃ fa fd, FunD K "law" "law" (defArgs (top 39)) (defBody (top 39)) (defScope (top 39)) [] [] fa fd ∧ mg "law" = some (.ref fa)
section
variable {P : Program} {w : World} {K : PySem.W.Frag} {mg : Str → Option Value} {base : Heap}
abbrev N__law_start : List Str := ["_law_script", "_law_mixed", "_law_cell"]
theorem sc__law_start : FnScope N__law_start ["_law_script"] (defScope (top 21)) := C8.fnScope_by (by decide +kernel)
theorem ok__law_start {fa : Addr} {fd : FuncData} (F : FunD K "_law_start" "_law_start" (defArgs (top 21)) (defBody (top 21)) (defScope (top 21)) [] [] fa fd) : FnOk P w K mg base (L2.CX P w) 2 fa fd ["_law_script"] (spStart K) :=
  F.ok (k := 1) sc__law_start (fun vs H Q E h => by obtain ⟨a, ns, rfl, _⟩ := h; rfl) fun cdv A outer s H vs Q E hr h => ⟨tStart K,
    pss_cons (ps_set sc__law_start.nd rfl (Or.inl rfl) pe_int) (pss_cons (ps_for psD rfl (pi_list (pe_var rfl (Or.inl rfl))) (pg_name sc__law_start.nd rfl (Or.inl rfl)) (pss_one (ps_set sc__law_start.nd rfl (Or.inl rfl) (pe_op op_mod (pe_op op_add (pe_op op_add (pe_op op_mul (pe_var rfl (Or.inl rfl)) pe_int) (pe_var rfl (Or.inl rfl))) pe_int) pe_int))))
      (pss_one (ps_ret (pe_lst (pa_cons (pe_var rfl (Or.inl rfl)) (pa_cons pe_int (pa_cons (pe_var rfl (Or.inl rfl)) (pa_cons pe_int pa_nil)))))))), start_run h⟩
abbrev N__law_drawn : List Str := ["_law_state", "_law_many", "_law_found", "_law_cell"]
theorem sc__law_drawn : FnScope N__law_drawn ["_law_state", "_law_many"] (defScope (top 22)) := C8.fnScope_by (by decide +kernel)
theorem c__law_drawn (Y : Fx w K mg) (a p : Addr) (ns : List Int) : Cal P w K mg base "_law_drawn" 2 2 (genZ K a ns p) (drawR p ns) := by
  obtain ⟨fa, fd, F, hm⟩ := Y.d__law_drawn
  refine cal_draw (F.ok (k := 1) sc__law_drawn (fun vs H Q E h => by obtain ⟨p, a, ns, g, n, rfl, _⟩ := h; rfl) fun cdv A outer s H vs Q E hr h => ⟨tDraw K, ?_, draw_run h⟩) hm F.kp (F.bindsN fun _ _ _ _ _ _ us hl => match us, hl with | [_, _], _ => rfl)
  exact pss_cons (ps_if (pt_cmpR op_gt (pe_ix ix_seq (pe_var rfl (Or.inl rfl)) pe_int fun _ _ => rfl) pe_int (nomark _)) (pss_cons (ps_set sc__law_drawn.nd rfl (Or.inl rfl) (pe_op op_mod (pe_ix ix_seq (pe_var rfl (Or.inl rfl)) pe_int fun _ _ => rfl) (pe_var rfl (Or.inl rfl))))
      (pss_cons (ps_asg (pe_op op_fdivW (pe_ix ix_seq (pe_var rfl (Or.inl rfl)) pe_int fun _ _ => rfl) (pe_var rfl (Or.inl rfl))) (pg_sub (pe_var rfl (Or.inl rfl)) pe_int set_list)) (pss_one (ps_ret (pe_var rfl (Or.inl rfl)))))) pss_nil)
    (pss_cons (ps_asg (pe_op op_add (pe_ix ix_seq (pe_var rfl (Or.inl rfl)) pe_int fun _ _ => rfl) pe_int) (pg_sub (pe_var rfl (Or.inl rfl)) pe_int set_list))
    (pss_cons (ps_if (pt_cmpR op_le (pe_ix ix_seq (pe_var rfl (Or.inl rfl)) pe_int fun _ _ => rfl) (pe_callB call_len rfl Y.fr_len boot_len (pa_cons (pe_ix ix_seq (pe_var rfl (Or.inl rfl)) pe_int fun _ _ => rfl) pa_nil)) (nomark _))
        (pss_cons (ps_set sc__law_drawn.nd rfl (Or.inl rfl) (pe_ix ix_seq (pe_ix ix_seq (pe_var rfl (Or.inl rfl)) pe_int fun _ _ => rfl) (pe_op op_sub (pe_ix ix_seq (pe_var rfl (Or.inl rfl)) pe_int fun _ _ => rfl) pe_int) fun _ _ => rfl))
          (pss_cons (ps_asg (pe_ifExp (pt_cmpR op_ge (pe_var rfl (Or.inl rfl)) (pe_op op_pow pe_int pe_int) (nomark _)) (pe_op op_fdivW (pe_var rfl (Or.inl rfl)) (pe_var rfl (Or.inl rfl))) pe_int) (pg_sub (pe_var rfl (Or.inl rfl)) pe_int set_list))
            (pss_one (ps_ret (pe_op op_mod (pe_var rfl (Or.inl rfl)) (pe_var rfl (Or.inl rfl))))))) pss_nil)
    (pss_cons (ps_asg (pe_op op_mod (pe_op op_add (pe_op op_mul (pe_ix ix_seq (pe_var rfl (Or.inl rfl)) pe_int fun _ _ => rfl) pe_int) pe_int) pe_int) (pg_sub (pe_var rfl (Or.inl rfl)) pe_int set_list))
    (pss_one (ps_ret (pe_op op_mod (pe_op op_fdivW (pe_ix ix_seq (pe_var rfl (Or.inl rfl)) pe_int fun _ _ => rfl) pe_int) (pe_var rfl (Or.inl rfl))))))))
abbrev N__law_sign : List Str := ["_law_state", "_law_every"]
theorem sc__law_sign : FnScope N__law_sign ["_law_state"] (defScope (top 24)) := C8.fnScope_by (by decide +kernel)
theorem c__law_sign (Y : Fx w K mg) (a p : Addr) (ns : List Int) : Cal P w K mg base "_law_sign" 3 1 (genZ K a ns p) (HW.run__law_sign p ns) := by
  obtain ⟨fa, fd, F, hm⟩ := Y.d__law_sign
  exact cal_of (k := 2) F hm sc__law_sign (fun _ _ _ _ _ _ us hl => match us, hl with | [_], _ => rfl) fun cdv A outer s H E hr => r1 hr (by omega) fun h1 => dss_cons (ds_set (de_str [32, 33, 34, 35, 36, 38, 39, 40, 41, 42, 43, 44, 45, 46, 47, 48, 49, 50, 51, 52, 53, 54, 55, 56, 57, 58, 59, 60, 61, 62, 63, 64, 65, 66, 67, 68, 69, 70, 71, 72, 73, 74, 75, 76, 77, 78, 79, 80, 81, 82, 83, 84, 85, 86, 87, 88, 89, 90, 91, 93, 94, 95, 96, 97, 98, 99, 100, 101, 102, 103, 104, 105, 106, 107, 108, 109, 110, 111, 112, 113, 114, 115, 116, 117, 118, 119, 120, 121, 122, 123, 124, 125, 126, 10]) sc__law_sign.nd) (dss_one (ds_ret (de_ix (de_lst (da_cons (de_ix (de_str [97, 98, 32, 10]) (de_call (c__law_drawn Y a p ns) (hr.mono (by omega)) tkD (da_cons (de_var 0) (da_cons (de_int) (da_nil))))) (da_cons (de_ix (de_var 1) (de_call (c__law_drawn Y a p ns) (hr.mono (by omega)) tkD (da_cons (de_var 0) (da_cons (de_callB call_lenA cs_len Y.fr_len (dr_cons (de_var 1) (dr_nil))) (da_nil))))) (da_nil)))) (de_div (de_call (c__law_drawn Y a p ns) (hr.mono (by omega)) tkD (da_cons (de_var 0) (da_cons (de_int) (da_nil)))) (de_int)))))
abbrev N__law_put : List Str := ["_law_state", "_law_most", "_law_words_here", "_law_found", "_law_k"]
theorem sc__law_put : FnScope N__law_put ["_law_state", "_law_most"] (defScope (top 25)) := C8.fnScope_by (by decide +kernel)
theorem c__law_put (Y : Fx w K mg) (a p : Addr) (ns : List Int) : Cal P w K mg base "_law_put" 4 2 (genZ K a ns p) (HW.run__law_put p ns) := by
  obtain ⟨fa, fd, F, hm⟩ := Y.d__law_put
  exact cal_of (k := 3) F hm sc__law_put (fun _ _ _ _ _ _ us hl => match us, hl with | [_, _], _ => rfl) fun cdv A outer s H E hr => r1 hr (by omega) fun h1 => dss_cons (ds_set (de_lst (da_cons (de_str [97]) (da_cons (de_str [97, 98]) (da_cons (de_str [98]) (da_cons (de_str [97, 98, 97]) (da_cons (de_str [32]) (da_cons (de_str [10]) (da_cons (de_str [44]) (da_cons (de_str [97, 98, 99, 100, 101, 102, 103, 104]) (da_cons (de_str []) (da_nil))))))))))) sc__law_put.nd) (dss_cons (ds_set (de_str []) sc__law_put.nd) (dss_cons (ds_for (di_rng1 (dr_cons (de_call (c__law_drawn Y a p ns) (hr.mono (by omega)) tkD (da_cons (de_var 0) (da_cons (de_ix (de_lst (da_cons (de_int) (da_cons (de_int) (da_cons (de_int) (da_nil))))) (de_call (c__law_drawn Y a p ns) (hr.mono (by omega)) tkD (da_cons (de_var 0) (da_cons (de_int) (da_nil))))) (da_nil)))) (dr_nil)) Y.fr_range) (dg_nm sc__law_put.nd) (dss_one (ds_set (de_add (de_var 3) (de_ix (de_lst (da_cons (de_ix (de_var 2) (de_call (c__law_drawn Y a p ns) (hr.mono (by omega)) tkD (da_cons (de_var 0) (da_cons (de_int) (da_nil))))) (da_cons (de_call (c__law_sign Y a p ns) (hr.mono (by omega)) tkD (da_cons (de_var 0) (da_nil))) (da_nil)))) (de_div (de_call (c__law_drawn Y a p ns) (hr.mono (by omega)) tkD (da_cons (de_var 0) (da_cons (de_int) (da_nil)))) (de_int)))) sc__law_put.nd)) psD rfl) (dss_one (ds_ret (de_slice (de_var 3) (do_no) (do_so (de_var 1)))))))
abbrev N__law_sheet : List Str := ["_law_state"]
theorem sc__law_sheet : FnScope N__law_sheet ["_law_state"] (defScope (top 26)) := C8.fnScope_by (by decide +kernel)
theorem c__law_sheet (Y : Fx w K mg) (a p : Addr) (ns : List Int) : Cal P w K mg base "_law_sheet" 5 1 (genZ K a ns p) (HW.run__law_sheet p ns) := by
  obtain ⟨fa, fd, F, hm⟩ := Y.d__law_sheet
  exact cal_of (k := 4) F hm sc__law_sheet (fun _ _ _ _ _ _ us hl => match us, hl with | [_], _ => rfl) fun cdv A outer s H E hr => r1 hr (by omega) fun h1 => dss_one (ds_ret (de_slice (de_mul (de_call (c__law_put Y a p ns) (hr.mono (by omega)) tkD (da_cons (de_var 0) (da_cons (de_int) (da_nil)))) (de_add (de_int) (de_call (c__law_drawn Y a p ns) (hr.mono (by omega)) tkD (da_cons (de_var 0) (da_cons (de_int) (da_nil)))))) (do_no) (do_so (de_ix (de_lst (da_cons (de_int) (da_cons (de_int) (da_nil)))) (de_call (c__law_drawn Y a p ns) (hr.mono (by omega)) tkD (da_cons (de_var 0) (da_cons (de_int) (da_nil))))))))
abbrev N__law_at : List Str := ["_law_sheet_here", "_law_number", "_law_row", "_law_column", "_law_sign_here"]
theorem sc__law_at : FnScope N__law_at ["_law_sheet_here", "_law_number"] (defScope (top 27)) := C8.fnScope_by (by decide +kernel)
theorem c__law_at (Y : Fx w K mg) : Cal P w K mg base "_law_at" 2 2 ZU HW.run__law_at := by
  obtain ⟨fa, fd, F, hm⟩ := Y.d__law_at
  exact cal_of (k := 1) F hm sc__law_at (fun _ _ _ _ _ _ us hl => match us, hl with | [_, _], _ => rfl) fun cdv A outer s H E hr => r1 hr (by omega) fun h1 => dss_cons (ds_asg (de_tup (da_cons (de_int) (da_cons (de_int) (da_nil)))) (dg_tup rfl (dgs_cons (dg_nm sc__law_at.nd) (dgs_cons (dg_nm sc__law_at.nd) (dgs_nil))) (gl_cons (gl_cons (gl_nil))))) (dss_cons (ds_for (di_seq (de_slice (de_var 0) (do_no) (do_so (de_var 1)))) (dg_nm sc__law_at.nd) (dss_one (ds_asg (de_ix (de_lst (da_cons (de_tup (da_cons (de_var 2) (da_cons (de_add (de_var 3) (de_int)) (da_nil)))) (da_cons (de_tup (da_cons (de_add (de_var 2) (de_int)) (da_cons (de_int) (da_nil)))) (da_nil)))) (de_callTy call_intA cs_int Y.fr_int (dr_cons (de_cmp (cp_eq h1) (de_var 4) (de_str [10])) (dr_nil)))) (dg_tup rfl (dgs_cons (dg_nm sc__law_at.nd) (dgs_cons (dg_nm sc__law_at.nd) (dgs_nil))) (gl_cons (gl_cons (gl_nil)))))) psD rfl) (dss_one (ds_ret (de_tup (da_cons (de_var 2) (da_cons (de_var 3) (da_nil)))))))
abbrev N__law_runs : List Str := ["_law_sheet_here", "_law_found", "_law_letters", "_law_start_here", "_law_end"]
theorem sc__law_runs : FnScope N__law_runs ["_law_sheet_here"] (defScope (top 33)) := C8.fnScope_by (by decide +kernel)
theorem c__law_runs (Y : Fx w K mg) : Cal P w K mg base "_law_runs" 2 1 ZU HW.run__law_runs := by
  obtain ⟨fa, fd, F, hm⟩ := Y.d__law_runs
  exact cal_of (k := 1) F hm sc__law_runs (fun _ _ _ _ _ _ us hl => match us, hl with | [_], _ => rfl) fun cdv A outer s H E hr => r1 hr (by omega) fun h1 => dss_cons (ds_set (de_lst (da_nil)) sc__law_runs.nd) (dss_cons (ds_set (de_str [97, 98, 99, 100, 101, 102, 103, 104, 105, 106, 107, 108, 109, 110, 111, 112, 113, 114, 115, 116, 117, 118, 119, 120, 121, 122]) sc__law_runs.nd) (dss_cons (ds_for (di_rng1 (dr_cons (de_callB call_lenA cs_len Y.fr_len (dr_cons (de_var 0) (dr_nil))) (dr_nil)) Y.fr_range) (dg_nm sc__law_runs.nd) (dss_one (ds_if (dt_w (dw_and (dt_cmp (cp_in h1) (de_ix (de_var 0) (de_var 3)) (de_var 2)) (dw_and1 (dt_w (dw_or (dt_cmp (cp_eq h1) (de_var 3) (de_int)) (dw_or1 (dt_cmp (cp_notIn h1) (de_ix (de_var 0) (de_sub (de_var 3) (de_int))) (de_var 2)))))))) (dss_cons (ds_set (de_var 3) sc__law_runs.nd) (dss_cons (ds_while WH (dt_w (dw_and (dt_cmp (cp_lt) (de_var 4) (de_callB call_lenA cs_len Y.fr_len (dr_cons (de_var 0) (dr_nil)))) (dw_and1 (dt_cmp (cp_in h1) (de_ix (de_var 0) (de_var 4)) (de_var 2))))) (dss_one (ds_set (de_add (de_var 4) (de_int)) sc__law_runs.nd)) psD) (dss_one (ds_frz (i := 4) (ds_app (de_tup (da_cons (de_var 3) (da_cons (de_var 4) (da_nil))))))))) (dss_nil))) psD rfl) (dss_one (ds_ret (de_var 1)))))
abbrev N__law_name : List Str := ["_law_state", "_law_sheet_here", "_law_some", "_law_start_here", "_law_end", "_law_letters", "_law_k"]
theorem sc__law_name : FnScope N__law_name ["_law_state", "_law_sheet_here"] (defScope (top 32)) := C8.fnScope_by (by decide +kernel)
theorem c__law_name (Y : Fx w K mg) (a p : Addr) (ns : List Int) : Cal P w K mg base "_law_name" 3 2 (genZ K a ns p) (HW.run__law_name p ns) := by
  obtain ⟨fa, fd, F, hm⟩ := Y.d__law_name
  exact cal_of (k := 2) F hm sc__law_name (fun _ _ _ _ _ _ us hl => match us, hl with | [_, _], _ => rfl) fun cdv A outer s H E hr => r1 hr (by omega) fun h1 => dss_cons (ds_set (de_call0 (c__law_runs Y) (hr.mono (by omega)) tkD (da_cons (de_var 1) (da_nil))) sc__law_name.nd) (dss_cons (ds_if (dt_w (dw_and (dt_cmp (cp_ne h1) (de_var 2) (de_lst (da_nil))) (dw_and1 (dt_cmp (cp_gt) (de_call (c__law_drawn Y a p ns) (hr.mono (by omega)) tkD (da_cons (de_var 0) (da_cons (de_int) (da_nil)))) (de_int))))) (dss_cons (ds_asg (de_ix (de_var 2) (de_call (c__law_drawn Y a p ns) (hr.mono (by omega)) tkD (da_cons (de_var 0) (da_cons (de_callB call_lenA cs_len Y.fr_len (dr_cons (de_var 2) (dr_nil))) (da_nil))))) (dg_tup rfl (dgs_cons (dg_nm sc__law_name.nd) (dgs_cons (dg_nm sc__law_name.nd) (dgs_nil))) (gl_cons (gl_cons (gl_nil))))) (dss_one (ds_if (dt_w (dw_or (dt_cmp (cp_lt) (de_sub (de_var 4) (de_var 3)) (de_int)) (dw_or1 (dt_cmp (cp_eq h1) (de_call (c__law_drawn Y a p ns) (hr.mono (by omega)) tkD (da_cons (de_var 0) (da_cons (de_int) (da_nil)))) (de_int))))) (dss_one (ds_ret (de_slice (de_slice (de_var 1) (do_so (de_var 3)) (do_so (de_var 4))) (do_no) (do_so (de_add (de_int) (de_call (c__law_drawn Y a p ns) (hr.mono (by omega)) tkD (da_cons (de_var 0) (da_cons (de_int) (da_nil))))))))) (dss_nil)))) (dss_nil)) (dss_cons (ds_set (de_ix (de_lst (da_cons (de_str [97, 98]) (da_cons (de_str [97, 98, 99, 100, 101, 102, 103, 104, 105, 106, 107, 108, 109, 110, 111, 112, 113, 114, 115, 116, 117, 118, 119, 120, 121, 122]) (da_nil)))) (de_call (c__law_drawn Y a p ns) (hr.mono (by omega)) tkD (da_cons (de_var 0) (da_cons (de_int) (da_nil))))) sc__law_name.nd) (dss_one (ds_ret (de_join (de_str []) (de_lc (own := [("_law_k", 6)]) rfl sc__law_name.nd (di_rng1 (dr_cons (de_add (de_int) (de_call (c__law_drawn Y a p ns) (hr.mono (by omega)) tkD (da_cons (de_var 0) (da_cons (de_int) (da_nil))))) (dr_nil)) Y.fr_range) (blkOk_by (by kernel_rfl)) (fun _ _ _ _ _ => dg_nm sc__law_name.nd) (fun _ _ _ _ _ => dts_nil) (fun _ _ _ _ _ => de_ix (de_var 5) (de_call (c__law_drawn Y a p ns) (hr.mono (by omega)) tkB (da_cons (de_var 0) (da_cons (de_callB call_lenA cs_len Y.fr_len (dr_cons (de_var 5) (dr_nil))) (da_nil)))))))))))
abbrev N__law_want : List Str := ["_law_state", "_law_sheet_here", "_law_place", "_law_name_here"]
theorem sc__law_want : FnScope N__law_want ["_law_state", "_law_sheet_here"] (defScope (top 34)) := C8.fnScope_by (by decide +kernel)
theorem c__law_want (Y : Fx w K mg) (a p : Addr) (ns : List Int) : Cal P w K mg base "_law_want" 4 2 (genZ K a ns p) (HW.run__law_want p ns) := by
  obtain ⟨fa, fd, F, hm⟩ := Y.d__law_want
  exact cal_of (k := 3) F hm sc__law_want (fun _ _ _ _ _ _ us hl => match us, hl with | [_, _], _ => rfl) fun cdv A outer s H E hr => r1 hr (by omega) fun h1 => dss_cons (ds_set (de_call0 (c__law_at Y) (hr.mono (by omega)) tkD (da_cons (de_var 1) (da_cons (de_call (c__law_drawn Y a p ns) (hr.mono (by omega)) tkD (da_cons (de_var 0) (da_cons (de_add (de_callB call_lenA cs_len Y.fr_len (dr_cons (de_var 1) (dr_nil))) (de_int)) (da_nil)))) (da_nil)))) sc__law_want.nd) (dss_cons (ds_set (de_call (c__law_name Y a p ns) (hr.mono (by omega)) tkD (da_cons (de_var 0) (da_cons (de_var 1) (da_nil)))) sc__law_want.nd) (dss_one (ds_frz (i := 2) (ds_frz (i := 3) (ds_ret (de_ix (de_lst (da_cons (de_tup (da_cons (de_str [102, 105, 110, 100]) (da_cons (de_var 3) (da_nil)))) (da_cons (de_tup (da_cons (de_str [114, 111, 119, 115]) (da_cons (de_var 3) (da_nil)))) (da_cons (de_tup (da_cons (de_str [119, 111, 114, 100]) (da_cons (de_var 2) (da_nil)))) (da_cons (de_tup (da_cons (de_str [114, 101, 110, 97, 109, 101]) (da_cons (de_var 2) (da_cons (de_var 3) (da_nil))))) (da_nil)))))) (de_call (c__law_drawn Y a p ns) (hr.mono (by omega)) tkD (da_cons (de_var 0) (da_cons (de_int) (da_nil))))))))))
abbrev N__law_numbers : List Str := ["_law_sheet_here", "_law_found", "_law_row", "_law_column", "_law_number", "_law_sign_here"]
theorem sc__law_numbers : FnScope N__law_numbers ["_law_sheet_here"] (defScope (top 28)) := C8.fnScope_by (by decide +kernel)
theorem c__law_numbers (Y : Fx w K mg) : Cal P w K mg base "_law_numbers" 2 1 ZU HW.run__law_numbers := by
  obtain ⟨fa, fd, F, hm⟩ := Y.d__law_numbers
  exact cal_of (k := 1) F hm sc__law_numbers (fun _ _ _ _ _ _ us hl => match us, hl with | [_], _ => rfl) fun cdv A outer s H E hr => r1 hr (by omega) fun h1 => dss_cons (ds_par3 (de_dispT (de_tup (da_cons (de_int) (da_cons (de_int) (da_nil)))) (de_int) h1) (de_int) (de_int) rfl sc__law_numbers.nd) (dss_cons (ds_for (di_enum (dk_a (da_cons (de_var 0) da_nil)) Y.fr_enumerate) (dg_tup rfl (dgs_cons (dg_nm sc__law_numbers.nd) (dgs_cons (dg_nm sc__law_numbers.nd) (dgs_nil))) (gl_cons (gl_cons (gl_nil)))) (dss_cons (ds_asg (de_ix (de_lst (da_cons (de_tup (da_cons (de_var 2) (da_cons (de_add (de_var 3) (de_int)) (da_nil)))) (da_cons (de_tup (da_cons (de_add (de_var 2) (de_int)) (da_cons (de_int) (da_nil)))) (da_nil)))) (de_callTy call_intA cs_int Y.fr_int (dr_cons (de_cmp (cp_eq h1) (de_var 5) (de_str [10])) (dr_nil)))) (dg_tup rfl (dgs_cons (dg_nm sc__law_numbers.nd) (dgs_cons (dg_nm sc__law_numbers.nd) (dgs_nil))) (gl_cons (gl_cons (gl_nil))))) (dss_one (ds_dput (de_tup (da_cons (de_var 2) (da_cons (de_var 3) (da_nil)))) (de_add (de_var 4) (de_int)) h1))) psD rfl) (dss_one (ds_ret (de_var 1))))
abbrev N__law_after : List Str := ["_law_sheet_here", "_law_one", "_law_known", "_law_start_here", "_law_end"]
theorem sc__law_after : FnScope N__law_after ["_law_sheet_here", "_law_one"] (defScope (top 30)) := C8.fnScope_by (by decide +kernel)
theorem c__law_after (Y : Fx w K mg) : Cal P w K mg base "_law_after" 3 2 ZU HW.run__law_after := by
  obtain ⟨fa, fd, F, hm⟩ := Y.d__law_after
  exact cal_of (k := 2) F hm sc__law_after (fun _ _ _ _ _ _ us hl => match us, hl with | [_, _], _ => rfl) fun cdv A outer s H E hr => r1 hr (by omega) fun h1 => dss_cons (ds_set (de_call0 (c__law_numbers Y) (hr.mono (by omega)) tkD (da_cons (de_var 0) (da_nil))) sc__law_after.nd) (dss_cons (ds_par2 (de_dget (de_var 2) (de_ix (de_var 1) (de_int)) h1) (de_dget (de_var 2) (de_ix (de_var 1) (de_int)) h1) rfl sc__law_after.nd) (dss_one (ds_ret (de_add (de_add (de_slice (de_var 0) (do_no) (do_so (de_var 3))) (de_ix (de_var 1) (de_int))) (de_slice (de_var 0) (do_so (de_var 4)) (do_no))))))
abbrev N__law_edit : List Str := ["_law_state", "_law_sheet_here", "_law_some", "_law_put_here"]
theorem sc__law_edit : FnScope N__law_edit ["_law_state", "_law_sheet_here"] (defScope (top 29)) := C8.fnScope_by (by decide +kernel)
theorem c__law_edit (Y : Fx w K mg) (a p : Addr) (ns : List Int) : Cal P w K mg base "_law_edit" 5 2 (genZ K a ns p) (HW.run__law_edit p ns) := by
  obtain ⟨fa, fd, F, hm⟩ := Y.d__law_edit
  exact cal_of (k := 4) F hm sc__law_edit (fun _ _ _ _ _ _ us hl => match us, hl with | [_, _], _ => rfl) fun cdv A outer s H E hr => r1 hr (by omega) fun h1 => dss_cons (ds_set (de_callB cr_sortedI cs_sorted Y.fr_sorted (dr_cons (de_lst (da_cons (de_call (c__law_drawn Y a p ns) (hr.mono (by omega)) tkD (da_cons (de_var 0) (da_cons (de_add (de_callB call_lenA cs_len Y.fr_len (dr_cons (de_var 1) (dr_nil))) (de_int)) (da_nil)))) (da_cons (de_call (c__law_drawn Y a p ns) (hr.mono (by omega)) tkD (da_cons (de_var 0) (da_cons (de_add (de_callB call_lenA cs_len Y.fr_len (dr_cons (de_var 1) (dr_nil))) (de_int)) (da_nil)))) (da_nil)))) (dr_nil))) sc__law_edit.nd) (dss_cons (ds_if (dt_cmp (cp_gt) (de_call (c__law_drawn Y a p ns) (hr.mono (by omega)) tkD (da_cons (de_var 0) (da_cons (de_int) (da_nil)))) (de_int)) (dss_one (ds_put (de_int) (de_callB (call_min2 rfl) cs_min Y.fr_min (dr_cons (de_callB call_lenA cs_len Y.fr_len (dr_cons (de_var 1) (dr_nil))) (dr_cons (de_add (de_ix (de_var 2) (de_int)) (de_call (c__law_drawn Y a p ns) (hr.mono (by omega)) tkD (da_cons (de_var 0) (da_cons (de_int) (da_nil))))) (dr_nil)))))) (dss_nil)) (dss_cons (ds_set (de_call (c__law_put Y a p ns) (hr.mono (by omega)) tkD (da_cons (de_var 0) (da_cons (de_callB (call_min2 rfl) cs_min Y.fr_min (dr_cons (de_int) (dr_cons (de_sub (de_add (de_sub (de_int) (de_callB call_lenA cs_len Y.fr_len (dr_cons (de_var 1) (dr_nil)))) (de_ix (de_var 2) (de_int))) (de_ix (de_var 2) (de_int))) (dr_nil)))) (da_nil)))) sc__law_edit.nd) (dss_one (ds_frz (i := 3) (ds_ret (de_tup (da_cons (de_call0 (c__law_at Y) (hr.mono (by omega)) tkD (da_cons (de_var 1) (da_cons (de_ix (de_var 2) (de_int)) (da_nil)))) (da_cons (de_call0 (c__law_at Y) (hr.mono (by omega)) tkD (da_cons (de_var 1) (da_cons (de_ix (de_var 2) (de_int)) (da_nil)))) (da_cons (de_var 3) (da_nil))))))))))
abbrev N__law_edits : List Str := ["_law_state", "_law_sheet_here", "_law_most", "_law_found", "_law_k"]
theorem sc__law_edits : FnScope N__law_edits ["_law_state", "_law_sheet_here", "_law_most"] (defScope (top 31)) := C8.fnScope_by (by decide +kernel)
theorem c__law_edits (Y : Fx w K mg) (a p : Addr) (ns : List Int) : Cal P w K mg base "_law_edits" 6 3 (genZ K a ns p) (HW.run__law_edits p ns) := by
  obtain ⟨fa, fd, F, hm⟩ := Y.d__law_edits
  exact cal_of (k := 5) F hm sc__law_edits (fun _ _ _ _ _ _ us hl => match us, hl with | [_, _, _], _ => rfl) fun cdv A outer s H E hr => r1 hr (by omega) fun h1 => dss_cons (ds_set (de_lst (da_nil)) sc__law_edits.nd) (dss_cons (ds_for (di_rng1 (dr_cons (de_call (c__law_drawn Y a p ns) (hr.mono (by omega)) tkD (da_cons (de_var 0) (da_cons (de_add (de_var 2) (de_int)) (da_nil)))) (dr_nil)) Y.fr_range) (dg_nm sc__law_edits.nd) (dss_cons (ds_app (de_call (c__law_edit Y a p ns) (hr.mono (by omega)) tkD (da_cons (de_var 0) (da_cons (de_var 1) (da_nil))))) (dss_one (ds_set (de_call0 (c__law_after Y) (hr.mono (by omega)) tkD (da_cons (de_var 1) (da_cons (de_ix (de_var 3) (de_neg (de_int))) (da_nil)))) sc__law_edits.nd))) psD rfl) (dss_one (ds_frz (i := 3) (ds_ret (de_tup (da_cons (de_var 3) (da_cons (de_var 1) (da_nil))))))))
abbrev N__law_play : List Str := ["_law_state", "_law_files", "_law_found", "_law_turn", "_law_kind", "_law_file", "_law_number", "_law_sheet_here", "_law_some"]
theorem sc__law_play : FnScope N__law_play ["_law_state", "_law_files"] (defScope (top 36)) := C8.fnScope_by (by decide +kernel)
theorem c__law_play (Y : Fx w K mg) (a p : Addr) (ns : List Int) : Cal P w K mg base "_law_play" 7 2 (genZ K a ns p) (HW.run__law_play p ns) := by
  obtain ⟨fa, fd, F, hm⟩ := Y.d__law_play
  exact cal_of (k := 6) F hm sc__law_play (fun _ _ _ _ _ _ us hl => match us, hl with | [_, _], _ => rfl) fun cdv A outer s H E hr => r1 hr (by omega) fun h1 => dss_cons (ds_set (de_lst (da_nil)) sc__law_play.nd) (dss_cons (ds_for (di_rng1 (dr_cons (de_call (c__law_drawn Y a p ns) (hr.mono (by omega)) tkD (da_cons (de_var 0) (da_cons (de_int) (da_nil)))) (dr_nil)) Y.fr_range) (dg_nm sc__law_play.nd) (dss_cons (ds_par2 (de_call (c__law_drawn Y a p ns) (hr.mono (by omega)) tkD (da_cons (de_var 0) (da_cons (de_int) (da_nil)))) (de_call (c__law_drawn Y a p ns) (hr.mono (by omega)) tkD (da_cons (de_var 0) (da_cons (de_var 1) (da_nil)))) rfl sc__law_play.nd) (dss_cons (ds_set (de_call (c__law_drawn Y a p ns) (hr.mono (by omega)) tkD (da_cons (de_var 0) (da_cons (de_ix (de_lst (da_cons (de_int) (da_cons (de_int) (da_nil)))) (de_div (de_call (c__law_drawn Y a p ns) (hr.mono (by omega)) tkD (da_cons (de_var 0) (da_cons (de_int) (da_nil)))) (de_int))) (da_nil)))) sc__law_play.nd) (dss_cons (ds_set (de_slice (de_call (c__law_sheet Y a p ns) (hr.mono (by omega)) tkD (da_cons (de_var 0) (da_nil))) (do_no) (do_so (de_int))) sc__law_play.nd) (dss_cons (ds_frz (i := 7) (ds_frz (i := 5) (ds_set (de_lst (da_cons (de_tup (da_cons (de_str [111, 112, 101, 110]) (da_cons (de_var 5) (da_cons (de_var 7) (da_nil))))) (da_cons (de_tup (da_cons (de_str [111, 112, 101, 110]) (da_cons (de_var 5) (da_cons (de_var 7) (da_nil))))) (da_cons (de_tup (da_cons (de_str [101, 100, 105, 116]) (da_cons (de_var 5) (da_cons (de_callTy call_tuple_of cs_tup Y.fr_tuple (dr_cons (de_ix (de_call (c__law_edits Y a p ns) (hr.mono (by omega)) tkD (da_cons (de_var 0) (da_cons (de_var 7) (da_cons (de_int) (da_nil))))) (de_int)) (dr_nil))) (da_nil))))) (da_nil))))) sc__law_play.nd))) (dss_cons (ds_frz (i := 5) (ds_set (de_add (de_var 8) (de_lst (da_cons (de_tup (da_cons (de_str [101, 100, 105, 116]) (da_cons (de_var 5) (da_cons (de_tup (da_cons (de_tup (da_cons (de_tup (da_cons (de_int) (da_cons (de_int) (da_nil)))) (da_cons (de_tup (da_cons (de_int) (da_cons (de_int) (da_nil)))) (da_cons (de_call (c__law_put Y a p ns) (hr.mono (by omega)) tkD (da_cons (de_var 0) (da_cons (de_int) (da_nil)))) (da_nil))))) (da_nil))) (da_nil))))) (da_cons (de_tup (da_cons (de_str [99, 108, 111, 115, 101]) (da_cons (de_var 5) (da_nil)))) (da_nil))))) sc__law_play.nd)) (dss_cons (ds_frz (i := 7) (ds_frz (i := 6) (ds_frz (i := 5) (ds_set (de_add (de_var 8) (de_lst (da_cons (de_tup (da_cons (de_str [97, 115, 107]) (da_cons (de_var 5) (da_cons (de_call (c__law_want Y a p ns) (hr.mono (by omega)) tkD (da_cons (de_var 0) (da_cons (de_var 7) (da_nil)))) (da_nil))))) (da_cons (de_tup (da_cons (de_str [97, 115, 107]) (da_cons (de_var 5) (da_cons (de_call (c__law_want Y a p ns) (hr.mono (by omega)) tkD (da_cons (de_var 0) (da_cons (de_var 7) (da_nil)))) (da_nil))))) (da_cons (de_tup (da_cons (de_str [111, 102, 102]) (da_cons (de_var 6) (da_nil)))) (da_nil)))))) sc__law_play.nd)))) (dss_cons (ds_frz (i := 6) (ds_set (de_add (de_var 8) (de_lst (da_cons (de_tup (da_cons (de_str [116, 97, 107, 101]) (da_cons (de_var 6) (da_nil)))) (da_cons (de_tup (da_cons (de_str [99, 97, 114, 114, 121]) (da_nil))) (da_cons (de_tup (da_cons (de_str [98, 114, 105, 110, 103]) (da_nil))) (da_cons (de_tup (da_cons (de_str [119, 111, 114, 107]) (da_cons (de_var 6) (da_nil)))) (da_cons (de_tup (da_cons (de_str [102, 97, 108, 108]) (da_nil))) (da_cons (de_tup (da_cons (de_str [97, 110, 101, 119]) (da_nil))) (da_cons (de_tup (da_cons (de_str [115, 101, 116, 116, 108, 101]) (da_nil))) (da_nil)))))))))) sc__law_play.nd)) (dss_one (ds_app (de_ix (de_var 8) (de_var 4))))))))))) psD rfl) (dss_one (ds_ret (de_var 2))))
abbrev N_number_of : List Str := ["word", "sign"]
theorem sc_number_of : FnScope N_number_of ["word"] (defScope (top 14)) := C8.fnScope_by (by decide +kernel)
theorem c_number_of (Y : Fx w K mg) : Cal P w K mg base "number_of" 2 1 ZU HW.run_number_of_2 := by
  obtain ⟨fa, fd, F, hm⟩ := Y.d_number_of
  exact cal_of (k := 1) F hm sc_number_of (fun _ _ _ _ _ _ us hl => match us, hl with | [_], _ => rfl) fun cdv A outer s H E hr => r1 hr (by omega) fun h1 => dss_cons (ds_if (dt_w (dw_or (dt_not (dt_chain cr_le cr_le (de_int) (de_callB call_lenA cs_len Y.fr_len (dr_cons (de_var 0) (dr_nil))) (de_int))) (dw_or1 (dt_cmp (cp_ne h1) (de_lc (own := [("sign", 1)]) rfl sc_number_of.nd (di_seq (de_var 0)) (blkOk_by (by kernel_rfl)) (fun _ _ _ _ _ => dg_nm sc_number_of.nd) (fun _ _ _ _ _ => dts_one (dt_cmp (cp_notIn h1) (de_var 1) (de_gstr [48, 49, 50, 51, 52, 53, 54, 55, 56, 57] Y.g_FIGURES))) (fun _ _ _ _ _ => de_var 1)) (de_lst (da_nil)))))) (dss_one (ds_ret (de_non))) (dss_nil)) (dss_one (ds_ret (de_if (dt_w (dw_or (dt_cmp (cp_eq h1) (de_var 0) (de_str [48])) (dw_or1 (dt_cmp (cp_ne h1) (de_ix (de_var 0) (de_int)) (de_str [48]))))) (de_callTy call_intA cs_int Y.fr_int (dr_cons (de_var 0) (dr_nil))) (de_non))))
abbrev N_unquoted : List Str := ["word", "found", "at", "some", "sign"]
theorem sc_unquoted : FnScope N_unquoted ["word"] (defScope (top 11)) := C8.fnScope_by (by decide +kernel)
theorem c_unquoted (Y : Fx w K mg) : Cal P w K mg base "unquoted" 2 1 ZU HW.run_unquoted := by
  obtain ⟨fa, fd, F, hm⟩ := Y.d_unquoted
  exact cal_of (k := 1) F hm sc_unquoted (fun _ _ _ _ _ _ us hl => match us, hl with | [_], _ => rfl) fun cdv A outer s H E hr => r1 hr (by omega) fun h1 => dss_cons (ds_if (dt_cmp (cp_eq h1) (de_var 0) (de_add (de_gstr [126] Y.g_MARK) (de_str [46]))) (dss_one (ds_ret (de_str []))) (dss_nil)) (dss_cons (ds_set (de_str []) sc_unquoted.nd) (dss_cons (ds_set (de_int) sc_unquoted.nd) (dss_cons (ds_while WH (dt_cmp (cp_lt) (de_var 2) (de_callB call_lenA cs_len Y.fr_len (dr_cons (de_var 0) (dr_nil)))) (dss_cons (ds_setLc (own := [("sign", 4)]) rfl sc_unquoted.nd (di_kd Y.t_SIGNS) (blkOk_by (by kernel_rfl)) (fun _ _ _ _ _ => dg_nm sc_unquoted.nd) (fun _ _ _ _ _ => dts_one (dt_cmp (cp_eq h1) (de_slice (de_var 0) (do_so (de_var 2)) (do_so (de_add (de_var 2) (de_int)))) (de_add (de_gstr [126] Y.g_MARK) (de_tget Y.t_SIGNS (de_var 4))))) (fun _ _ _ _ _ => de_var 4)) (dss_cons (ds_if (dt_w (dw_and (dt_cmp (cp_eq h1) (de_ix (de_var 0) (de_var 2)) (de_gstr [126] Y.g_MARK)) (dw_and1 (dt_cmp (cp_eq h1) (de_var 3) (de_lst (da_nil)))))) (dss_one (ds_ret (de_non))) (dss_nil)) (dss_cons (ds_set (de_add (de_var 1) (de_if (dt_cmp (cp_ne h1) (de_var 3) (de_lst (da_nil))) (de_ix (de_var 3) (de_int)) (de_ix (de_var 0) (de_var 2)))) sc_unquoted.nd) (dss_one (ds_set (de_add (de_add (de_var 2) (de_int)) (de_callB call_lenA cs_len Y.fr_len (dr_cons (de_var 3) (dr_nil)))) sc_unquoted.nd))))) psD) (dss_one (ds_ret (de_if (dt_cmp (cp_ne h1) (de_var 1) (de_str [])) (de_var 1) (de_non)))))))
abbrev N_parts_of : List Str := ["words", "shape", "found", "word", "sign"]
theorem sc_parts_of : FnScope N_parts_of ["words", "shape"] (defScope (top 15)) := C8.fnScope_by (by decide +kernel)
theorem c_parts_of (Y : Fx w K mg) : Cal P w K mg base "parts_of" 3 2 ZU HW.run_parts_of := by
  obtain ⟨fa, fd, F, hm⟩ := Y.d_parts_of
  exact cal_of (k := 2) F hm sc_parts_of (fun _ _ _ _ _ _ us hl => match us, hl with | [_, _], _ => rfl) fun cdv A outer s H E hr => r1 hr (by omega) fun h1 => dss_cons (ds_if (dt_cmp (cp_ne h1) (de_callB call_lenA cs_len Y.fr_len (dr_cons (de_var 0) (dr_nil))) (de_callB call_lenA cs_len Y.fr_len (dr_cons (de_var 1) (dr_nil)))) (dss_one (ds_ret (de_non))) (dss_nil)) (dss_cons (ds_setLc (own := [("word", 3), ("sign", 4)]) rfl sc_parts_of.nd (di_zip (dk_r (dr_cons (de_var 0) (dr_cons (de_var 1) dr_nil))) Y.fr_zip) (blkOk_by (by kernel_rfl)) (fun _ _ _ _ _ => dg_tup rfl (dgs_cons (dg_nm sc_parts_of.nd) (dgs_cons (dg_nm sc_parts_of.nd) (dgs_nil))) (gl_cons (gl_cons (gl_nil)))) (fun _ _ _ _ _ => dts_nil) (fun _ _ _ _ _ => de_if (dt_cmp (cp_eq h1) (de_var 4) (de_str [110])) (de_call0 (c_number_of Y) (hr.mono (by omega)) tkB (da_cons (de_var 3) (da_nil))) (de_call0 (c_unquoted Y) (hr.mono (by omega)) tkB (da_cons (de_var 3) (da_nil))))) (dss_one (ds_ret (de_if (dt_cmp (cp_in h1) (de_non) (de_var 2)) (de_non) (de_var 2)))))
abbrev N_ask_from : List Str := ["words", "file", "parts"]
theorem sc_ask_from : FnScope N_ask_from ["words"] (defScope (top 16)) := C8.fnScope_by (by decide +kernel)
theorem c_ask_from (Y : Fx w K mg) : Cal P w K mg base "ask_from" 4 1 ZU HW.run_ask_from := by
  obtain ⟨fa, fd, F, hm⟩ := Y.d_ask_from
  exact cal_of (k := 3) F hm sc_ask_from (fun _ _ _ _ _ _ us hl => match us, hl with | [_], _ => rfl) fun cdv A outer s H E hr => r1 hr (by omega) fun h1 => dss_cons (ds_if (dt_w (dw_or (dt_cmp (cp_lt) (de_callB call_lenA cs_len Y.fr_len (dr_cons (de_var 0) (dr_nil))) (de_int)) (dw_or1 (dt_tnin Y.t_WANTS (de_ix (de_var 0) (de_int)))))) (dss_one (ds_ret (de_non))) (dss_nil)) (dss_cons (ds_par2 (de_call0 (c_number_of Y) (hr.mono (by omega)) tkD (da_cons (de_ix (de_var 0) (de_int)) (da_nil))) (de_call0 (c_parts_of Y) (hr.mono (by omega)) tkD (da_cons (de_slice (de_var 0) (do_so (de_int)) (do_no)) (da_cons (de_tget Y.t_WANTS (de_ix (de_var 0) (de_int))) (da_nil)))) rfl sc_ask_from.nd) (dss_cons (ds_if (dt_w (dw_or (dt_isN (de_var 1)) (dw_or1 (dt_isN (de_var 2))))) (dss_one (ds_ret (de_non))) (dss_nil)) (dss_cons (ds_if (dt_cmp (cp_ne h1) (de_tget Y.t_WANTS (de_ix (de_var 0) (de_int))) (de_str [116])) (dss_one (ds_set (de_add (de_lst (da_cons (de_callTy call_tuple_of cs_tup Y.fr_tuple (dr_cons (de_slice (de_var 2) (do_no) (do_so (de_int))) (dr_nil))) (da_nil))) (de_slice (de_var 2) (do_so (de_int)) (do_no))) sc_ask_from.nd)) (dss_nil)) (dss_one (ds_frz (i := 1) (ds_ret (de_tup (da_cons (de_str [97, 115, 107]) (da_cons (de_var 1) (da_cons (de_callTy call_tuple_of cs_tup Y.fr_tuple (dr_cons (de_add (de_lst (da_cons (de_ix (de_var 0) (de_int)) (da_nil))) (de_var 2)) (dr_nil))) (da_nil)))))))))))
abbrev N_edit_from : List Str := ["words", "parts", "edits", "at"]
theorem sc_edit_from : FnScope N_edit_from ["words"] (defScope (top 17)) := C8.fnScope_by (by decide +kernel)
theorem c_edit_from (Y : Fx w K mg) : Cal P w K mg base "edit_from" 4 1 ZU HW.run_edit_from := by
  obtain ⟨fa, fd, F, hm⟩ := Y.d_edit_from
  exact cal_of (k := 3) F hm sc_edit_from (fun _ _ _ _ _ _ us hl => match us, hl with | [_], _ => rfl) fun cdv A outer s H E hr => r1 hr (by omega) fun h1 => dss_cons (ds_set (de_if (dt_cmp (cp_ne h1) (de_var 0) (de_lst (da_nil))) (de_call0 (c_parts_of Y) (hr.mono (by omega)) tkD (da_cons (de_var 0) (da_cons (de_add (de_str [110]) (de_mul (de_str [110, 110, 110, 110, 116]) (de_div (de_callB call_lenA cs_len Y.fr_len (dr_cons (de_var 0) (dr_nil))) (de_int)))) (da_nil)))) (de_non)) sc_edit_from.nd) (dss_cons (ds_if (dt_isN (de_var 1)) (dss_one (ds_ret (de_non))) (dss_nil)) (dss_cons (ds_set (de_lst (da_nil)) sc_edit_from.nd) (dss_cons (ds_for (di_rng3 (dr_cons (de_int) (dr_cons (de_callB call_lenA cs_len Y.fr_len (dr_cons (de_var 1) (dr_nil))) (dr_cons (de_int) (dr_nil)))) Y.fr_range) (dg_nm sc_edit_from.nd) (dss_one (ds_app (de_tup (da_cons (de_tup (da_cons (de_ix (de_var 1) (de_var 3)) (da_cons (de_ix (de_var 1) (de_add (de_var 3) (de_int))) (da_nil)))) (da_cons (de_tup (da_cons (de_ix (de_var 1) (de_add (de_var 3) (de_int))) (da_cons (de_ix (de_var 1) (de_add (de_var 3) (de_int))) (da_nil)))) (da_cons (de_ix (de_var 1) (de_add (de_var 3) (de_int))) (da_nil))))))) psD rfl) (dss_one (ds_ret (de_tup (da_cons (de_str [101, 100, 105, 116]) (da_cons (de_ix (de_var 1) (de_int)) (da_cons (de_callTy call_tuple_of cs_tup Y.fr_tuple (dr_cons (de_var 2) (dr_nil))) (da_nil))))))))))
abbrev N_step_from : List Str := ["words", "parts"]
theorem sc_step_from : FnScope N_step_from ["words"] (defScope (top 18)) := C8.fnScope_by (by decide +kernel)
theorem c_step_from (Y : Fx w K mg) : Cal P w K mg base "step_from" 5 1 ZU HW.run_step_from := by
  obtain ⟨fa, fd, F, hm⟩ := Y.d_step_from
  exact cal_of (k := 4) F hm sc_step_from (fun _ _ _ _ _ _ us hl => match us, hl with | [_], _ => rfl) fun cdv A outer s H E hr => r1 hr (by omega) fun h1 => dss_cons (ds_if ((de_kin Y.u_PLAIN (de_ix (de_var 0) (de_int))).2) (dss_one (ds_ret (de_if (dt_cmp (cp_eq h1) (de_callB call_lenA cs_len Y.fr_len (dr_cons (de_var 0) (dr_nil))) (de_int)) (de_tup (da_cons (de_ix (de_var 0) (de_int)) (da_nil))) (de_non)))) (dss_nil)) (dss_cons (ds_if (dt_cmp (cp_eq h1) (de_ix (de_var 0) (de_int)) (de_str [97, 115, 107])) (dss_one (ds_ret (de_call0 (c_ask_from Y) (hr.mono (by omega)) tkD (da_cons (de_slice (de_var 0) (do_so (de_int)) (do_no)) (da_nil))))) (dss_nil)) (dss_cons (ds_if (dt_cmp (cp_eq h1) (de_ix (de_var 0) (de_int)) (de_str [101, 100, 105, 116])) (dss_one (ds_ret (de_call0 (c_edit_from Y) (hr.mono (by omega)) tkD (da_cons (de_slice (de_var 0) (do_so (de_int)) (do_no)) (da_nil))))) (dss_nil)) (dss_cons (ds_set (de_if (dt_tin Y.t_SHAPES (de_ix (de_var 0) (de_int))) (de_call0 (c_parts_of Y) (hr.mono (by omega)) tkD (da_cons (de_slice (de_var 0) (do_so (de_int)) (do_no)) (da_cons (de_tget Y.t_SHAPES (de_ix (de_var 0) (de_int))) (da_nil)))) (de_non)) sc_step_from.nd) (dss_one (ds_ret (de_if (dt_isN (de_var 1)) (de_non) (de_callTy call_tuple_of cs_tup Y.fr_tuple (dr_cons (de_add (de_lst (da_cons (de_ix (de_var 0) (de_int)) (da_nil))) (de_var 1)) (dr_nil)))))))))
abbrev N_read : List Str := ["text", "found", "number", "row", "step"]
theorem sc_read : FnScope N_read ["text"] (defScope (top 19)) := C8.fnScope_by (by decide +kernel)
theorem c_read (Y : Fx w K mg) : Cal P w K mg base "read" 6 1 ZU HW.run_read := by
  obtain ⟨fa, fd, F, hm⟩ := Y.d_read
  exact cal_of (k := 5) F hm sc_read (fun _ _ _ _ _ _ us hl => match us, hl with | [_], _ => rfl) fun cdv A outer s H E hr => r1 hr (by omega) fun h1 => dss_cons (ds_set (de_lst (da_nil)) sc_read.nd) (dss_cons (ds_for (di_enum (dk_a (da_cons (de_if (dt_cmp (cp_ne h1) (de_var 0) (de_str [])) (de_split (de_var 0) (de_str [10])) (de_lst (da_nil))) da_nil)) Y.fr_enumerate) (dg_tup rfl (dgs_cons (dg_nm sc_read.nd) (dgs_cons (dg_nm sc_read.nd) (dgs_nil))) (gl_cons (gl_cons (gl_nil)))) (dss_cons (ds_set (de_call0 (c_step_from Y) (hr.mono (by omega)) tkD (da_cons (de_split (de_var 3) (de_str [32])) (da_nil))) sc_read.nd) (dss_cons (ds_if (dt_isN (de_var 4)) (dss_one (ds_bad)) (dss_nil)) (dss_one (ds_frz (i := 4) (ds_app (de_var 4)))))) psD rfl) (dss_one (ds_ret (de_var 1))))
abbrev N_quoted : List Str := ["text", "sign"]
theorem sc_quoted : FnScope N_quoted ["text"] (defScope (top 10)) := C8.fnScope_by (by decide +kernel)
theorem c_quoted (Y : Fx w K mg) : Cal P w K mg base "quoted" 2 1 ZU HW.run_quoted := by
  obtain ⟨fa, fd, F, hm⟩ := Y.d_quoted
  exact cal_of (k := 1) F hm sc_quoted (fun _ _ _ _ _ _ us hl => match us, hl with | [_], _ => rfl) fun cdv A outer s H E hr => r1 hr (by omega) fun h1 => dss_cons (ds_if (dt_cmp (cp_eq h1) (de_var 0) (de_str [])) (dss_one (ds_ret (de_add (de_gstr [126] Y.g_MARK) (de_str [46])))) (dss_nil)) (dss_one (ds_ret (de_join (de_str []) (de_lc (own := [("sign", 1)]) rfl sc_quoted.nd (di_seq (de_var 0)) (blkOk_by (by kernel_rfl)) (fun _ _ _ _ _ => dg_nm sc_quoted.nd) (fun _ _ _ _ _ => dts_nil) (fun _ _ _ _ _ => de_if (dt_tin Y.t_SIGNS (de_var 1)) (de_add (de_gstr [126] Y.g_MARK) (de_tget Y.t_SIGNS (de_var 1))) (de_var 1))))))
abbrev N_words_of : List Str := ["step", "word", "parts", "part", "one", "other", "put"]
theorem sc_words_of : FnScope N_words_of ["step"] (defScope (top 12)) := C8.fnScope_by (by decide +kernel)
theorem c_words_of (Y : Fx w K mg) : Cal P w K mg base "words_of" 3 1 ZU HW.run_words_of := by
  obtain ⟨fa, fd, F, hm⟩ := Y.d_words_of
  exact cal_of (k := 2) F hm sc_words_of (fun _ _ _ _ _ _ us hl => match us, hl with | [_], _ => rfl) fun cdv A outer s H E hr => r1 hr (by omega) fun h1 => dss_cons (ds_set (de_ix (de_var 0) (de_int)) sc_words_of.nd) (dss_cons (ds_if (dt_cmp (cp_eq h1) (de_var 1) (de_str [97, 115, 107])) (dss_cons (ds_set (de_lst (da_cons (de_ix (de_var 0) (de_int)) (da_cons (de_ix (de_ix (de_var 0) (de_int)) (de_int)) (da_nil)))) sc_words_of.nd) (dss_one (ds_for (di_seq (de_slice (de_ix (de_var 0) (de_int)) (do_so (de_int)) (do_no))) (dg_nm sc_words_of.nd) (dss_one (ds_ext (de_if (dt_val (de_callB call_isiA cs_isi Y.fr_isinstance (dr_cons (de_var 3) (dr_cons (de_ty (T := "tuple") Y.fr_tuple) (dr_nil))))) (de_callTy call_list_of cs_list Y.fr_list (dr_cons (de_var 3) (dr_nil))) (de_lst (da_cons (de_var 3) (da_nil)))))) psD rfl))) (dss_one (ds_if (dt_cmp (cp_eq h1) (de_var 1) (de_str [101, 100, 105, 116])) (dss_cons (ds_set (de_lst (da_cons (de_ix (de_var 0) (de_int)) (da_nil))) sc_words_of.nd) (dss_one (ds_for (di_seq (de_ix (de_var 0) (de_int))) (dg_tup rfl (dgs_cons (dg_nm sc_words_of.nd) (dgs_cons (dg_nm sc_words_of.nd) (dgs_cons (dg_nm sc_words_of.nd) (dgs_nil)))) (gl_cons (gl_cons (gl_cons (gl_nil))))) (dss_one (ds_ext (de_lst (da_cons (de_ix (de_var 4) (de_int)) (da_cons (de_ix (de_var 4) (de_int)) (da_cons (de_ix (de_var 5) (de_int)) (da_cons (de_ix (de_var 5) (de_int)) (da_cons (de_call0 (c_quoted Y) (hr.mono (by omega)) tkD (da_cons (de_var 6) (da_nil))) (da_nil))))))))) psD rfl))) (dss_one (ds_setLc (own := [("part", 3)]) rfl sc_words_of.nd (di_seq (de_slice (de_var 0) (do_so (de_int)) (do_no))) (blkOk_by (by kernel_rfl)) (fun _ _ _ _ _ => dg_nm sc_words_of.nd) (fun _ _ _ _ _ => dts_nil) (fun _ _ _ _ _ => de_if (dt_val (de_callB call_isiA cs_isi Y.fr_isinstance (dr_cons (de_var 3) (dr_cons (de_ty (T := "str") Y.fr_str) (dr_nil))))) (de_call0 (c_quoted Y) (hr.mono (by omega)) tkB (da_cons (de_var 3) (da_nil))) (de_var 3))))))) (dss_one (ds_frz (i := 1) (ds_ret (de_add (de_lst (da_cons (de_var 1) (da_nil))) (de_lc (own := [("part", 3)]) rfl sc_words_of.nd (di_seq (de_var 2)) (blkOk_by (by kernel_rfl)) (fun _ _ _ _ _ => dg_nm sc_words_of.nd) (fun _ _ _ _ _ => dts_nil) (fun _ _ _ _ _ => de_callTy call_strA cs_strA Y.fr_str (dr_cons (de_var 3) (dr_nil)))))))))
abbrev N_written : List Str := ["steps", "step"]
theorem sc_written : FnScope N_written ["steps"] (defScope (top 13)) := C8.fnScope_by (by decide +kernel)
theorem c_written (Y : Fx w K mg) : Cal P w K mg base "written" 4 1 ZU HW.run_written := by
  obtain ⟨fa, fd, F, hm⟩ := Y.d_written
  exact cal_of (k := 3) F hm sc_written (fun _ _ _ _ _ _ us hl => match us, hl with | [_], _ => rfl) fun cdv A outer s H E hr => r1 hr (by omega) fun h1 => dss_one (ds_ret (de_join (de_str [10]) (de_lc (own := [("step", 1)]) rfl sc_written.nd (di_seq (de_var 0)) (blkOk_by (by kernel_rfl)) (fun _ _ _ _ _ => dg_nm sc_written.nd) (fun _ _ _ _ _ => dts_nil) (fun _ _ _ _ _ => de_join (de_str [32]) (de_call0 (c_words_of Y) (hr.mono (by omega)) tkB (da_cons (de_var 1) (da_nil)))))))
abbrev N__law_same : List Str := ["_law_found", "_law_due", "_law_k"]
theorem sc__law_same : FnScope N__law_same ["_law_found", "_law_due"] (defScope (top 23)) := C8.fnScope_by (by decide +kernel)
theorem c__law_same (Y : Fx w K mg) : ∀ m : Nat, Cal P w K mg base "_law_same" (2 + m) 2 ZU (HW.run__law_same m)
  | 0 => by
    obtain ⟨fa, fd, F, hm⟩ := Y.d__law_same
    exact cal_bad (k := 1) F hm sc__law_same (fun _ _ _ _ _ _ us hl => match us, hl with | [_, _], _ => rfl)
  | m + 1 => by
    obtain ⟨fa, fd, F, hm⟩ := Y.d__law_same
    have C := c__law_same Y m
    exact cal_of (k := 2 + m) F hm sc__law_same (fun _ _ _ _ _ _ us hl => match us, hl with | [_, _], _ => rfl) fun cdv A outer s H E hr => r1 hr (by omega) fun h1 => dss_cons (ds_if (dt_val (de_callB call_isiA cs_isi Y.fr_isinstance (dr_cons (de_var 1) (dr_cons (de_tup (da_cons (de_ty (T := "tuple") Y.fr_tuple) (da_cons (de_ty (T := "list") Y.fr_list) (da_nil)))) (dr_nil))))) (dss_cons (ds_if (dt_w (dw_or (dt_not (dt_val (de_callB call_isiA cs_isi Y.fr_isinstance (dr_cons (de_var 0) (dr_cons (de_tup (da_cons (de_ty (T := "tuple") Y.fr_tuple) (da_cons (de_ty (T := "list") Y.fr_list) (da_nil)))) (dr_nil)))))) (dw_or1 (dt_cmp (cp_ne h1) (de_callB call_isiA cs_isi Y.fr_isinstance (dr_cons (de_var 0) (dr_cons (de_ty (T := "list") Y.fr_list) (dr_nil)))) (de_callB call_isiA cs_isi Y.fr_isinstance (dr_cons (de_var 1) (dr_cons (de_ty (T := "list") Y.fr_list) (dr_nil)))))))) (dss_one (ds_ret (de_bl))) (dss_nil)) (dss_cons (ds_if (dt_cmp (cp_ne h1) (de_callB call_lenA cs_len Y.fr_len (dr_cons (de_var 0) (dr_nil))) (de_callB call_lenA cs_len Y.fr_len (dr_cons (de_var 1) (dr_nil)))) (dss_one (ds_ret (de_bl))) (dss_nil)) (dss_one (ds_ret (de_cmp (cp_eq h1) (de_lc (own := [("_law_k", 2)]) rfl sc__law_same.nd (di_rng1 (dr_cons (de_callB call_lenA cs_len Y.fr_len (dr_cons (de_var 1) (dr_nil))) (dr_nil)) Y.fr_range) (blkOk_by (by kernel_rfl)) (fun _ _ _ _ _ => dg_nm sc__law_same.nd) (fun _ _ _ _ _ => dts_one (dt_not (dt_val (de_call0 C (hr.mono (Nat.le_refl _)) tkB (da_cons (de_ix (de_var 0) (de_var 2)) (da_cons (de_ix (de_var 1) (de_var 2)) (da_nil))))))) (fun _ _ _ _ _ => de_var 2)) (de_lst (da_nil))))))) (dss_nil)) (dss_cons (ds_if (dt_isN (de_var 1)) (dss_one (ds_ret (de_isN (de_var 0)))) (dss_nil)) (dss_cons (ds_if (dt_val (de_callB call_isiA cs_isi Y.fr_isinstance (dr_cons (de_var 1) (dr_cons (de_ty (T := "str") Y.fr_str) (dr_nil))))) (dss_one (ds_ret (de_and (de_callB call_isiA cs_isi Y.fr_isinstance (dr_cons (de_var 0) (dr_cons (de_ty (T := "str") Y.fr_str) (dr_nil)))) (de_one1 (de_cmp (cp_eq h1) (de_var 0) (de_var 1)))))) (dss_nil)) (dss_cons (ds_if (dt_w (dw_or (dt_val (de_callB call_isiA cs_isi Y.fr_isinstance (dr_cons (de_var 1) (dr_cons (de_ty (T := "bool") Y.fr_bool) (dr_nil))))) (dw_or1 (dt_val (de_callB call_isiA cs_isi Y.fr_isinstance (dr_cons (de_var 0) (dr_cons (de_ty (T := "bool") Y.fr_bool) (dr_nil)))))))) (dss_one (ds_ret (de_and (de_callB call_isiA cs_isi Y.fr_isinstance (dr_cons (de_var 1) (dr_cons (de_ty (T := "bool") Y.fr_bool) (dr_nil)))) (de_and (de_callB call_isiA cs_isi Y.fr_isinstance (dr_cons (de_var 0) (dr_cons (de_ty (T := "bool") Y.fr_bool) (dr_nil)))) (de_one1 (de_cmp (cp_eq h1) (de_var 0) (de_var 1))))))) (dss_nil)) (dss_one (ds_ret (de_and (de_callB call_isiA cs_isi Y.fr_isinstance (dr_cons (de_var 0) (dr_cons (de_ty (T := "int") Y.fr_int) (dr_nil)))) (de_one1 (de_cmp (cp_eq h1) (de_var 0) (de_var 1)))))))))
abbrev N__law_quoted : List Str := ["_law_text", "_law_found", "_law_sign_here"]
theorem sc__law_quoted : FnScope N__law_quoted ["_law_text"] (defScope (top 37)) := C8.fnScope_by (by decide +kernel)
theorem c__law_quoted (Y : Fx w K mg) : Cal P w K mg base "_law_quoted" 2 1 ZU HW.run__law_quoted := by
  obtain ⟨fa, fd, F, hm⟩ := Y.d__law_quoted
  exact cal_of (k := 1) F hm sc__law_quoted (fun _ _ _ _ _ _ us hl => match us, hl with | [_], _ => rfl) fun cdv A outer s H E hr => r1 hr (by omega) fun h1 => dss_cons (ds_set (de_str []) sc__law_quoted.nd) (dss_cons (ds_for (di_seq (de_var 0)) (dg_nm sc__law_quoted.nd) (dss_one (ds_set (de_add (de_var 1) (de_get2 (de_dsp3 [([32], [126, 95]), ([10], [126, 47]), ([126], [126, 126])]) (de_var 2) (de_var 2) h1)) sc__law_quoted.nd)) psD rfl) (dss_one (ds_ret (de_if (dt_cmp (cp_ne h1) (de_var 0) (de_str [])) (de_var 1) (de_str [126, 46])))))
abbrev N__law_words : List Str := ["_law_step", "_law_found", "_law_begin", "_law_end", "_law_put_here", "_law_part", "_law_one", "_law_k"]
theorem sc__law_words : FnScope N__law_words ["_law_step"] (defScope (top 38)) := C8.fnScope_by (by decide +kernel)
theorem c__law_words (Y : Fx w K mg) : Cal P w K mg base "_law_words" 3 1 ZU HW.run__law_words := by
  obtain ⟨fa, fd, F, hm⟩ := Y.d__law_words
  exact cal_of (k := 2) F hm sc__law_words (fun _ _ _ _ _ _ us hl => match us, hl with | [_], _ => rfl) fun cdv A outer s H E hr => r1 hr (by omega) fun h1 => dss_cons (ds_if (dt_cmp (cp_eq h1) (de_ix (de_var 0) (de_int)) (de_str [101, 100, 105, 116])) (dss_cons (ds_set (de_lst (da_cons (de_callTy call_str_int cs_str Y.fr_str (dr_cons (de_ix (de_var 0) (de_int)) (dr_nil))) (da_nil))) sc__law_words.nd) (dss_cons (ds_for (di_seq (de_ix (de_var 0) (de_int))) (dg_tup rfl (dgs_cons (dg_nm sc__law_words.nd) (dgs_cons (dg_nm sc__law_words.nd) (dgs_cons (dg_nm sc__law_words.nd) (dgs_nil)))) (gl_cons (gl_cons (gl_cons (gl_nil))))) (dss_one (ds_set (de_add (de_add (de_var 1) (de_lc (own := [("_law_part", 5)]) rfl sc__law_words.nd (di_seq (de_add (de_var 2) (de_var 3))) (blkOk_by (by kernel_rfl)) (fun _ _ _ _ _ => dg_nm sc__law_words.nd) (fun _ _ _ _ _ => dts_nil) (fun _ _ _ _ _ => de_callTy call_str_int cs_str Y.fr_str (dr_cons (de_var 5) (dr_nil))))) (de_lst (da_cons (de_call0 (c__law_quoted Y) (hr.mono (by omega)) tkD (da_cons (de_var 4) (da_nil))) (da_nil)))) sc__law_words.nd)) psD rfl) (dss_one (ds_ret (de_var 1))))) (dss_nil)) (dss_cons (ds_set (de_lst (da_nil)) sc__law_words.nd) (dss_cons (ds_for (di_seq (de_slice (de_var 0) (do_so (de_int)) (do_no))) (dg_nm sc__law_words.nd) (dss_one (ds_if (dt_val (de_callB call_isiA cs_isi Y.fr_isinstance (dr_cons (de_var 5) (dr_cons (de_ty (T := "tuple") Y.fr_tuple) (dr_nil))))) (dss_cons (ds_app (de_ix (de_var 5) (de_int))) (dss_one (ds_for (di_seq (de_slice (de_var 5) (do_so (de_int)) (do_no))) (dg_nm sc__law_words.nd) (dss_one (ds_set (de_add (de_var 1) (de_if (dt_val (de_callB call_isiA cs_isi Y.fr_isinstance (dr_cons (de_var 6) (dr_cons (de_ty (T := "tuple") Y.fr_tuple) (dr_nil))))) (de_lc (own := [("_law_k", 7)]) rfl sc__law_words.nd (di_seq (de_var 6)) (blkOk_by (by kernel_rfl)) (fun _ _ _ _ _ => dg_nm sc__law_words.nd) (fun _ _ _ _ _ => dts_nil) (fun _ _ _ _ _ => de_callTy call_str_int cs_str Y.fr_str (dr_cons (de_var 7) (dr_nil)))) (de_lst (da_cons (de_var 6) (da_nil))))) sc__law_words.nd)) psD rfl))) (dss_one (ds_app (de_if (dt_val (de_callB call_isiA cs_isi Y.fr_isinstance (dr_cons (de_var 5) (dr_cons (de_ty (T := "str") Y.fr_str) (dr_nil))))) (de_call0 (c__law_quoted Y) (hr.mono (by omega)) tkD (da_cons (de_var 5) (da_nil))) (de_callTy call_str_int cs_str Y.fr_str (dr_cons (de_var 5) (dr_nil)))))))) psD rfl) (dss_one (ds_ret (de_var 1)))))
abbrev N_law : List Str := ["_law_script", "_law_state", "_law_turn", "_law_steps", "_law_text", "_law_step", "_law_handed"]
theorem sc_law : FnScope N_law ["_law_script"] (defScope (top 39)) := C8.fnScope_by (by decide +kernel)
theorem ok_law (Y : Fx w K mg) : ∃ fd, (∀ (s : Shared) (v : Value), BindsTo s fd ⟨[v], []⟩ [("_law_script", v)]) ∧ ∃ fa, mg "law" = some (.ref fa) ∧ ∀ base : Heap, ((∀ (a p : Addr) (ns : List Int), ns.length ≤ 63 → ∃ g', f_law p ns (sdLaw 7 a p) ⟨0, mixI ns, 0⟩ = .rt (.fr (.bl true)) g') → FnOk P w K mg base (L2.CX P w) 10 fa fd ["_law_script"] (spLaw K)) := by
  obtain ⟨fa, fd, F, hm⟩ := Y.d_law
  obtain ⟨fs, fds, FS, hms⟩ := Y.d__law_start
  have bS : Binds K fds ["_law_script"] [] := FS.bindsN fun _ _ _ _ _ _ us hl => match us, hl with | [_], _ => rfl
  refine ⟨fd, fun s v => FunD.bindsA (ps := ["_law_script"]) F (fun _ _ _ _ _ _ us hl => match us, hl with | [_], _ => rfl) s [v] rfl, fa, hm, fun base hp => ?_⟩
  have GS : FnOk P w K mg base (L2.CX P w) 2 fs fds ["_law_script"] (spStart K) := ok__law_start FS
  exact law_fn (k := 9) (N := N_law) (fr := fun _ p ns => f_law p ns) F sc_law (by decide) (fun cdv A outer s H E hr => ps_set sc_law.nd rfl (Or.inl rfl) (pe_callS GS (hr.mono (by omega)) rfl hms FS.kp bS (fun σ => passAt tkD σ) (pa_cons (pe_var rfl (Or.inl rfl)) pa_nil)))
    (fun a p ns cdv A outer s H E hr => r1 hr (by omega) fun h1 => dss_cons (ds_for (di_rng1 (dr_cons (de_int) (dr_nil)) Y.fr_range) (dg_nm sc_law.nd) (dss_cons (ds_frz (i := 1) (ds_set (de_call (c__law_play Y a p ns) (hr.mono (by omega)) tkD (da_cons (de_var 1) (da_cons (de_int) (da_nil)))) sc_law.nd)) (dss_cons (ds_set (de_join (de_str [10]) (de_lc (own := [("_law_step", 5)]) rfl sc_law.nd (di_seq (de_var 3)) (blkOk_by (by kernel_rfl)) (fun _ _ _ _ _ => dg_nm sc_law.nd) (fun _ _ _ _ _ => dts_nil) (fun _ _ _ _ _ => de_join (de_str [32]) (de_add (de_lst (da_cons (de_ix (de_var 5) (de_int)) (da_nil))) (de_call0 (c__law_words Y) (hr.mono (by omega)) tkB (da_cons (de_var 5) (da_nil))))))) sc_law.nd) (dss_cons (ds_set (de_callTy call_list_of cs_list Y.fr_list (dr_cons (de_var 3) (dr_nil))) sc_law.nd) (dss_cons (ds_frz (i := 4) (ds_frz (i := 3) (ds_frz (i := 6) (ds_if (dt_w (dw_or (dt_not (dt_val (de_call0 (c__law_same Y 7) (hr.mono (by omega)) tkD (da_cons (de_call0 (c_written Y) (hr.mono (by omega)) tkD (da_cons (de_var 6) (da_nil))) (da_cons (de_var 4) (da_nil)))))) (dw_or (dt_cmp (cp_ne h1) (de_var 6) (de_var 3)) (dw_or1 (dt_not (dt_val (de_call0 (c__law_same Y 7) (hr.mono (by omega)) tkD (da_cons (de_call0 (c_read Y) (hr.mono (by omega)) tkD (da_cons (de_var 4) (da_nil))) (da_cons (de_var 3) (da_nil)))))))))) (dss_one (ds_ret (de_bl))) (dss_nil))))) (dss_one (ds_frz (i := 4) (ds_appE (de_call0 (c_read Y) (hr.mono (by omega)) tkD (da_cons (de_var 4) (da_nil))) (de_int)))))))) psD rfl) (dss_one (ds_ret (de_and (de_cmp (cp_eq h1) (de_call0 (c_read Y) (hr.mono (by omega)) tkD (da_cons (de_str []) (da_nil))) (de_lst (da_nil))) (de_one1 (de_cmp (cp_eq h1) (de_call0 (c_written Y) (hr.mono (by omega)) tkD (da_cons (de_lst (da_nil)) (da_nil))) (de_str []))))))) hp
end
end K14
namespace K14
open PySem PySem.Spec PyProof.Rows L2 DL HW PM
theorem pure_law (a p : Addr) (ns : List Int) : ∃ g', f_law p ns (sdLaw 7 a p) ⟨0, mixI ns, 0⟩ = .rt (.fr (.bl true)) g' := by
  have r4 := rgB1 (j := 4) (by omega)
  show Rts (.fr (.bl true)) (sSeq _ _ [some (.fr (.obj (.ref a))), some (.fr (.obj (.ref p))), none, none, none, none, none] _)
  refine sq_for (ds := rng 0 4) (g1 := ⟨0, mixI ns, 0⟩) (fun r sd _ => ∃ s2 s3 s4 s5 s6, sd = [some (.fr (.obj (.ref a))), some (.fr (.obj (.ref p))), s2, s3, s4, s5, s6]) (by simp [r4]) ⟨_, _, _, _, _, rfl⟩ ?_ ?_
  · rintro d r sd g _ ⟨s2, s3, s4, s5, s6, rfl⟩
    obtain ⟨ss, g1, hok, hl, e1⟩ := law_play_ex p ns (F := 10) (by omega) g
    have lc : ∀ s4 s6, lcGo (gNm 5) gYes (fM1 mJoin (fC (.str [32])) (fOp oAdd (toB (fLst [fOp oIx (toB (fVar 5)) (toB (fC (.int 0)))])) (toB (fFn (up0 run__law_words) [fVar 5])))) [some (.fr (.obj (.ref a))), some (.fr (.obj (.ref p))), some (.fr d), some (.ow (.lst (ss.map PM.Sp.d))), s4, none, s6] (ss.map PM.Sp.d) g1 = (.ok ((ss.map rowL).map .str) g1 : Out Gs (List D)) := fun s4 s6 => by
      rw [List.map_map]
      unfold gYes
      rw [lcGo_enc PM.Sp.d (fun _ => true) (D.str ∘ rowL) ss fun s hs => by
        have e := law_words_eq (hok s hs)
        have j := join_row (hok s hs)
        have sm := sp_many (hok s hs)
        have hd : ∃ r, s.d = .tup (.str s.hd :: r) := by cases s <;> exact ⟨_, rfl⟩
        obtain ⟨r, hd⟩ := hd
        rw [List.map_cons] at j
        have l1 := lim_ge (n := 1 + (s.tl.map D.str).length) (by rw [List.length_map]; rw [List.length_cons] at sm; omega)
        have ad : oAdd (.lst [.str s.hd]) (.lst (s.tl.map .str)) = some (.ow (.lst (.str s.hd :: s.tl.map .str))) := by
          rw [oAdd_lst, if_pos (by simpa [Nat.add_comm] using l1)]
          rfl
        rw [hd] at e
        generalize s.tl.map D.str = W at e j ad
        refine ⟨_, rfl, rfl, fun _ => ⟨.fr (.str (rowL s)), ?_, rfl⟩⟩
        rw [hd]
        simp [e, ad, j, -mJoin_lst, -oAdd_lst], DL.filter_true]
    have jt := join_txt hok (by omega)
    have we := written_eq hok (by omega)
    have re := read_eq hok (by omega)
    have so := steps_okS hok (by omega)
    have sf := steps_fit hok (by omega)
    have ne := oNe_self sf
    have sm1 := same_refl 6 (.str (txtL ss)) (txt_chs hok)
    have sm2 : run__law_same (6 + 1) [.lst (ss.map PM.Sp.d), .lst (ss.map PM.Sp.d)] () = .ok (.fr (.bl true)) () := same_refl 6 _ (by
      show (decide (_ ≤ 10000) && List.all _ (okS 5)) = true
      rw [Bool.and_eq_true, decide_eq_true_eq, List.all_eq_true, List.length_map]
      refine ⟨by omega, fun d hd => ?_⟩
      obtain ⟨s, hs, rfl⟩ := List.mem_map.mp hd
      exact okS_up (sp_okS (hok s hs)))
    have l1 := lim_ge (n := (ss.map PM.Sp.d).length) (by rw [List.length_map]; omega)
    have l2 : (ss.map PM.Sp.d).length < DL.lim := by show _ < 16777216; rw [List.length_map]; omega
    generalize hS : ss.map PM.Sp.d = S at *
    generalize hT : txtL ss = T at *
    generalize (ss.map rowL).map D.str = RR at lc jt
    refine ⟨_, rfl, ?_⟩
    refine sq (sd' := [some (.fr (.obj (.ref a))), some (.fr (.obj (.ref p))), some (.fr d), some (.ow (.lst S)), s4, s5, s6]) (g' := g1) (by simp at e1; simp [frz, e1]) ?_
    refine sq (sd' := [some (.fr (.obj (.ref a))), some (.fr (.obj (.ref p))), some (.fr d), some (.ow (.lst S)), some (.fr (.str T)), s5, s6]) (g' := g1) (by simp [lc, jt, l1, -mJoin_lst]) ?_
    refine sq (sd' := [some (.fr (.obj (.ref a))), some (.fr (.obj (.ref p))), some (.fr d), some (.ow (.lst S)), some (.fr (.str T)), s5, some (.ow (.lst S))]) (g' := g1) (by simp) ?_
    refine sq (sd' := [some (.fr (.obj (.ref a))), some (.fr (.obj (.ref p))), some (.fr d), some (.fr (.lst S)), some (.fr (.str T)), s5, some (.fr (.lst S))]) (g' := g1) (by simp at sm1 sm2; simp [frz, we, sm1, ne, re, sm2]) ?_
    exact nx_end (sd' := [some (.fr (.obj (.ref a))), some (.fr (.obj (.ref p))), some (.fr d), some (.fr (.lst S)), some (.fr (.str T)), s5, some (.fr (.lst S))]) (g' := g1) (by simp [frz, re, l2]) ⟨_, _, _, _, _, rfl⟩
  · rintro sd g ⟨s2, s3, s4, s5, s6, rfl⟩
    have we := written_eq (ss := []) (fun _ z => nomatch z) (by simp)
    have re := read_eq (ss := []) (fun _ z => nomatch z) (by simp)
    have t0 : txtL [] = [] := rfl
    rw [t0] at we re
    simp only [List.map_nil] at we re
    have q1 := oEq_self (a := .lst []) rfl
    have q2 := oEq_self (a := .str []) rfl
    exact ⟨g, by simp [we, re, q1, q2]⟩
end K14
namespace K14
open PySem PySem.Spec PyProof.Rows L2 DL HW
def dd (i : Nat) (x : Str) : He.DefD := ⟨(x, none), x, x, defArgs (top i), defBody (top i), defScope (top i), [], []⟩
def fnL : List He.DefD := [dd 21 "_law_start", dd 22 "_law_drawn", dd 24 "_law_sign", dd 25 "_law_put", dd 26 "_law_sheet", dd 27 "_law_at", dd 33 "_law_runs", dd 32 "_law_name", dd 34 "_law_want", dd 28 "_law_numbers", dd 30 "_law_after", dd 29 "_law_edit", dd 31 "_law_edits", dd 36 "_law_play", dd 14 "number_of", dd 11 "unquoted", dd 15 "parts_of", dd 16 "ask_from", dd 17 "edit_from", dd 18 "step_from", dd 19 "read", dd 10 "quoted", dd 12 "words_of", dd 13 "written", dd 23 "_law_same", dd 37 "_law_quoted", dd 38 "_law_words", dd 39 "law"]
def faL : List He.Fa := [.glo "_law_start", .glo "_law_drawn", .glo "_law_sign", .glo "_law_put", .glo "_law_sheet", .glo "_law_at", .glo "_law_runs", .glo "_law_name", .glo "_law_want", .glo "_law_numbers", .glo "_law_after", .glo "_law_edit", .glo "_law_edits", .glo "_law_play", .glo "number_of", .glo "unquoted", .glo "parts_of", .glo "ask_from", .glo "edit_from", .glo "step_from", .glo "read", .glo "quoted", .glo "words_of", .glo "written", .glo "_law_same", .glo "_law_quoted", .glo "_law_words", .glo "law", .free "bool", .free "enumerate", .free "int", .free "isinstance", .free "len", .free "list", .free "min", .free "range", .free "sorted", .free "str", .free "tuple", .free "zip", .str "FIGURES" "0123456789", .str "MARK" "~", .glo "SHAPES", .glo "SIGNS", .glo "WANTS", .glo "PLAIN"]
def tsL : List He.Tab := [(fun K => He.ga K "SHAPES", ["close", "off", "take", "work", "open"]), (fun K => He.ga K "SIGNS", [" ", "\n", "~"]), (fun K => He.ga K "WANTS", ["find", "rows", "word", "rename"])]
def exl : List (PySem.W.Frag → Bool) := [kdB "SHAPES" [([99, 108, 111, 115, 101], [110]), ([111, 102, 102], [110]), ([116, 97, 107, 101], [110]), ([119, 111, 114, 107], [110]), ([111, 112, 101, 110], [110, 116])], kdB "SIGNS" [([32], [95]), ([10], [47]), ([126], [126])], kdB "WANTS" [([102, 105, 110, 100], [116]), ([114, 111, 119, 115], [116]), ([119, 111, 114, 100], [110, 110]), ([114, 101, 110, 97, 109, 101], [110, 110, 116])], ktB "PLAIN" [[99, 97, 114, 114, 121], [98, 114, 105, 110, 103], [102, 97, 108, 108], [97, 110, 101, 119], [115, 101, 116, 116, 108, 101]]]
def exF (K : PySem.W.Frag) : Bool := exl.all fun f => f K
theorem ex_at {K : PySem.W.Frag} (h : exF K = true) (i : Nat) {f : PySem.W.Frag → Bool} (e : exl[i]? = some f) : f K = true := List.all_eq_true.mp h f (List.mem_of_getElem? e)
theorem fx_of0 {w : World} {K : PySem.W.Frag} {h : Heap} {mg : Str → Option Value} (X : K.In h) (G : h.Ns mainGlobals mg) (cX : He.SaysX faL fnL tsL [] exF w h K) (c : He.SaysD faL fnL K) : Fx w K mg where
  t_SHAPES := kdB_ok (ex_at cX.more 0 rfl) (He.glo_ok X G (c.fact 42 (f := .glo "SHAPES") rfl)) (cX.t.tab 0)
  t_SIGNS := kdB_ok (ex_at cX.more 1 rfl) (He.glo_ok X G (c.fact 43 (f := .glo "SIGNS") rfl)) (cX.t.tab 1)
  t_WANTS := kdB_ok (ex_at cX.more 2 rfl) (He.glo_ok X G (c.fact 44 (f := .glo "WANTS") rfl)) (cX.t.tab 2)
  u_PLAIN := ktB_ok (ex_at cX.more 3 rfl) (He.glo_ok X G (c.fact 45 (f := .glo "PLAIN") rfl))
  fr_bool := He.free_ok X G (c.fact 28 (f := .free "bool") rfl)
  fr_enumerate := He.free_ok X G (c.fact 29 (f := .free "enumerate") rfl)
  fr_int := He.free_ok X G (c.fact 30 (f := .free "int") rfl)
  fr_isinstance := He.free_ok X G (c.fact 31 (f := .free "isinstance") rfl)
  fr_len := He.free_ok X G (c.fact 32 (f := .free "len") rfl)
  fr_list := He.free_ok X G (c.fact 33 (f := .free "list") rfl)
  fr_min := He.free_ok X G (c.fact 34 (f := .free "min") rfl)
  fr_range := He.free_ok X G (c.fact 35 (f := .free "range") rfl)
  fr_sorted := He.free_ok X G (c.fact 36 (f := .free "sorted") rfl)
  fr_str := He.free_ok X G (c.fact 37 (f := .free "str") rfl)
  fr_tuple := He.free_ok X G (c.fact 38 (f := .free "tuple") rfl)
  fr_zip := He.free_ok X G (c.fact 39 (f := .free "zip") rfl)
  g_FIGURES := He.str_ok X G (c.fact 40 (f := .str "FIGURES" "0123456789") rfl)
  g_MARK := He.str_ok X G (c.fact 41 (f := .str "MARK" "~") rfl)
  d__law_start := by
    obtain ⟨fd, F⟩ := c.def_ 0 (d := dd 21 "_law_start") rfl
    exact ⟨_, fd, F, He.glo_ok X G (c.fact 0 (f := .glo "_law_start") rfl)⟩
  d__law_drawn := by
    obtain ⟨fd, F⟩ := c.def_ 1 (d := dd 22 "_law_drawn") rfl
    exact ⟨_, fd, F, He.glo_ok X G (c.fact 1 (f := .glo "_law_drawn") rfl)⟩
  d__law_sign := by
    obtain ⟨fd, F⟩ := c.def_ 2 (d := dd 24 "_law_sign") rfl
    exact ⟨_, fd, F, He.glo_ok X G (c.fact 2 (f := .glo "_law_sign") rfl)⟩
  d__law_put := by
    obtain ⟨fd, F⟩ := c.def_ 3 (d := dd 25 "_law_put") rfl
    exact ⟨_, fd, F, He.glo_ok X G (c.fact 3 (f := .glo "_law_put") rfl)⟩
  d__law_sheet := by
    obtain ⟨fd, F⟩ := c.def_ 4 (d := dd 26 "_law_sheet") rfl
    exact ⟨_, fd, F, He.glo_ok X G (c.fact 4 (f := .glo "_law_sheet") rfl)⟩
  d__law_at := by
    obtain ⟨fd, F⟩ := c.def_ 5 (d := dd 27 "_law_at") rfl
    exact ⟨_, fd, F, He.glo_ok X G (c.fact 5 (f := .glo "_law_at") rfl)⟩
  d__law_runs := by
    obtain ⟨fd, F⟩ := c.def_ 6 (d := dd 33 "_law_runs") rfl
    exact ⟨_, fd, F, He.glo_ok X G (c.fact 6 (f := .glo "_law_runs") rfl)⟩
  d__law_name := by
    obtain ⟨fd, F⟩ := c.def_ 7 (d := dd 32 "_law_name") rfl
    exact ⟨_, fd, F, He.glo_ok X G (c.fact 7 (f := .glo "_law_name") rfl)⟩
  d__law_want := by
    obtain ⟨fd, F⟩ := c.def_ 8 (d := dd 34 "_law_want") rfl
    exact ⟨_, fd, F, He.glo_ok X G (c.fact 8 (f := .glo "_law_want") rfl)⟩
  d__law_numbers := by
    obtain ⟨fd, F⟩ := c.def_ 9 (d := dd 28 "_law_numbers") rfl
    exact ⟨_, fd, F, He.glo_ok X G (c.fact 9 (f := .glo "_law_numbers") rfl)⟩
  d__law_after := by
    obtain ⟨fd, F⟩ := c.def_ 10 (d := dd 30 "_law_after") rfl
    exact ⟨_, fd, F, He.glo_ok X G (c.fact 10 (f := .glo "_law_after") rfl)⟩
  d__law_edit := by
    obtain ⟨fd, F⟩ := c.def_ 11 (d := dd 29 "_law_edit") rfl
    exact ⟨_, fd, F, He.glo_ok X G (c.fact 11 (f := .glo "_law_edit") rfl)⟩
  d__law_edits := by
    obtain ⟨fd, F⟩ := c.def_ 12 (d := dd 31 "_law_edits") rfl
    exact ⟨_, fd, F, He.glo_ok X G (c.fact 12 (f := .glo "_law_edits") rfl)⟩
  d__law_play := by
    obtain ⟨fd, F⟩ := c.def_ 13 (d := dd 36 "_law_play") rfl
    exact ⟨_, fd, F, He.glo_ok X G (c.fact 13 (f := .glo "_law_play") rfl)⟩
  d_number_of := by
    obtain ⟨fd, F⟩ := c.def_ 14 (d := dd 14 "number_of") rfl
    exact ⟨_, fd, F, He.glo_ok X G (c.fact 14 (f := .glo "number_of") rfl)⟩
  d_unquoted := by
    obtain ⟨fd, F⟩ := c.def_ 15 (d := dd 11 "unquoted") rfl
    exact ⟨_, fd, F, He.glo_ok X G (c.fact 15 (f := .glo "unquoted") rfl)⟩
  d_parts_of := by
    obtain ⟨fd, F⟩ := c.def_ 16 (d := dd 15 "parts_of") rfl
    exact ⟨_, fd, F, He.glo_ok X G (c.fact 16 (f := .glo "parts_of") rfl)⟩
  d_ask_from := by
    obtain ⟨fd, F⟩ := c.def_ 17 (d := dd 16 "ask_from") rfl
    exact ⟨_, fd, F, He.glo_ok X G (c.fact 17 (f := .glo "ask_from") rfl)⟩
  d_edit_from := by
    obtain ⟨fd, F⟩ := c.def_ 18 (d := dd 17 "edit_from") rfl
    exact ⟨_, fd, F, He.glo_ok X G (c.fact 18 (f := .glo "edit_from") rfl)⟩
  d_step_from := by
    obtain ⟨fd, F⟩ := c.def_ 19 (d := dd 18 "step_from") rfl
    exact ⟨_, fd, F, He.glo_ok X G (c.fact 19 (f := .glo "step_from") rfl)⟩
  d_read := by
    obtain ⟨fd, F⟩ := c.def_ 20 (d := dd 19 "read") rfl
    exact ⟨_, fd, F, He.glo_ok X G (c.fact 20 (f := .glo "read") rfl)⟩
  d_quoted := by
    obtain ⟨fd, F⟩ := c.def_ 21 (d := dd 10 "quoted") rfl
    exact ⟨_, fd, F, He.glo_ok X G (c.fact 21 (f := .glo "quoted") rfl)⟩
  d_words_of := by
    obtain ⟨fd, F⟩ := c.def_ 22 (d := dd 12 "words_of") rfl
    exact ⟨_, fd, F, He.glo_ok X G (c.fact 22 (f := .glo "words_of") rfl)⟩
  d_written := by
    obtain ⟨fd, F⟩ := c.def_ 23 (d := dd 13 "written") rfl
    exact ⟨_, fd, F, He.glo_ok X G (c.fact 23 (f := .glo "written") rfl)⟩
  d__law_same := by
    obtain ⟨fd, F⟩ := c.def_ 24 (d := dd 23 "_law_same") rfl
    exact ⟨_, fd, F, He.glo_ok X G (c.fact 24 (f := .glo "_law_same") rfl)⟩
  d__law_quoted := by
    obtain ⟨fd, F⟩ := c.def_ 25 (d := dd 37 "_law_quoted") rfl
    exact ⟨_, fd, F, He.glo_ok X G (c.fact 25 (f := .glo "_law_quoted") rfl)⟩
  d__law_words := by
    obtain ⟨fd, F⟩ := c.def_ 26 (d := dd 38 "_law_words") rfl
    exact ⟨_, fd, F, He.glo_ok X G (c.fact 26 (f := .glo "_law_words") rfl)⟩
  d_law := by
    obtain ⟨fd, F⟩ := c.def_ 27 (d := dd 39 "law") rfl
    exact ⟨_, fd, F, He.glo_ok X G (c.fact 27 (f := .glo "law") rfl)⟩
abbrev R : PySem.W.OpenRow := PySem.W.OpenLaw.row PySem.Challenge.rw_helperwire_k14_written_and_read
theorem fx_of {w : World} {K : PySem.W.Frag} {h : Heap} {mg : Str → Option Value} (X : K.In h) (G : h.Ns mainGlobals mg) (cX : He.SaysX faL fnL tsL [] exF w h K) : Fx w K mg := fx_of0 X G cX cX.t.d
abbrev hk : PySem.W.Hook := He.hookX 4 faL fnL tsL [] exF
def ob (s : PySem.W.SharedT) : He.AlX := He.obsX 4 faL fnL tsL [] exF (HandSHeadRun.getT s)
theorem ob_eq (s : PySem.W.SharedT) : ob s = hk.obs s.abs := He.obsX_eq (HandSHeadRun.getT_eq s)
def n0 : List PySem.Str := ["WireError", "BadText", "FIGURES", "MARK", "SIGNS", "SHAPES", "PLAIN", "WANTS", "quoted", "unquoted", "words_of", "written", "number_of", "parts_of", "ask_from", "edit_from", "step_from", "read", "_law_start", "_law_drawn"]
def n1 : List PySem.Str := ["_law_same", "_law_sign", "_law_put", "_law_sheet", "_law_at", "_law_numbers", "_law_edit", "_law_after", "_law_edits", "_law_name", "_law_runs", "_law_want", "_law_tells", "_law_play", "_law_quoted", "_law_words"]
def names : List PySem.Str := n0 ++ (n1)
abbrev qv : Program := PySem.W.view R.prog [39]
theorem run (w : World) : HandSHeadRun.RunEq R qv hk ob 10000 names w := by
  refine PySem.W.byRow2 "special-get-raises" (P := fun w => HandSHeadRun.RunEq R qv hk ob 10000 names w) (fun w => ?_) (fun w => ?_) w
  · intro os
    kernel_rfl
  · intro os
    kernel_rfl
theorem purely : ∀ (a p : Addr) (ns : List Int), ns.length ≤ 63 → ∃ g', f_law p ns (sdLaw 7 a p) ⟨0, mixI ns, 0⟩ = .rt (.fr (.bl true)) g' := fun a p ns _ => pure_law a p ns
end K14
open PySem PySem.W PySem.Calls PyProof.Rows
theorem PySem.Challenge.cw_helperwire_k14_written_and_read_holds : PySem.Challenge.rw_helperwire_k14_written_and_read.Holds := by
  w_on; o_law
  refine HandSHeadRun.head_any (r := OpenLaw.row PySem.Challenge.rw_helperwire_k14_written_and_read) (q := K14.qv) (H := K14.hk) (ob := K14.ob) (M := 10000) (loose := K14.names) (d := HandSHeadRun.topDef (OpenLaw.row PySem.Challenge.rw_helperwire_k14_written_and_read).prog 39) (kwd := []) K14.ob_eq
    (by kernel_rfl) (fun s => by kernel_rfl) K14.run (by kernel_rfl) (by kernel_rfl) (by kernel_rfl) (by rfl) (by first | assumption | decide +kernel) (by decide +kernel) ⟨rfl, rfl, rfl, rfl, rfl, by decide +kernel⟩ ?hw ?hc
  case hw => w_witness2
  case hc =>
    refine L2.walk_ofE (l := PySem.Challenge.rw_helperwire_k14_written_and_read) (n := 63) (k := 10) (x := "_law_script") (CX := L2.CX0) rfl (by decide) (by kernel_rfl) ⟨rfl, by decide, by decide⟩ ?F (fun _ _ _ _ z => z)
    intro w mg fa h Y G hmg0
    obtain ⟨K, KX, c⟩ := Y
    have hmg : mg ("law" : PySem.Str) = some (.ref fa) := by
      have e : (HandSHeadRun.topDef (OpenLaw.row PySem.Challenge.rw_helperwire_k14_written_and_read).prog 39).name = ("law" : PySem.Str) := by kernel_rfl
      rw [← e]
      exact hmg0
    have Y := K14.fx_of KX G c
    obtain ⟨fd, hb, fa', hm, hF⟩ := K14.ok_law (P := (PySem.Challenge.rw_helperwire_k14_written_and_read).prog) (w := w) Y
    have e : fa' = fa := by
      rw [hm] at hmg
      cases hmg
      rfl
    subst e
    refine ⟨K, fd, DL.spLaw K, KX, hb, fun H a ns hl _ hS => ⟨a, ns, rfl, hS, hl, fun _ => rfl⟩, fun base _ _ => DL.law_cx0 (hF base K14.purely)⟩
