import PyProof.Rows.All
import HandS.ForMost
import HandS.ForExc
import HandS.IsInst
import HandS.Deep
import HandS.TupAny
import HandS.TupLen
import HandS.Strs
import HandS.RaiseMore
import PyProof.P3In
import HandS.SortInts
import HandS.SortRule
import HandS.SetFor
import HandS.Conv
import HandS.WordsDict
import HandS.Zip
import HandS.Walk
import KE.GoesMore
import HandS.ExcOwn
import HandS.TryOnly
import HandS.Remove
import HandS.Small
import HandS.WordsExc
import HandS.TupLe
import PySem.Challenge.RW_beatswitch_k85_heaviest_pairings

section
set_option Elab.async false
set_option linter.all false
set_option maxRecDepth 100000
set_option maxHeartbeats 4000000
/-! DL1: data with value semantics over the abstract heap: D, View (shared), Rep (owned to a depth), slots. -/
namespace DL
open PySem PySem.Spec PyProof.Rows L2

/-- a dict's key -/
inductive DKey where
  | i (n : Int) | s (x : Str)
  deriving DecidableEq
def DKey.key : DKey → Key
  | .i n => .inl n
  | .s x => .inr x
/-- data, without the heap -/
inductive D where
  | non | bl (b : Bool) | int (i : Int) | str (x : Str)
  | lst (xs : List D) | tup (xs : List D)
  | dic (ks : List DKey) (ds : List D) | dct (ks : List (List Int)) (ds : List D)
  | set (xs : List Int)
  | ins (c : String) (fs : List String) (ds : List D)
  | scr (ns : List Int)
  deriving Inhabited

/-- no list, dict, instance within -/
def flat : D → Bool
  | .non => true
  | .bl _ => true
  | .int _ => true
  | .str _ => true
  | .tup xs => flats xs
  | _ => false
where flats : List D → Bool
  | [] => true
  | d :: ds => flat d && flats ds

abbrev Mg := Str → Option Value
def isTup : HO → Bool
  | .tup _ => true
  | _ => false
/-- the kinds of what is owned -/
def Mo : HO → Bool
  | .lst _ => true
  | .dK _ => true
  | .dT _ => true
  | .set _ _ => true
  | .ins _ _ _ => true
  | .own _ => true
  | _ => false
theorem not_tup_of_Mo {o : HO} (h : Mo o = true) : isTup o = false := by cases o <;> first | rfl | cases h
def inS (xs : List Int) : Int → Bool := fun i => xs.contains i

section
variable (mg : Mg) (H : Hp) (S : Addr → Prop)
mutual
/-- v shows d; the lists, dicts, instances on the way are among S -/
def View : D → V → Prop
  | .non, v => v = .non
  | .bl b, v => v = .bl b
  | .int i, v => v = .int i
  | .str x, v => v = .str x
  | .lst ds, v => ∃ a xs, v = .ref a ∧ S a ∧ H a = some (.lst xs) ∧ Views ds xs
  | .scr ns, v => ∃ a o, v = .ref a ∧ S a ∧ H a = some (.frz o (.lst (ns.map V.int)))
  | .tup ds, v => ∃ a xs, v = .ref a ∧ H a = some (.tup xs) ∧ Views ds xs
  | .dic ks ds, v => ∃ a xs, v = .ref a ∧ S a ∧ H a = some (.dK ((ks.map DKey.key).zip xs)) ∧ ks.length = xs.length ∧ ks.Nodup ∧ Views ds xs
  | .dct ks ds, v => ∃ a xs, v = .ref a ∧ S a ∧ H a = some (.dT ((ks.map (List.map Sum.inl)).zip xs)) ∧ ks.length = xs.length ∧ ks.Nodup ∧ Views ds xs
  | .set ns, v => ∃ a, v = .ref a ∧ S a ∧ H a = some (.set (inS ns) ns.length) ∧ ns.Nodup
  | .ins c fs ds, v => ∃ a C dx xs, v = .ref a ∧ S a ∧ S dx ∧ mg (Str.ofString c) = some (.ref C) ∧ H a = some (.ins C dx ((fs.map Str.ofString).zip xs)) ∧ H dx = some (.own a) ∧ fs.length = xs.length ∧ Views ds xs
def Views : List D → List V → Prop
  | [], xs => xs = []
  | d :: ds, xs => ∃ v r, xs = v :: r ∧ View d v ∧ Views ds r
end
mutual
/-- v shows d; the nodes less than k deep are owned: they lie at G, in this order; the others are among S -/
def Rep : D → Nat → V → List Addr → Prop
  | d, 0, v, G => View mg H S d v ∧ G = []
  | .lst ds, k + 1, v, G => ∃ a xs G', v = .ref a ∧ H a = some (.lst xs) ∧ G = a :: G' ∧ Reps ds k xs G'
  | .tup ds, k + 1, v, G => ∃ a xs, v = .ref a ∧ H a = some (.tup xs) ∧ Reps ds k xs G
  | .dic ks ds, k + 1, v, G => ∃ a xs G', v = .ref a ∧ H a = some (.dK ((ks.map DKey.key).zip xs)) ∧ ks.length = xs.length ∧ ks.Nodup ∧ G = a :: G' ∧ Reps ds k xs G'
  | .dct ks ds, k + 1, v, G => ∃ a xs G', v = .ref a ∧ H a = some (.dT ((ks.map (List.map Sum.inl)).zip xs)) ∧ ks.length = xs.length ∧ ks.Nodup ∧ G = a :: G' ∧ Reps ds k xs G'
  | .set ns, _ + 1, v, G => ∃ a, v = .ref a ∧ H a = some (.set (inS ns) ns.length) ∧ ns.Nodup ∧ G = [a]
  | .ins c fs ds, k + 1, v, G => ∃ a C dx xs G', v = .ref a ∧ mg (Str.ofString c) = some (.ref C) ∧ H a = some (.ins C dx ((fs.map Str.ofString).zip xs)) ∧ H dx = some (.own a) ∧ fs.length = xs.length ∧ G = a :: dx :: G' ∧ Reps ds k xs G'
  | d, _ + 1, v, G => View mg H S d v ∧ G = []
def Reps : List D → Nat → List V → List Addr → Prop
  | [], _, xs, G => xs = [] ∧ G = []
  | d :: ds, k, xs, G => ∃ v r G1 G2, xs = v :: r ∧ G = G1 ++ G2 ∧ Rep d k v G1 ∧ Reps ds k r G2
end
end

/-- what is among S, and all tuples, stand as they stood -/
def Ext (S : Addr → Prop) (H H' : Hp) : Prop := ∀ a o, H a = some o → (S a ∨ isTup o = true) → H' a = some o

section
variable {mg : Mg} {H H' : Hp} {S S' : Addr → Prop}
mutual
theorem View.mono (e : Ext S H H') (hs : ∀ a, S a → S' a) : ∀ {d : D} {v : V}, View mg H S d v → View mg H' S' d v
  | .non, _, h => by simp only [View] at h ⊢; exact h
  | .bl _, _, h => by simp only [View] at h ⊢; exact h
  | .int _, _, h => by simp only [View] at h ⊢; exact h
  | .str _, _, h => by simp only [View] at h ⊢; exact h
  | .lst ds, v, h => by
    simp only [View] at h ⊢
    obtain ⟨a, xs, e1, s, r, q⟩ := h
    exact ⟨a, xs, e1, hs a s, e a _ r (.inl s), Views.mono e hs q⟩
  | .scr ns, v, h => by
    simp only [View] at h ⊢
    obtain ⟨a, o, e1, s, r⟩ := h
    exact ⟨a, o, e1, hs a s, e a _ r (.inl s)⟩
  | .tup ds, v, h => by
    simp only [View] at h ⊢
    obtain ⟨a, xs, e1, r, q⟩ := h
    exact ⟨a, xs, e1, e a _ r (.inr rfl), Views.mono e hs q⟩
  | .dic ks ds, v, h => by
    simp only [View] at h ⊢
    obtain ⟨a, xs, e1, s, r, l, n, q⟩ := h
    exact ⟨a, xs, e1, hs a s, e a _ r (.inl s), l, n, Views.mono e hs q⟩
  | .dct ks ds, v, h => by
    simp only [View] at h ⊢
    obtain ⟨a, xs, e1, s, r, l, n, q⟩ := h
    exact ⟨a, xs, e1, hs a s, e a _ r (.inl s), l, n, Views.mono e hs q⟩
  | .set ns, v, h => by
    simp only [View] at h ⊢
    obtain ⟨a, e1, s, r, l⟩ := h
    exact ⟨a, e1, hs a s, e a _ r (.inl s), l⟩
  | .ins c fs ds, v, h => by
    simp only [View] at h ⊢
    obtain ⟨a, C, dx, xs, e1, s, s2, m, r, r2, l, q⟩ := h
    exact ⟨a, C, dx, xs, e1, hs a s, hs dx s2, m, e a _ r (.inl s), e dx _ r2 (.inl s2), l, Views.mono e hs q⟩
theorem Views.mono (e : Ext S H H') (hs : ∀ a, S a → S' a) : ∀ {ds : List D} {vs : List V}, Views mg H S ds vs → Views mg H' S' ds vs
  | [], _, h => by simp only [Views] at h ⊢; exact h
  | d :: ds, vs, h => by
    simp only [Views] at h ⊢
    obtain ⟨v, r, e1, h1, h2⟩ := h
    exact ⟨v, r, e1, View.mono e hs h1, Views.mono e hs h2⟩
end

mutual
theorem Rep.mono (hs : ∀ a, S a → S' a) : ∀ {d : D} {k : Nat} {v : V} {G : List Addr}, Ext (fun a => S a ∨ a ∈ G) H H' → Rep mg H S d k v G → Rep mg H' S' d k v G
  | d, 0, v, G, e, h => by
    simp only [Rep] at h ⊢
    obtain ⟨h, rfl⟩ := h
    exact ⟨h.mono (fun a o q z => e a o q (z.imp .inl id)) hs, rfl⟩
  | .lst ds, k + 1, v, G, e, h => by
    simp only [Rep] at h ⊢
    obtain ⟨a, xs, G', e1, r, rfl, q⟩ := h
    exact ⟨a, xs, G', e1, e a _ r (.inl (.inr (by simp))), rfl, Reps.mono hs (fun b o q z => e b o q (z.imp (Or.imp id (List.mem_cons_of_mem _)) id)) q⟩
  | .tup ds, k + 1, v, G, e, h => by
    simp only [Rep] at h ⊢
    obtain ⟨a, xs, e1, r, q⟩ := h
    exact ⟨a, xs, e1, e a _ r (.inr rfl), Reps.mono hs e q⟩
  | .dic ks ds, k + 1, v, G, e, h => by
    simp only [Rep] at h ⊢
    obtain ⟨a, xs, G', e1, r, l, n, rfl, q⟩ := h
    exact ⟨a, xs, G', e1, e a _ r (.inl (.inr (by simp))), l, n, rfl, Reps.mono hs (fun b o q z => e b o q (z.imp (Or.imp id (List.mem_cons_of_mem _)) id)) q⟩
  | .dct ks ds, k + 1, v, G, e, h => by
    simp only [Rep] at h ⊢
    obtain ⟨a, xs, G', e1, r, l, n, rfl, q⟩ := h
    exact ⟨a, xs, G', e1, e a _ r (.inl (.inr (by simp))), l, n, rfl, Reps.mono hs (fun b o q z => e b o q (z.imp (Or.imp id (List.mem_cons_of_mem _)) id)) q⟩
  | .set ns, k + 1, v, G, e, h => by
    simp only [Rep] at h ⊢
    obtain ⟨a, e1, r, n, rfl⟩ := h
    exact ⟨a, e1, e a _ r (.inl (.inr (by simp))), n, rfl⟩
  | .ins c fs ds, k + 1, v, G, e, h => by
    simp only [Rep] at h ⊢
    obtain ⟨a, C, dx, xs, G', e1, m, r, r2, l, rfl, q⟩ := h
    exact ⟨a, C, dx, xs, G', e1, m, e a _ r (.inl (.inr (by simp))), e dx _ r2 (.inl (.inr (by simp))), l, rfl, Reps.mono hs (fun b o q z => e b o q (z.imp (Or.imp id fun y => List.mem_cons_of_mem _ (List.mem_cons_of_mem _ y)) id)) q⟩
  | .non, k + 1, v, G, e, h => by simp only [Rep, View] at h ⊢; exact h
  | .bl _, k + 1, v, G, e, h => by simp only [Rep, View] at h ⊢; exact h
  | .int _, k + 1, v, G, e, h => by simp only [Rep, View] at h ⊢; exact h
  | .str _, k + 1, v, G, e, h => by simp only [Rep, View] at h ⊢; exact h
  | .scr ns, k + 1, v, G, e, h => by
    simp only [Rep, View] at h ⊢
    obtain ⟨⟨a, o, e1, s, r⟩, rfl⟩ := h
    exact ⟨⟨a, o, e1, hs a s, e a _ r (.inl (.inl s))⟩, rfl⟩
theorem Reps.mono (hs : ∀ a, S a → S' a) : ∀ {ds : List D} {k : Nat} {vs : List V} {G : List Addr}, Ext (fun a => S a ∨ a ∈ G) H H' → Reps mg H S ds k vs G → Reps mg H' S' ds k vs G
  | [], k, _, _, e, h => by simp only [Reps] at h ⊢; exact h
  | d :: ds, k, vs, G, e, h => by
    simp only [Reps] at h ⊢
    obtain ⟨v, r, G1, G2, e1, rfl, h1, h2⟩ := h
    exact ⟨v, r, G1, G2, e1, rfl, Rep.mono hs (fun b o q z => e b o q (z.imp (Or.imp id (List.mem_append_left _)) id)) h1, Reps.mono hs (fun b o q z => e b o q (z.imp (Or.imp id (List.mem_append_right _)) id)) h2⟩
end

mutual
theorem Rep.mo : ∀ {d : D} {k : Nat} {v : V} {G : List Addr}, Rep mg H S d k v G → ∀ a ∈ G, ∃ o, H a = some o ∧ Mo o = true
  | d, 0, v, G, h => by
    simp only [Rep] at h
    obtain ⟨_, rfl⟩ := h
    intro a ha; simp at ha
  | .lst ds, k + 1, v, G, h => by
    simp only [Rep] at h
    obtain ⟨a, xs, G', e1, r, rfl, q⟩ := h
    intro b hb
    rcases List.mem_cons.mp hb with rfl | hb
    · exact ⟨_, r, rfl⟩
    · exact Reps.mo q b hb
  | .tup ds, k + 1, v, G, h => by
    simp only [Rep] at h
    obtain ⟨a, xs, e1, r, q⟩ := h
    exact Reps.mo q
  | .dic ks ds, k + 1, v, G, h => by
    simp only [Rep] at h
    obtain ⟨a, xs, G', e1, r, l, n, rfl, q⟩ := h
    intro b hb
    rcases List.mem_cons.mp hb with rfl | hb
    · exact ⟨_, r, rfl⟩
    · exact Reps.mo q b hb
  | .dct ks ds, k + 1, v, G, h => by
    simp only [Rep] at h
    obtain ⟨a, xs, G', e1, r, l, n, rfl, q⟩ := h
    intro b hb
    rcases List.mem_cons.mp hb with rfl | hb
    · exact ⟨_, r, rfl⟩
    · exact Reps.mo q b hb
  | .set ns, k + 1, v, G, h => by
    simp only [Rep] at h
    obtain ⟨a, e1, r, n, rfl⟩ := h
    intro b hb
    have e : b = a := by simpa using hb
    subst e
    exact ⟨_, r, rfl⟩
  | .ins c fs ds, k + 1, v, G, h => by
    simp only [Rep] at h
    obtain ⟨a, C, dx, xs, G', e1, m, r, r2, l, rfl, q⟩ := h
    intro b hb
    rcases List.mem_cons.mp hb with rfl | hb
    · exact ⟨_, r, rfl⟩
    · rcases List.mem_cons.mp hb with rfl | hb
      · exact ⟨_, r2, rfl⟩
      · exact Reps.mo q b hb
  | .non, k + 1, v, G, h => by
    simp only [Rep] at h
    obtain ⟨_, rfl⟩ := h
    intro a ha; simp at ha
  | .bl _, k + 1, v, G, h => by
    simp only [Rep] at h
    obtain ⟨_, rfl⟩ := h
    intro a ha; simp at ha
  | .int _, k + 1, v, G, h => by
    simp only [Rep] at h
    obtain ⟨_, rfl⟩ := h
    intro a ha; simp at ha
  | .str _, k + 1, v, G, h => by
    simp only [Rep] at h
    obtain ⟨_, rfl⟩ := h
    intro a ha; simp at ha
  | .scr _, k + 1, v, G, h => by
    simp only [Rep] at h
    obtain ⟨_, rfl⟩ := h
    intro a ha; simp at ha
theorem Reps.mo : ∀ {ds : List D} {k : Nat} {vs : List V} {G : List Addr}, Reps mg H S ds k vs G → ∀ a ∈ G, ∃ o, H a = some o ∧ Mo o = true
  | [], k, _, _, h => by
    simp only [Reps] at h
    obtain ⟨_, rfl⟩ := h
    intro a ha; simp at ha
  | d :: ds, k, vs, G, h => by
    simp only [Reps] at h
    obtain ⟨v, r, G1, G2, e1, rfl, h1, h2⟩ := h
    intro a ha
    rcases List.mem_append.mp ha with ha | ha
    · exact Rep.mo h1 a ha
    · exact Reps.mo h2 a ha
end

mutual
/-- owned nodes given up: all is among S and G -/
theorem Rep.freeze : ∀ {d : D} {k : Nat} {v : V} {G : List Addr}, Rep mg H S d k v G → ∀ {S' : Addr → Prop}, (∀ a, S a → S' a) → (∀ a ∈ G, S' a) → View mg H S' d v
  | d, 0, v, G, h, S', hs, hg => by
    simp only [Rep] at h
    exact h.1.mono (fun _ _ q _ => q) hs
  | .lst ds, k + 1, v, G, h, S', hs, hg => by
    simp only [Rep] at h
    obtain ⟨a, xs, G', e1, r, rfl, q⟩ := h
    simp only [View]
    exact ⟨a, xs, e1, hg a (by simp), r, Reps.freeze q hs fun b hb => hg b (List.mem_cons_of_mem _ hb)⟩
  | .tup ds, k + 1, v, G, h, S', hs, hg => by
    simp only [Rep] at h
    obtain ⟨a, xs, e1, r, q⟩ := h
    simp only [View]
    exact ⟨a, xs, e1, r, Reps.freeze q hs hg⟩
  | .dic ks ds, k + 1, v, G, h, S', hs, hg => by
    simp only [Rep] at h
    obtain ⟨a, xs, G', e1, r, l, n, rfl, q⟩ := h
    simp only [View]
    exact ⟨a, xs, e1, hg a (by simp), r, l, n, Reps.freeze q hs fun b hb => hg b (List.mem_cons_of_mem _ hb)⟩
  | .dct ks ds, k + 1, v, G, h, S', hs, hg => by
    simp only [Rep] at h
    obtain ⟨a, xs, G', e1, r, l, n, rfl, q⟩ := h
    simp only [View]
    exact ⟨a, xs, e1, hg a (by simp), r, l, n, Reps.freeze q hs fun b hb => hg b (List.mem_cons_of_mem _ hb)⟩
  | .set ns, k + 1, v, G, h, S', hs, hg => by
    simp only [Rep] at h
    obtain ⟨a, e1, r, n, rfl⟩ := h
    simp only [View]
    exact ⟨a, e1, hg a (by simp), r, n⟩
  | .ins c fs ds, k + 1, v, G, h, S', hs, hg => by
    simp only [Rep] at h
    obtain ⟨a, C, dx, xs, G', e1, m, r, r2, l, rfl, q⟩ := h
    simp only [View]
    exact ⟨a, C, dx, xs, e1, hg a (by simp), hg dx (by simp), m, r, r2, l, Reps.freeze q hs fun b hb => hg b (List.mem_cons_of_mem _ (List.mem_cons_of_mem _ hb))⟩
  | .non, k + 1, v, G, h, S', hs, hg => by simp only [Rep, View] at h ⊢; exact h.1
  | .bl _, k + 1, v, G, h, S', hs, hg => by simp only [Rep, View] at h ⊢; exact h.1
  | .int _, k + 1, v, G, h, S', hs, hg => by simp only [Rep, View] at h ⊢; exact h.1
  | .str _, k + 1, v, G, h, S', hs, hg => by simp only [Rep, View] at h ⊢; exact h.1
  | .scr _, k + 1, v, G, h, S', hs, hg => by
    simp only [Rep] at h
    exact h.1.mono (fun _ _ q _ => q) hs
theorem Reps.freeze : ∀ {ds : List D} {k : Nat} {vs : List V} {G : List Addr}, Reps mg H S ds k vs G → ∀ {S' : Addr → Prop}, (∀ a, S a → S' a) → (∀ a ∈ G, S' a) → Views mg H S' ds vs
  | [], k, _, _, h, S', hs, hg => by simp only [Reps, Views] at h ⊢; exact h.1
  | d :: ds, k, vs, G, h, S', hs, hg => by
    simp only [Reps] at h
    obtain ⟨v, r, G1, G2, e1, rfl, h1, h2⟩ := h
    simp only [Views]
    exact ⟨v, r, e1, Rep.freeze h1 hs fun a ha => hg a (List.mem_append_left _ ha), Reps.freeze h2 hs fun a ha => hg a (List.mem_append_right _ ha)⟩
end

mutual
theorem View.flat : ∀ {d : D} {v : V}, View mg H S d v → flat d = true → ∀ (k : Nat) (S' : Addr → Prop), Rep mg H S' d k v []
  | .non, v, h, _, 0, S' => by simp only [Rep, View] at h ⊢; exact ⟨h, trivial⟩
  | .bl _, v, h, _, 0, S' => by simp only [Rep, View] at h ⊢; exact ⟨h, trivial⟩
  | .int _, v, h, _, 0, S' => by simp only [Rep, View] at h ⊢; exact ⟨h, trivial⟩
  | .str _, v, h, _, 0, S' => by simp only [Rep, View] at h ⊢; exact ⟨h, trivial⟩
  | .non, v, h, _, k + 1, S' => by simp only [Rep, View] at h ⊢; exact ⟨h, trivial⟩
  | .bl _, v, h, _, k + 1, S' => by simp only [Rep, View] at h ⊢; exact ⟨h, trivial⟩
  | .int _, v, h, _, k + 1, S' => by simp only [Rep, View] at h ⊢; exact ⟨h, trivial⟩
  | .str _, v, h, _, k + 1, S' => by simp only [Rep, View] at h ⊢; exact ⟨h, trivial⟩
  | .tup ds, v, h, f, 0, S' => by
    simp only [View] at h
    obtain ⟨a, xs, e1, r, q⟩ := h
    simp only [Rep, View]
    simp only [DL.flat] at f
    exact ⟨⟨a, xs, e1, r, (Reps.freeze (Views.flat q f 0 S') (fun _ z => z) (by simp))⟩, trivial⟩
  | .tup ds, v, h, f, k + 1, S' => by
    simp only [View] at h
    obtain ⟨a, xs, e1, r, q⟩ := h
    simp only [Rep]
    simp only [DL.flat] at f
    exact ⟨a, xs, e1, r, Views.flat q f k S'⟩
  | .lst _, v, h, f, k, S' => by simp [DL.flat] at f
  | .dic _ _, v, h, f, k, S' => by simp [DL.flat] at f
  | .dct _ _, v, h, f, k, S' => by simp [DL.flat] at f
  | .set _, v, h, f, k, S' => by simp [DL.flat] at f
  | .ins _ _ _, v, h, f, k, S' => by simp [DL.flat] at f
  | .scr _, v, h, f, k, S' => by simp [DL.flat] at f
theorem Views.flat : ∀ {ds : List D} {vs : List V}, Views mg H S ds vs → flat.flats ds = true → ∀ (k : Nat) (S' : Addr → Prop), Reps mg H S' ds k vs []
  | [], _, h, _, k, S' => by simp only [Reps, Views] at h ⊢; exact ⟨h, trivial⟩
  | d :: ds, vs, h, f, k, S' => by
    simp only [Views] at h
    obtain ⟨v, r, e1, h1, h2⟩ := h
    simp only [flat.flats, Bool.and_eq_true] at f
    simp only [Reps]
    exact ⟨v, r, [], [], e1, rfl, View.flat h1 f.1 k S', Views.flat h2 f.2 k S'⟩
end
mutual
/-- flat data own nothing -/
theorem Rep.flat_nil : ∀ {d : D} {k : Nat} {v : V} {G : List Addr}, Rep mg H S d k v G → flat d = true → G = [] ∧ View mg H S d v
  | d, 0, v, G, h, _ => by simp only [Rep] at h; exact ⟨h.2, h.1⟩
  | .tup ds, k + 1, v, G, h, f => by
    simp only [Rep] at h
    obtain ⟨a, xs, e1, r, q⟩ := h
    simp only [DL.flat] at f
    obtain ⟨e, q⟩ := Reps.flat_nil q f
    simp only [View]
    exact ⟨e, a, xs, e1, r, q⟩
  | .non, k + 1, v, G, h, _ => by simp only [Rep] at h; exact ⟨h.2, h.1⟩
  | .bl _, k + 1, v, G, h, _ => by simp only [Rep] at h; exact ⟨h.2, h.1⟩
  | .int _, k + 1, v, G, h, _ => by simp only [Rep] at h; exact ⟨h.2, h.1⟩
  | .str _, k + 1, v, G, h, _ => by simp only [Rep] at h; exact ⟨h.2, h.1⟩
  | .lst _, k + 1, v, G, h, f => by simp [DL.flat] at f
  | .dic _ _, k + 1, v, G, h, f => by simp [DL.flat] at f
  | .dct _ _, k + 1, v, G, h, f => by simp [DL.flat] at f
  | .set _, k + 1, v, G, h, f => by simp [DL.flat] at f
  | .ins _ _ _, k + 1, v, G, h, f => by simp [DL.flat] at f
  | .scr _, k + 1, v, G, h, f => by simp [DL.flat] at f
theorem Reps.flat_nil : ∀ {ds : List D} {k : Nat} {vs : List V} {G : List Addr}, Reps mg H S ds k vs G → flat.flats ds = true → G = [] ∧ Views mg H S ds vs
  | [], k, _, _, h, _ => by simp only [Reps, Views] at h ⊢; exact ⟨h.2, h.1⟩
  | d :: ds, k, vs, G, h, f => by
    simp only [Reps] at h
    obtain ⟨v, r, G1, G2, e1, rfl, h1, h2⟩ := h
    simp only [flat.flats, Bool.and_eq_true] at f
    obtain ⟨rfl, p1⟩ := Rep.flat_nil h1 f.1
    obtain ⟨rfl, p2⟩ := Reps.flat_nil h2 f.2
    simp only [Views]
    exact ⟨rfl, v, r, e1, p1, p2⟩
end
/-- flat data at any depth, any S -/
theorem Rep.reflat {d : D} {k : Nat} {v : V} {G : List Addr} (h : Rep mg H S d k v G) (f : flat d = true) (j : Nat) (S' : Addr → Prop) : Rep mg H S' d j v [] := (Rep.flat_nil h f).2.flat f j S'

theorem Views.length : ∀ {ds : List D} {vs : List V}, Views mg H S ds vs → vs.length = ds.length
  | [], _, h => by simp only [Views] at h; subst h; rfl
  | d :: ds, vs, h => by
    simp only [Views] at h
    obtain ⟨v, r, rfl, _, h2⟩ := h
    simp [Views.length h2]
theorem Reps.length : ∀ {ds : List D} {k : Nat} {vs : List V} {G : List Addr}, Reps mg H S ds k vs G → vs.length = ds.length
  | [], _, _, _, h => by simp only [Reps] at h; rw [h.1]; rfl
  | d :: ds, k, vs, G, h => by
    simp only [Reps] at h
    obtain ⟨v, r, G1, G2, rfl, _, _, h2⟩ := h
    simp [Reps.length h2]
theorem Reps.zero : ∀ {ds : List D} {vs : List V} {G : List Addr}, Reps mg H S ds 0 vs G ↔ Views mg H S ds vs ∧ G = []
  | [], vs, G => by simp only [Reps, Views]
  | d :: ds, vs, G => by
    simp only [Reps, Views, Rep]
    constructor
    · rintro ⟨v, r, G1, G2, e, rfl, ⟨h1, rfl⟩, h2⟩
      obtain ⟨p2, rfl⟩ := Reps.zero.mp h2
      exact ⟨⟨v, r, e, h1, p2⟩, rfl⟩
    · rintro ⟨⟨v, r, e, h1, h2⟩, rfl⟩
      exact ⟨v, r, [], [], e, rfl, ⟨h1, rfl⟩, Reps.zero.mpr ⟨h2, rfl⟩⟩
theorem Views.get : ∀ {ds : List D} {vs : List V} {i : Nat} {d : D}, Views mg H S ds vs → ds[i]? = some d → ∃ v, vs[i]? = some v ∧ View mg H S d v
  | [], _, _, _, _, e => by simp at e
  | d :: ds, vs, 0, d', h, e => by
    simp only [Views] at h
    obtain ⟨v, r, rfl, h1, _⟩ := h
    simp at e; subst e
    exact ⟨v, rfl, h1⟩
  | d :: ds, vs, i + 1, d', h, e => by
    simp only [Views] at h
    obtain ⟨v, r, rfl, _, h2⟩ := h
    simpa using Views.get (i := i) h2 (by simpa using e)
theorem Views.append : ∀ {ds es : List D} {vs ws : List V}, Views mg H S ds vs → Views mg H S es ws → Views mg H S (ds ++ es) (vs ++ ws)
  | [], es, vs, ws, h, q => by simp only [Views] at h; subst h; exact q
  | d :: ds, es, vs, ws, h, q => by
    simp only [Views] at h
    obtain ⟨v, r, rfl, h1, h2⟩ := h
    simp only [List.cons_append, Views]
    exact ⟨v, r ++ ws, rfl, h1, h2.append q⟩
theorem Reps.append : ∀ {ds es : List D} {k : Nat} {vs ws : List V} {G G' : List Addr}, Reps mg H S ds k vs G → Reps mg H S es k ws G' → Reps mg H S (ds ++ es) k (vs ++ ws) (G ++ G')
  | [], es, k, vs, ws, G, G', h, q => by simp only [Reps] at h; obtain ⟨rfl, rfl⟩ := h; exact q
  | d :: ds, es, k, vs, ws, G, G', h, q => by
    simp only [Reps] at h
    obtain ⟨v, r, G1, G2, rfl, rfl, h1, h2⟩ := h
    simp only [List.cons_append, Reps]
    exact ⟨v, r ++ ws, G1, G2 ++ G', rfl, by rw [List.append_assoc], h1, h2.append q⟩
/-- a part of owned data, and how another one takes its place -/
theorem Reps.focus : ∀ {ds : List D} {k : Nat} {vs : List V} {G : List Addr} {i : Nat} {d : D}, Reps mg H S ds k vs G → ds[i]? = some d →
    ∃ v A B C, vs[i]? = some v ∧ G = A ++ (B ++ C) ∧ Rep mg H S d k v B ∧
      ∀ (H' : Hp) (S' : Addr → Prop) (d' : D) (v' : V) (B' : List Addr), (∀ a, S a → S' a) → Ext (fun a => S a ∨ a ∈ A ∨ a ∈ C) H H' → Rep mg H' S' d' k v' B' → Reps mg H' S' (ds.set i d') k (vs.set i v') (A ++ (B' ++ C))
  | [], _, _, _, _, _, _, e => by simp at e
  | d :: ds, k, vs, G, 0, d', h, e => by
    simp only [Reps] at h
    obtain ⟨v, r, G1, G2, rfl, rfl, h1, h2⟩ := h
    simp at e; subst e
    refine ⟨v, [], G1, G2, rfl, rfl, h1, fun H' S' d' v' B' hs ex q => ?_⟩
    simp only [List.set_cons_zero, Reps]
    exact ⟨v', r, B', G2, rfl, rfl, q, h2.mono hs fun b o q z => ex b o q (z.imp (Or.imp id .inr) id)⟩
  | d :: ds, k, vs, G, i + 1, d', h, e => by
    simp only [Reps] at h
    obtain ⟨v, r, G1, G2, rfl, rfl, h1, h2⟩ := h
    obtain ⟨v', A, B, C, ev, rfl, q, z⟩ := Reps.focus (i := i) h2 (by simpa using e)
    refine ⟨v', G1 ++ A, B, C, by simpa using ev, by simp [List.append_assoc], q, fun H' S' d'' v'' B' hs ex q' => ?_⟩
    simp only [List.set_cons_succ, Reps]
    refine ⟨v, r.set i v'', G1, A ++ (B' ++ C), rfl, by simp [List.append_assoc], h1.mono hs fun b o q z => ex b o q ?_, z H' S' d'' v'' B' hs (fun b o q z => ex b o q ?_) q'⟩
    · rcases z with (z | z) | z
      · exact .inl (.inl z)
      · exact .inl (.inr (.inl (List.mem_append_left _ z)))
      · exact .inr z
    · rcases z with (z | z | z) | z
      · exact .inl (.inl z)
      · exact .inl (.inr (.inl (List.mem_append_right _ z)))
      · exact .inl (.inr (.inr z))
      · exact .inr z
theorem Views.take (n : Nat) : ∀ {ds : List D} {vs : List V}, Views mg H S ds vs → ∀ {n : Nat}, Views mg H S (ds.take n) (vs.take n)
  | [], vs, h, n => by simp only [Views] at h; subst h; simp [Views]
  | d :: ds, vs, h, 0 => by simp [Views]
  | d :: ds, vs, h, n + 1 => by
    simp only [Views] at h
    obtain ⟨v, r, rfl, h1, h2⟩ := h
    simp only [List.take_succ_cons, Views]
    exact ⟨v, _, rfl, h1, Views.take 0 h2⟩
theorem Views.drop : ∀ {ds : List D} {vs : List V} {n : Nat}, Views mg H S ds vs → Views mg H S (ds.drop n) (vs.drop n)
  | [], vs, n, h => by simp only [Views] at h; subst h; simp [Views]
  | d :: ds, vs, 0, h => h
  | d :: ds, vs, n + 1, h => by
    simp only [Views] at h
    obtain ⟨v, r, rfl, h1, h2⟩ := h
    simpa using Views.drop (n := n) h2
theorem Views.reverse : ∀ {ds : List D} {vs : List V}, Views mg H S ds vs → Views mg H S ds.reverse vs.reverse
  | [], vs, h => by simp only [Views] at h; subst h; simp [Views]
  | d :: ds, vs, h => by
    simp only [Views] at h
    obtain ⟨v, r, rfl, h1, h2⟩ := h
    rw [List.reverse_cons, List.reverse_cons]
    refine h2.reverse.append ?_
    simp only [Views]
    exact ⟨v, [], rfl, h1, rfl⟩
end
end DL
end

section
set_option Elab.async false
set_option linter.all false
set_option maxRecDepth 100000
set_option maxHeartbeats 4000000
/-! DL2: the slots, modes, the pure judgement. -/
namespace DL
open PySem PySem.Spec PyProof.Rows L2

abbrev Rho := List (Option D)
abbrev St := L2.St
/-- the static side: the depth to which each slot owns; the slots that keep their value (with it) -/
structure Ty where
  ks : List Nat
  io : List Nat := []
  iv : Nat → V := fun _ => .non
section
variable (mg : Mg) (H : Hp) (S : Addr → Prop)
def SlotOk : Option D → Nat → Option V → List Addr → Prop
  | none, _, _, G => G = []
  | some d, k, o, G => ∃ v, o = some v ∧ Rep mg H S d k v G
def Slots : Rho → List Nat → St → List Addr → Prop
  | [], _, σ, F => σ = [] ∧ F = []
  | _ :: _, [], _, _ => False
  | x :: r, k :: ks, σ, F => ∃ o q G1 G2, σ = o :: q ∧ F = G1 ++ G2 ∧ SlotOk mg H S x k o G1 ∧ Slots r ks q G2
end
structure EnvOk (mg : Mg) (T : Ty) (ρ : Rho) (σ : St) (H : Hp) (S : Addr → Prop) (F : List Addr) : Prop where
  slots : Slots mg H S ρ T.ks σ F
  nodup : F.Nodup
  apart : ∀ a ∈ F, ¬ S a
  dom : ∀ a, S a → H a ≠ none
  io : ∀ p ∈ T.io, σ[p]? = some (some (T.iv p))

section
variable {mg : Mg} {H H' : Hp} {S S' : Addr → Prop} {T : Ty} {ρ : Rho} {σ : St} {F : List Addr}
theorem SlotOk.mono (hs : ∀ a, S a → S' a) {x : Option D} {k : Nat} {o : Option V} {G : List Addr} (e : Ext (fun a => S a ∨ a ∈ G) H H') (h : SlotOk mg H S x k o G) : SlotOk mg H' S' x k o G := by
  cases x with
  | none => exact h
  | some d =>
    obtain ⟨v, e1, r⟩ := h
    exact ⟨v, e1, r.mono hs e⟩
theorem SlotOk.mo {x : Option D} {k : Nat} {o : Option V} {G : List Addr} (h : SlotOk mg H S x k o G) : ∀ a ∈ G, ∃ o, H a = some o ∧ Mo o = true := by
  cases x with
  | none => intro a ha; rw [show G = [] from h] at ha; simp at ha
  | some d =>
    obtain ⟨v, e1, r⟩ := h
    exact r.mo
theorem Slots.mono (hs : ∀ a, S a → S' a) : ∀ {ρ : Rho} {ks : List Nat} {σ : St} {F : List Addr}, Ext (fun a => S a ∨ a ∈ F) H H' → Slots mg H S ρ ks σ F → Slots mg H' S' ρ ks σ F
  | [], _, _, _, _, h => by simp only [Slots] at h ⊢; exact h
  | _ :: _, [], _, _, _, h => by simp only [Slots] at h
  | x :: r, k :: ks, σ, F, e, h => by
    simp only [Slots] at h ⊢
    obtain ⟨o, q, G1, G2, rfl, rfl, h1, h2⟩ := h
    exact ⟨o, q, G1, G2, rfl, rfl, h1.mono hs (fun b o q z => e b o q (z.imp (Or.imp id (List.mem_append_left _)) id)), h2.mono hs (fun b o q z => e b o q (z.imp (Or.imp id (List.mem_append_right _)) id))⟩
theorem Slots.mo : ∀ {ρ : Rho} {ks : List Nat} {σ : St} {F : List Addr}, Slots mg H S ρ ks σ F → ∀ a ∈ F, ∃ o, H a = some o ∧ Mo o = true
  | [], _, _, _, h => by simp only [Slots] at h; obtain ⟨_, rfl⟩ := h; intro a ha; simp at ha
  | _ :: _, [], _, _, h => by simp only [Slots] at h
  | x :: r, k :: ks, σ, F, h => by
    simp only [Slots] at h
    obtain ⟨o, q, G1, G2, rfl, rfl, h1, h2⟩ := h
    intro a ha
    rcases List.mem_append.mp ha with ha | ha
    · exact h1.mo a ha
    · exact h2.mo a ha
theorem Slots.length : ∀ {ρ : Rho} {ks : List Nat} {σ : St} {F : List Addr}, Slots mg H S ρ ks σ F → σ.length = ρ.length
  | [], _, _, _, h => by simp only [Slots] at h; rw [h.1]; rfl
  | _ :: _, [], _, _, h => by simp only [Slots] at h
  | x :: r, k :: ks, σ, F, h => by
    simp only [Slots] at h
    obtain ⟨o, q, G1, G2, rfl, rfl, h1, h2⟩ := h
    simp [h2.length]
/-- one slot, and how another state of it takes its place -/
theorem Slots.focus : ∀ {ρ : Rho} {ks : List Nat} {σ : St} {F : List Addr} {i : Nat} {x : Option D}, Slots mg H S ρ ks σ F → ρ[i]? = some x →
    ∃ k o A B C, ks[i]? = some k ∧ σ[i]? = some o ∧ F = A ++ (B ++ C) ∧ SlotOk mg H S x k o B ∧
      ∀ (H' : Hp) (S' : Addr → Prop) (x' : Option D) (o' : Option V) (B' : List Addr), (∀ a, S a → S' a) → Ext (fun a => S a ∨ a ∈ A ∨ a ∈ C) H H' → SlotOk mg H' S' x' k o' B' → Slots mg H' S' (ρ.set i x') ks (σ.set i o') (A ++ (B' ++ C))
  | [], _, _, _, _, _, _, e => by simp at e
  | _ :: _, [], _, _, _, _, h, _ => by simp only [Slots] at h
  | x :: r, k :: ks, σ, F, 0, y, h, e => by
    simp only [Slots] at h
    obtain ⟨o, q, G1, G2, rfl, rfl, h1, h2⟩ := h
    simp at e; subst e
    refine ⟨k, o, [], G1, G2, rfl, rfl, rfl, h1, fun H' S' x' o' B' hs ex z => ?_⟩
    simp only [List.set_cons_zero, Slots]
    exact ⟨o', q, B', G2, rfl, rfl, z, h2.mono hs fun b o q z => ex b o q (z.imp (Or.imp id .inr) id)⟩
  | x :: r, k :: ks, σ, F, i + 1, y, h, e => by
    simp only [Slots] at h
    obtain ⟨o, q, G1, G2, rfl, rfl, h1, h2⟩ := h
    obtain ⟨k', o', A, B, C, ek, eo, rfl, z, w⟩ := Slots.focus (i := i) h2 (by simpa using e)
    refine ⟨k', o', G1 ++ A, B, C, by simpa using ek, by simpa using eo, by simp [List.append_assoc], z, fun H' S' x' o'' B' hs ex z' => ?_⟩
    simp only [List.set_cons_succ, Slots]
    refine ⟨o, q.set i o'', G1, A ++ (B' ++ C), rfl, by simp [List.append_assoc], h1.mono hs fun b o q z => ex b o q ?_, w H' S' x' o'' B' hs (fun b o q z => ex b o q ?_) z'⟩
    · rcases z with (z | z) | z
      · exact .inl (.inl z)
      · exact .inl (.inr (.inl (List.mem_append_left _ z)))
      · exact .inr z
    · rcases z with (z | z | z) | z
      · exact .inl (.inl z)
      · exact .inl (.inr (.inl (List.mem_append_right _ z)))
      · exact .inl (.inr (.inr z))
      · exact .inr z

/-- what was tracked stands; S grows by what is new -/
structure Grow (H : Hp) (S : Addr → Prop) (H' : Hp) (S' : Addr → Prop) : Prop where
  same : Same H H'
  up : ∀ a, S a → S' a
  new : ∀ a, S' a → S a ∨ (H a = none ∧ H' a ≠ none)
  dom : ∀ a, S a → H a ≠ none
theorem Grow.refl (h : ∀ a, S a → H a ≠ none) : Grow H S H S := ⟨Same.refl H, fun _ h => h, fun _ h => .inl h, h⟩
theorem Same.some (e : Same H H') {a : Addr} (h : H a ≠ none) : H' a ≠ none := by
  cases q : H a with
  | none => exact absurd q h
  | some o => rw [e a o q]; exact fun z => nomatch z
theorem Grow.dom' (g : Grow H S H' S') : ∀ a, S' a → H' a ≠ none := fun a h => by
  rcases g.new a h with h | h
  · exact Same.some g.same (g.dom a h)
  · exact h.2
theorem Grow.trans {S1 S2 : Addr → Prop} {H1 H2 : Hp} (g : Grow H S H1 S1) (g' : Grow H1 S1 H2 S2) : Grow H S H2 S2 :=
  ⟨g.same.trans g'.same, fun a h => g'.up a (g.up a h), fun a h => by
    rcases g'.new a h with h | h
    · rcases g.new a h with h | h
      · exact .inl h
      · exact .inr ⟨h.1, Same.some g'.same h.2⟩
    · exact .inr ⟨g.same.free h.1, h.2⟩, g.dom⟩
theorem Same.ext {S : Addr → Prop} (e : Same H H') : Ext S H H' := fun a o h _ => e a o h
theorem EnvOk.mo (E : EnvOk mg T ρ σ H S F) : ∀ a ∈ F, ∃ o, H a = some o ∧ Mo o = true := E.slots.mo
theorem EnvOk.rf (E : EnvOk mg T ρ σ H S F) : Grow H S H S := Grow.refl E.dom
theorem EnvOk.grow (E : EnvOk mg T ρ σ H S F) (g : Grow H S H' S') : EnvOk mg T ρ σ H' S' F := by
  refine ⟨E.slots.mono g.up (Same.ext g.same), E.nodup, fun a ha hs => ?_, g.dom', E.io⟩
  rcases g.new a hs with h | h
  · exact E.apart a ha h
  · obtain ⟨o, e1, _⟩ := E.mo a ha
    rw [h.1] at e1
    cases e1

/-! ### modes -/
/-- what is known of a value: flat; owned to a depth by whoever has it; a part of a slot, owned to a depth; only to be looked at, now -/
inductive Md where
  | fl | ow (k : Nat) | br (k : Nat) | vw
  deriving DecidableEq
def RpM (mg : Mg) (H0 : Hp) (F : List Addr) (H : Hp) (S : Addr → Prop) : Md → D → V → List Addr → Prop
  | .fl, d, v, G => flat d = true ∧ View mg H S d v ∧ G = []
  | .ow k, d, v, G => Rep mg H S d k v G ∧ G.Nodup ∧ ∀ a ∈ G, H0 a = none ∧ ¬ S a
  | .br k, d, v, G => Rep mg H S d k v G ∧ ∀ a ∈ G, a ∈ F
  | .vw, d, v, G => View mg H (fun _ => True) d v ∧ G = []
theorem RpM.view {H0 : Hp} {md : Md} {d : D} {v : V} {G : List Addr} (h : RpM mg H0 F H S md d v G) : View mg H (fun _ => True) d v := by
  cases md with
  | fl => exact h.2.1.mono (fun _ _ q _ => q) (fun _ _ => trivial)
  | ow k => exact h.1.freeze (fun _ _ => trivial) (fun _ _ => trivial)
  | br k => exact h.1.freeze (fun _ _ => trivial) (fun _ _ => trivial)
  | vw => exact h.1
theorem RpM.grow {H0 : Hp} {md : Md} {d : D} {v : V} {G : List Addr} (h : RpM mg H0 F H S md d v G) (g : Grow H S H' S') : RpM mg H0 F H' S' md d v G := by
  cases md with
  | fl => exact ⟨h.1, h.2.1.mono (Same.ext g.same) g.up, h.2.2⟩
  | ow k =>
    obtain ⟨r, n, f⟩ := h
    refine ⟨r.mono g.up (Same.ext g.same), n, fun a ha => ⟨(f a ha).1, fun hs => ?_⟩⟩
    rcases g.new a hs with h | h
    · exact (f a ha).2 h
    · obtain ⟨o, e1, _⟩ := r.mo a ha
      rw [h.1] at e1; cases e1
  | br k => exact ⟨h.1.mono g.up (Same.ext g.same), h.2⟩
  | vw => exact ⟨h.1.mono (Same.ext g.same) (fun _ _ => trivial), h.2⟩
theorem RpM.back {H0 : Hp} {md : Md} {d : D} {v : V} {G : List Addr} {H1 : Hp} (h : RpM mg H1 F H S md d v G) (e : Same H0 H1) : RpM mg H0 F H S md d v G := by
  cases md with
  | fl => exact h
  | ow k => exact ⟨h.1, h.2.1, fun a ha => ⟨e.free (h.2.2 a ha).1, (h.2.2 a ha).2⟩⟩
  | br k => exact h
  | vw => exact h
/-- v is of use as d: the end of a pure expression -/
def EndP (mg : Mg) (S : Addr → Prop) (F : List Addr) (H : Hp) (md : Md) (d : D) (Q : VK) : Prop :=
  ∀ v H' S' G, Grow H S H' S' → RpM mg H F H' S' md d v G → Q v H'
theorem EndP.back {md : Md} {d : D} {Q : VK} {H1 : Hp} {S1 : Addr → Prop} (q : EndP mg S F H md d Q) (g : Grow H S H1 S1) : EndP mg S1 F H1 md d Q :=
  fun v H' S' G g' r => q v H' S' G (g.trans g') (r.back g.same)
theorem EndP.imp {md : Md} {d : D} {Q Q' : VK} (q : EndP mg S F H md d Q) (h : ∀ v H', Q v H' → Q' v H') : EndP mg S F H md d Q' := fun v H' S' G g r => h v H' (q v H' S' G g r)
end

/-- modes that serve as others -/
def Md.le : Md → Md → Bool
  | _, .vw => true
  | .fl, .fl => true
  | .fl, _ => true
  | .ow j, .ow k => k == 0 || j == k
  | .br 0, .ow 0 => true
  | .br j, .br k => j == k
  | _, _ => false
section
variable {mg : Mg} {H H' : Hp} {S S' : Addr → Prop} {T : Ty} {ρ : Rho} {σ : St} {F : List Addr}
theorem RpM.le {H0 : Hp} {S0 : Addr → Prop} {m m' : Md} {d : D} {v : V} {G : List Addr} (h : RpM mg H0 F H S m d v G) (hl : m.le m' = true) (g : Grow H0 S0 H S) : ∃ S1 G', Grow H0 S0 H S1 ∧ (∀ a, S a → S1 a) ∧ RpM mg H0 F H S1 m' d v G' := by
  cases m' with
  | vw => exact ⟨S, [], g, fun _ h => h, h.view, rfl⟩
  | fl =>
    cases m with
    | fl => exact ⟨S, G, g, fun _ h => h, h⟩
    | _ => simp [Md.le] at hl
  | br k =>
    cases m with
    | fl => exact ⟨S, [], g, fun _ h => h, h.2.1.flat h.1 k S, by simp⟩
    | br j =>
      have : j = k := by simpa [Md.le] using hl
      subst this
      exact ⟨S, G, g, fun _ h => h, h⟩
    | _ => simp [Md.le] at hl
  | ow k =>
    cases m with
    | fl => exact ⟨S, [], g, fun _ h => h, h.2.1.flat h.1 k S, by simp, by simp⟩
    | vw => simp [Md.le] at hl
    | br j =>
      cases j with
      | succ j => cases k <;> simp [Md.le] at hl
      | zero =>
        cases k with
        | succ k => simp [Md.le] at hl
        | zero =>
          obtain ⟨r, f⟩ := h
          have e : G = [] := by simp only [Rep] at r; exact r.2
          subst e
          exact ⟨S, [], g, fun _ h => h, r, by simp, by simp⟩
    | ow j =>
      by_cases hjk : j = k
      · subst hjk; exact ⟨S, G, g, fun _ h => h, h⟩
      · have hk : k = 0 := by
          simp [Md.le, hjk] at hl
          exact hl
        subst hk
        obtain ⟨r, n, f⟩ := h
        refine ⟨fun a => S a ∨ a ∈ G, [], ⟨g.same, fun a h => .inl (g.up a h), fun a h => ?_, g.dom⟩, fun _ h => .inl h, ?_, by simp, by simp⟩
        · rcases h with h | h
          · exact g.new a h
          · obtain ⟨o, e1, _⟩ := r.mo a h
            exact .inr ⟨(f a h).1, by rw [e1]; exact fun z => nomatch z⟩
        · simp only [Rep]
          exact ⟨r.freeze (fun _ h => .inl h) (fun _ h => .inr h), trivial⟩
theorem EndP.le {m m' : Md} {d : D} {Q : VK} (q : EndP mg S F H m' d Q) (hl : m.le m' = true) : EndP mg S F H m d Q := fun v H' S' G g r => by
  obtain ⟨S1, G', g1, _, r'⟩ := r.le hl g
  exact q v H' S1 G' g1 r'
end

/-! ### the pure judgement -/
def tP (mg : Mg) (T : Ty) (md : Md) (p : Rho → Option D) : TE := fun σ H Q => ∃ ρ S F, EnvOk mg T ρ σ H S F ∧ ∃ d, p ρ = some d ∧ EndP mg S F H md d Q
abbrev PD (X : Cx) (T : Ty) (e : Expr) (md : Md) (p : Rho → Option D) : Prop := PE X e (tP X.mg T md p)
def tT (mg : Mg) (T : Ty) (p : Rho → Option Bool) : TT := fun σ H Q => ∃ ρ S F, EnvOk mg T ρ σ H S F ∧ ∃ b, p ρ = some b ∧ ∀ H' S', Grow H S H' S' → Q b H'
abbrev TD (X : Cx) (T : Ty) (e : Expr) (p : Rho → Option Bool) : Prop := PT X e (tT X.mg T p)
theorem PE.imp {X : Cx} {e : Expr} {t t' : TE} (h : PE X e t) (i : ∀ σ H Q, t' σ H Q → t σ H Q) : PE X e t' := ⟨fun pins s σ H Q I q => h.run pins s σ H Q I (i σ H Q q)⟩
theorem PT.imp {X : Cx} {e : Expr} {t t' : TT} (h : PT X e t) (i : ∀ σ H Q, t' σ H Q → t σ H Q) : PT X e t' := ⟨fun pins s σ H Q I q => h.run pins s σ H Q I (i σ H Q q)⟩
theorem PW.imp {X : Cx} {e : Expr} {t t' : TT} (h : PW X e t) (i : ∀ σ H Q, t' σ H Q → t σ H Q) : PW X e t' := ⟨fun w pins s σ H Q I q => h.run w pins s σ H Q I (i σ H Q q)⟩
theorem PS.imp {X : Cx} {e : Stmt} {t t' : TS} (h : PS X e t) (i : ∀ D σ H, t' D σ H → t D σ H) : PS X e t' := ⟨fun pins s σ H D I q => h.run pins s σ H D I (i D σ H q)⟩
theorem PSs.imp {X : Cx} {e : List Stmt} {t t' : TS} (h : PSs X e t) (i : ∀ D σ H, t' D σ H → t D σ H) : PSs X e t' := ⟨fun pins s σ H D I q => h.run pins s σ H D I (i D σ H q)⟩
theorem PD.le {X : Cx} {T : Ty} {e : Expr} {m m' : Md} {p : Rho → Option D} (h : PD X T e m p) (hl : m.le m' = true := by rfl) : PD X T e m' p :=
  PE.imp h fun _ _ _ ⟨ρ, S, F, E, d, hd, q⟩ => ⟨ρ, S, F, E, d, hd, q.le hl⟩

section
variable {X : Cx} {T : Ty} {a b c : Expr} {pos : Pos} {m m1 m2 md : Md} {p q : Rho → Option D} {mg : Mg} {H H' : Hp} {S S' : Addr → Prop} {ρ : Rho} {σ : St} {F : List Addr} {Q : VK}
/-- scalars as they end -/
theorem EndP.fl {H0 : Hp} {S0 : Addr → Prop} {d : D} {v : V} (q : EndP mg S0 F H0 md d Q) (g : Grow H0 S0 H S) (f : flat d = true) (h : View mg H S d v) : Q v H := (q.le (m := .fl) (by cases md <;> rfl)) v H S [] g ⟨f, h, rfl⟩
theorem EndP.non {H0 : Hp} {S0 : Addr → Prop} (q : EndP mg S0 F H0 md .non Q) (g : Grow H0 S0 H S) : Q .non H := q.fl g rfl (by simp only [View])
theorem EndP.bl {H0 : Hp} {S0 : Addr → Prop} {b : Bool} (q : EndP mg S0 F H0 md (.bl b) Q) (g : Grow H0 S0 H S) : Q (.bl b) H := q.fl g rfl (by simp only [View])
theorem EndP.int {H0 : Hp} {S0 : Addr → Prop} {i : Int} (q : EndP mg S0 F H0 md (.int i) Q) (g : Grow H0 S0 H S) : Q (.int i) H := q.fl g rfl (by simp only [View])
theorem EndP.str {H0 : Hp} {S0 : Addr → Prop} {x : Str} (q : EndP mg S0 F H0 md (.str x) Q) (g : Grow H0 S0 H S) : Q (.str x) H := q.fl g rfl (by simp only [View])
theorem RpM.int {H0 : Hp} {i : Int} {v : V} {G : List Addr} (h : RpM mg H0 F H S md (.int i) v G) : v = .int i := by simpa only [View] using h.view
theorem RpM.bl {H0 : Hp} {i : Bool} {v : V} {G : List Addr} (h : RpM mg H0 F H S md (.bl i) v G) : v = .bl i := by simpa only [View] using h.view
theorem RpM.non {H0 : Hp} {v : V} {G : List Addr} (h : RpM mg H0 F H S md .non v G) : v = .non := by simpa only [View] using h.view
theorem RpM.str {H0 : Hp} {i : Str} {v : V} {G : List Addr} (h : RpM mg H0 F H S md (.str i) v G) : v = .str i := by simpa only [View] using h.view

/-! names and constants -/
def eVar (i : Nat) : Rho → Option D := fun ρ => (ρ[i]?).join
theorem d_var (i k : Nat) {x : Str} {pos : Pos} (hk : T.ks[i]? = some k := by rfl) (hN : X.N[i]? = some x := by rfl) (hv : Vis X.env.scope x := by first | exact Or.inl rfl | exact Or.inr (Or.inl rfl) | exact Or.inr (Or.inr rfl)) (hd : (x == ("__debug__" : Str)) = false := by decide)
    (hcd : (x == ("__classdict__" : Str)) = false := by decide) : PD X T (.Name x pos) (.br k) (eVar i) := by
  refine PE.imp (pe_var hN hv hd hcd) fun σ H Q ⟨ρ, S, F, E, d, hp, q⟩ => ?_
  have hx : ρ[i]? = some (some d) := by
    cases h : ρ[i]? with
    | none => simp [eVar, h] at hp
    | some x => simp [eVar, h] at hp; rw [hp]
  obtain ⟨k', o, A, B, C, ek, eo, eF, z, _⟩ := E.slots.focus hx
  obtain ⟨v, rfl, r⟩ := z
  rw [hk] at ek; cases ek
  refine ⟨v, eo, q v H S B E.rf ⟨r, fun a ha => ?_⟩⟩
  rw [eF]; simp [ha]
/-- a name whose slot owns nothing -/
theorem d_nm (i : Nat) {x : Str} {pos : Pos} (hk : T.ks[i]? = some 0 := by rfl) (hN : X.N[i]? = some x := by rfl) (hv : Vis X.env.scope x := by first | exact Or.inl rfl | exact Or.inr (Or.inl rfl) | exact Or.inr (Or.inr rfl)) (hd : (x == ("__debug__" : Str)) = false := by decide)
    (hcd : (x == ("__classdict__" : Str)) = false := by decide) : PD X T (.Name x pos) (.ow 0) (eVar i) := PD.le (d_var i 0 hk hN hv hd hcd)
def eC (d : D) : Rho → Option D := fun _ => some d
theorem d_int {i : Int} {j} : PD X T (.Constant (.int i) j pos) .fl (eC (.int i)) := PE.imp pe_int fun σ H Q ⟨ρ, S, F, E, d, hp, q⟩ => by cases hp; exact q.int E.rf
theorem d_bl {i : Bool} {j} : PD X T (.Constant (.bool i) j pos) .fl (eC (.bl i)) := PE.imp pe_bl fun σ H Q ⟨ρ, S, F, E, d, hp, q⟩ => by cases hp; exact q.bl E.rf
theorem d_non {j} : PD X T (.Constant .none j pos) .fl (eC .non) := PE.imp pe_non fun σ H Q ⟨ρ, S, F, E, d, hp, q⟩ => by cases hp; exact q.non E.rf
theorem d_str {x : Str} {j} : PD X T (.Constant (.str x) j pos) .fl (eC (.str x)) := PE.imp pe_str fun σ H Q ⟨ρ, S, F, E, d, hp, q⟩ => by cases hp; exact q.str E.rf
/-- a module's constant int -/
theorem d_globI {x : Str} {i : Int} {u : Value} (hg : Gl X x) (hm : X.mg x = some u) (r : RelV (.int i) u) (hd : (x == ("__debug__" : Str)) = false := by decide) : PD X T (.Name x pos) .fl (eC (.int i)) :=
  PE.imp (pe_glob hg hm r hd) fun σ H Q ⟨ρ, S, F, E, d, hp, q⟩ => by cases hp; exact q.int E.rf

/-! two operands -/
def e2 (f : D → D → Option D) (p q : Rho → Option D) : Rho → Option D := fun ρ => (p ρ).bind fun x => (q ρ).bind fun y => f x y
def e1 (f : D → Option D) (p : Rho → Option D) : Rho → Option D := fun ρ => (p ρ).bind f
/-- an operation on values, as f says: q is what is wanted as from (H0, S0) on -/
def Op2 (X : Cx) (r : R2) (m1 m2 md : Md) (f : D → D → Option D) : Prop :=
  ∀ (x y d : D) (v1 v2 : V) (H0 H : Hp) (S0 S : Addr → Prop) (F G1 G2 : List Addr) (Q : VK), f x y = some d → Grow H0 S0 H S → RpM X.mg H0 F H S m1 x v1 G1 → RpM X.mg H0 F H S m2 y v2 G2 → EndP X.mg S0 F H0 md d Q → r v1 v2 H Q
theorem d_op2 {r : R2} {f : D → D → Option D} (ho : Op2 X r m1 m2 md f) {e : Expr} (h : PE X e (tOp r (tP X.mg T m1 p) (tP X.mg T m2 q))) : PD X T e md (e2 f p q) := by
  refine PE.imp h fun σ H Q ⟨ρ, S, F, E, d, hp, z⟩ => ?_
  simp only [e2, Option.bind_eq_some_iff] at hp
  obtain ⟨x, hx, y, hy, hf⟩ := hp
  refine ⟨ρ, S, F, E, x, hx, fun v1 H1 S1 G1 g1 r1 => ⟨ρ, S1, F, E.grow g1, y, hy, fun v2 H2 S2 G2 g2 r2 => ?_⟩⟩
  exact ho x y d v1 v2 H H2 S S2 F G1 G2 Q hf (g1.trans g2) (r1.grow g2) (r2.back g1.same) z
def Op1 (X : Cx) (r : V → Hp → VK → Prop) (m1 md : Md) (f : D → Option D) : Prop :=
  ∀ (x d : D) (v1 : V) (H0 H : Hp) (S0 S : Addr → Prop) (F G1 : List Addr) (Q : VK), f x = some d → Grow H0 S0 H S → RpM X.mg H0 F H S m1 x v1 G1 → EndP X.mg S0 F H0 md d Q → r v1 H Q
theorem d_op1 {r : V → Hp → VK → Prop} {f : D → Option D} (ho : Op1 X r m1 md f) {e : Expr} (h : PE X e (tUn r (tP X.mg T m1 p))) : PD X T e md (e1 f p) := by
  refine PE.imp h fun σ H Q ⟨ρ, S, F, E, d, hp, z⟩ => ?_
  simp only [e1, Option.bind_eq_some_iff] at hp
  obtain ⟨x, hx, hf⟩ := hp
  exact ⟨ρ, S, F, E, x, hx, fun v1 H1 S1 G1 g1 r1 => ho x d v1 H H1 S S1 F G1 Q hf g1 r1 z⟩
end
end DL
end

section
set_option Elab.async false
set_option linter.all false
set_option maxRecDepth 100000
set_option maxHeartbeats 4000000
/-! DL3: pure expressions. -/
namespace DL
open PySem PySem.Spec PyProof.Rows L2

abbrev cap : Nat := 10000000
theorem cap_le {n : Nat} (h : n ≤ cap) : n ≤ sizeLine := by rw [sizeLine_eq]; unfold cap at h; omega
theorem cap_lt {n : Nat} (h : n < cap) : n < sizeLine := by rw [sizeLine_eq]; unfold cap at h; omega
/-- lists whose items are shared, or can be made so -/
def Md.sh1 : Md → Bool
  | .fl => true
  | .ow _ => true
  | .br 0 => true
  | .br 1 => true
  | _ => false
section
variable {mg : Mg} {H0 H H' : Hp} {S0 S S' : Addr → Prop} {F G : List Addr} {m md : Md} {v : V} {Q : VK}
theorem frz_part {G' : List Addr} (g : Grow H0 S0 H S) (hm : ∀ a ∈ G', ∃ o, H a = some o) (hn : ∀ a ∈ G', H0 a = none) : Grow H0 S0 H (fun a => S a ∨ a ∈ G') :=
  ⟨g.same, fun a h => .inl (g.up a h), fun a h => by
    rcases h with h | h
    · exact g.new a h
    · obtain ⟨o, e⟩ := hm a h
      exact .inr ⟨hn a h, by rw [e]; exact fun z => nomatch z⟩, g.dom⟩
theorem RpM.lst {ds : List D} (h : RpM mg H0 F H S m (.lst ds) v G) (hm : m.sh1 = true) (g : Grow H0 S0 H S) : ∃ a xs S1, v = .ref a ∧ H a = some (.lst xs) ∧ Grow H0 S0 H S1 ∧ (∀ b, S b → S1 b) ∧ Views mg H S1 ds xs := by
  have sh0 : Rep mg H S (.lst ds) 0 v G → ∃ a xs S1, v = .ref a ∧ H a = some (.lst xs) ∧ Grow H0 S0 H S1 ∧ (∀ b, S b → S1 b) ∧ Views mg H S1 ds xs := fun h => by
    simp only [Rep, View] at h
    obtain ⟨⟨a, xs, e, s, r, q⟩, _⟩ := h
    exact ⟨a, xs, S, e, r, g, fun _ h => h, q⟩
  cases m with
  | fl => exact absurd h.1 (by simp [flat])
  | vw => simp [Md.sh1] at hm
  | ow k =>
    cases k with
    | zero => exact sh0 h.1
    | succ k =>
      obtain ⟨r, n, f⟩ := h
      simp only [Rep] at r
      obtain ⟨a, xs, G', e, r, rfl, q⟩ := r
      refine ⟨a, xs, fun b => S b ∨ b ∈ G', e, r, frz_part g (fun b hb => let ⟨o, e, _⟩ := q.mo b hb; ⟨o, e⟩) (fun b hb => (f b (List.mem_cons_of_mem _ hb)).1), fun _ h => .inl h, q.freeze (fun _ h => .inl h) (fun _ h => .inr h)⟩
  | br k =>
    match k, h, hm with
    | 0, h, _ => exact sh0 h.1
    | 1, h, _ =>
      obtain ⟨r, f⟩ := h
      simp only [Rep] at r
      obtain ⟨a, xs, G', e, r, _, q⟩ := r
      exact ⟨a, xs, S, e, r, g, fun _ h => h, (Reps.zero.mp q).1⟩
    | k + 2, _, hm => simp [Md.sh1] at hm
theorem RpM.tup {ds : List D} (h : RpM mg H0 F H S m (.tup ds) v G) (hm : m.sh1 = true) (g : Grow H0 S0 H S) : ∃ a xs S1, v = .ref a ∧ H a = some (.tup xs) ∧ Grow H0 S0 H S1 ∧ (∀ b, S b → S1 b) ∧ Views mg H S1 ds xs := by
  have sh0 : Rep mg H S (.tup ds) 0 v G → ∃ a xs S1, v = .ref a ∧ H a = some (.tup xs) ∧ Grow H0 S0 H S1 ∧ (∀ b, S b → S1 b) ∧ Views mg H S1 ds xs := fun h => by
    simp only [Rep, View] at h
    obtain ⟨⟨a, xs, e, r, q⟩, _⟩ := h
    exact ⟨a, xs, S, e, r, g, fun _ h => h, q⟩
  cases m with
  | fl =>
    obtain ⟨f, w, _⟩ := h
    exact sh0 (by simp only [Rep]; exact ⟨w, by assumption⟩)
  | vw => simp [Md.sh1] at hm
  | ow k =>
    cases k with
    | zero => exact sh0 h.1
    | succ k =>
      obtain ⟨r, n, f⟩ := h
      simp only [Rep] at r
      obtain ⟨a, xs, e, r, q⟩ := r
      refine ⟨a, xs, fun b => S b ∨ b ∈ G, e, r, frz_part g (fun b hb => let ⟨o, e, _⟩ := q.mo b hb; ⟨o, e⟩) (fun b hb => (f b hb).1), fun _ h => .inl h, q.freeze (fun _ h => .inl h) (fun _ h => .inr h)⟩
  | br k =>
    match k, h, hm with
    | 0, h, _ => exact sh0 h.1
    | 1, h, _ =>
      obtain ⟨r, f⟩ := h
      simp only [Rep] at r
      obtain ⟨a, xs, e, r, q⟩ := r
      exact ⟨a, xs, S, e, r, g, fun _ h => h, (Reps.zero.mp q).1⟩
    | k + 2, _, hm => simp [Md.sh1] at hm
theorem same_upd {p : Addr} {o : HO} (h : H p = none) : Same H (upd H p o) := fun b x e => by
  rw [upd_ne (ne_of_none e h)]
  exact e
theorem Grow.laid {S1 : Addr → Prop} {p : Addr} {o : HO} (g : Grow H0 S0 H S1) (h : H p = none) : Grow H0 S0 (upd H p o) S1 :=
  ⟨g.same.trans (same_upd h), g.up, fun a s => (g.new a s).imp id fun z => ⟨z.1, Same.some (same_upd h) z.2⟩, g.dom⟩
/-- a new list: its items owned one less deep -/
theorem EndP.newL {ds : List D} {k : Nat} {xs : List V} {S1 : Addr → Prop} {G' : List Addr} (q : EndP mg S0 F H0 (.ow (k + 1)) (.lst ds) Q) (g : Grow H0 S0 H S1) (hv : Reps mg H S1 ds k xs G') (n : G'.Nodup) (f : ∀ a ∈ G', H0 a = none ∧ ¬ S1 a) :
    ∀ p, H p = none → Q (.ref p) (upd H p (.lst xs)) := fun p hp => by
  have np : p ∉ G' := fun z => by
    obtain ⟨o, e, _⟩ := hv.mo p z
    rw [hp] at e; cases e
  refine q _ _ S1 (p :: G') (g.laid hp) ⟨?_, List.nodup_cons.mpr ⟨np, n⟩, fun a ha => ?_⟩
  · simp only [Rep]
    exact ⟨p, xs, G', rfl, upd_same, rfl, hv.mono (fun _ h => h) (Same.ext (same_upd hp))⟩
  · rcases List.mem_cons.mp ha with rfl | ha
    · exact ⟨g.same.free hp, fun z => g.dom' _ z hp⟩
    · exact f a ha
theorem EndP.newL1 {ds : List D} {xs : List V} {S1 : Addr → Prop} (q : EndP mg S0 F H0 (.ow 1) (.lst ds) Q) (g : Grow H0 S0 H S1) (hv : Views mg H S1 ds xs) : ∀ p, H p = none → Q (.ref p) (upd H p (.lst xs)) :=
  q.newL g (Reps.zero.mpr ⟨hv, rfl⟩) (by simp) (by simp)
/-- a new tuple -/
theorem EndP.newT {ds : List D} {k : Nat} {xs : List V} {S1 : Addr → Prop} {G' : List Addr} (q : EndP mg S0 F H0 (.ow (k + 1)) (.tup ds) Q) (g : Grow H0 S0 H S1) (hv : Reps mg H S1 ds k xs G') (n : G'.Nodup) (f : ∀ a ∈ G', H0 a = none ∧ ¬ S1 a) :
    ∀ p, H p = none → Q (.ref p) (upd H p (.tup xs)) := fun p hp => by
  refine q _ _ S1 G' (g.laid hp) ⟨?_, n, f⟩
  simp only [Rep]
  exact ⟨p, xs, rfl, upd_same, hv.mono (fun _ h => h) (Same.ext (same_upd hp))⟩
theorem EndP.newT1 {ds : List D} {xs : List V} {S1 : Addr → Prop} (q : EndP mg S0 F H0 (.ow 1) (.tup ds) Q) (g : Grow H0 S0 H S1) (hv : Views mg H S1 ds xs) : ∀ p, H p = none → Q (.ref p) (upd H p (.tup xs)) :=
  q.newT g (Reps.zero.mpr ⟨hv, rfl⟩) (by simp) (by simp)
theorem EndP.at {d : D} {w : V} {S1 : Addr → Prop} (q : EndP mg S0 F H0 (.ow 0) d Q) (g : Grow H0 S0 H S1) (h : View mg H S1 d w) : Q w H := q w H S1 [] g ⟨by simp only [Rep]; exact ⟨h, trivial⟩, by simp, by simp⟩
end

section
variable {X : Cx} {T : Ty} {a b c : Expr} {pos : Pos} {m m1 m2 m3 md : Md} {p q r' : Rho → Option D} {mg : Mg} {H H' : Hp} {S S' : Addr → Prop} {ρ : Rho} {σ : St} {F : List Addr} {Q : VK}

/-! ### arithmetic -/
def addD : D → D → Option D
  | .int i, .int j => some (.int (i + j))
  | .lst xs, .lst ys => if xs.length + ys.length ≤ cap then some (.lst (xs ++ ys)) else none
  | .str x, .str y => if x.length + y.length ≤ cap then some (.str (x ++ y)) else none
  | .tup xs, .tup ys => if xs.isEmpty = false ∧ ys.isEmpty = false ∧ xs.length + ys.length ≤ cap then some (.tup (xs ++ ys)) else none
  | _, _ => none
theorem ne_nil_len {xs : List V} {ds : List D} (h : xs.length = ds.length) (e : ds.isEmpty = false) : xs ≠ [] := fun z => by
  subst z
  cases ds with
  | nil => simp at e
  | cons _ _ => simp at h
theorem d_add (ha : PD X T a m1 p) (hb : PD X T b m2 q) (h1 : m1.sh1 = true := by rfl) (h2 : m2.sh1 = true := by rfl) : PD X T (.BinOp a .Add b pos) (.ow 1) (e2 addD p q) := by
  refine d_op2 ?_ (pe_op (((op_add.or op_cat).or op_add_str).or op_catT) ha hb)
  intro x y d v1 v2 H0 H S0 S F G1 G2 Q hf g r1 r2 z
  unfold addD at hf
  split at hf
  · cases hf
    rw [r1.int, r2.int]
    exact .inl (.inl (.inl ⟨_, _, rfl, rfl, z.int g⟩))
  · rename_i xs ys
    split at hf
    · rename_i hl
      cases hf
      obtain ⟨l, us, S1, rfl, e1, g1, up1, w1⟩ := r1.lst h1 g
      obtain ⟨l2, us2, S2, rfl, e2, g2, up2, w2⟩ := r2.lst h2 g
      have g3 : Grow H0 S0 H (fun a => S1 a ∨ S2 a) := ⟨g.same, fun a h => .inl (g1.up a h), fun a h => h.elim (g1.new a) (g2.new a), g.dom⟩
      refine .inl (.inl (.inr ⟨l, l2, us, us2, rfl, rfl, e1, e2, ?_, z.newL1 g3 ?_⟩))
      · rw [w1.length, w2.length]; exact cap_le hl
      · exact (w1.mono (fun _ _ q _ => q) (fun _ h => .inl h)).append (w2.mono (fun _ _ q _ => q) (fun _ h => .inr h))
    · cases hf
  · rename_i xs ys
    split at hf
    · rename_i hl
      cases hf
      rw [r1.str, r2.str]
      exact .inl (.inr ⟨_, _, rfl, rfl, cap_le hl, z.str g⟩)
    · cases hf
  · rename_i xs ys
    split at hf
    · rename_i hl
      cases hf
      obtain ⟨l, us, S1, rfl, e1, g1, up1, w1⟩ := r1.tup h1 g
      obtain ⟨l2, us2, S2, rfl, e2, g2, up2, w2⟩ := r2.tup h2 g
      have g3 : Grow H0 S0 H (fun a => S1 a ∨ S2 a) := ⟨g.same, fun a h => .inl (g1.up a h), fun a h => h.elim (g1.new a) (g2.new a), g.dom⟩
      refine .inr ⟨l, l2, us, us2, rfl, rfl, SqT.of e1, SqT.of e2, ne_nil_len w1.length hl.1, ?_, fun e => absurd e (ne_nil_len w2.length hl.2.1), fun _ => z.newT1 g3 ?_⟩
      · rw [w1.length, w2.length]; exact cap_le hl.2.2
      · exact (w1.mono (fun _ _ q _ => q) (fun _ h => .inl h)).append (w2.mono (fun _ _ q _ => q) (fun _ h => .inr h))
    · cases hf
  · cases hf
def subD : D → D → Option D
  | .int i, .int j => some (.int (i - j))
  | _, _ => none
theorem d_sub (ha : PD X T a m1 p) (hb : PD X T b m2 q) : PD X T (.BinOp a .Sub b pos) .fl (e2 subD p q) := by
  refine d_op2 ?_ (pe_op op_sub ha hb)
  intro x y d v1 v2 H0 H S0 S F G1 G2 Q hf g r1 r2 z
  unfold subD at hf
  split at hf
  · cases hf
    rw [r1.int, r2.int]
    exact ⟨_, _, rfl, rfl, z.int g⟩
  · cases hf
def small (i : Int) : Bool := decide (-(2 ^ 64) < i) && decide (i < 2 ^ 64)
def mulD : D → D → Option D
  | .int i, .int j => if small i || small j then some (.int (i * j)) else none
  | .lst xs, .int k => if 0 ≤ k ∧ k ≤ 1000000 ∧ xs.length * k.toNat ≤ cap then some (.lst (List.replicate k.toNat xs).flatten) else none
  | _, _ => none
theorem views_rep {xs : List V} {ds : List D} (h : Views mg H S ds xs) : ∀ n, Views mg H S (List.replicate n ds).flatten (List.replicate n xs).flatten
  | 0 => by simp [Views]
  | n + 1 => by
    simp only [List.replicate_succ, List.flatten_cons]
    exact h.append (views_rep h n)
theorem d_mul (ha : PD X T a m1 p) (hb : PD X T b m2 q) (h1 : m1.sh1 = true := by rfl) : PD X T (.BinOp a .Mult b pos) (.ow 1) (e2 mulD p q) := by
  refine d_op2 ?_ (pe_op (op_mul.or op_rep) ha hb)
  intro x y d v1 v2 H0 H S0 S F G1 G2 Q hf g r1 r2 z
  unfold mulD at hf
  split at hf
  · split at hf
    · rename_i hl
      cases hf
      rw [r1.int, r2.int]
      refine .inl ⟨_, _, rfl, rfl, ?_, z.int g⟩
      simp only [small, Bool.or_eq_true, Bool.and_eq_true, decide_eq_true_eq] at hl
      exact hl
    · cases hf
  · split at hf
    · rename_i hl
      cases hf
      obtain ⟨l, us, S1, rfl, e1, g1, up1, w1⟩ := r1.lst h1 g
      rw [r2.int]
      refine .inr ⟨l, _, us, rfl, rfl, e1, by omega, by omega, ?_, z.newL1 g1 (views_rep w1 _)⟩
      rw [w1.length]; exact cap_le hl.2.2
    · cases hf
  · cases hf
def divD : D → D → Option D
  | .int i, .int j => if 0 < j ∧ j < 1073741824 then some (.int (i / j)) else none
  | _, _ => none
theorem d_div (ha : PD X T a m1 p) (hb : PD X T b m2 q) : PD X T (.BinOp a .FloorDiv b pos) .fl (e2 divD p q) := by
  refine d_op2 ?_ (pe_op op_fdiv ha hb)
  intro x y d v1 v2 H0 H S0 S F G1 G2 Q hf g r1 r2 z
  unfold divD at hf
  split at hf
  · split at hf
    · rename_i hl
      cases hf
      rw [r1.int, r2.int]
      exact ⟨_, _, rfl, rfl, hl, z.int g⟩
    · cases hf
  · cases hf
def modD : D → D → Option D
  | .int i, .int j => if 0 < j then some (.int (i % j)) else none
  | _, _ => none
theorem d_mod (ha : PD X T a m1 p) (hb : PD X T b m2 q) : PD X T (.BinOp a .Mod b pos) .fl (e2 modD p q) := by
  refine d_op2 ?_ (pe_op op_mod ha hb)
  intro x y d v1 v2 H0 H S0 S F G1 G2 Q hf g r1 r2 z
  unfold modD at hf
  split at hf
  · split at hf
    · rename_i hl
      cases hf
      rw [r1.int, r2.int]
      exact ⟨_, _, rfl, rfl, hl, z.int g⟩
    · cases hf
  · cases hf
def powD : D → D → Option D
  | .int i, .int j => if 0 ≤ j ∧ j ≤ 1000000 ∧ i.natAbs < 2 ^ 64 then some (.int (i ^ j.toNat)) else none
  | _, _ => none
theorem d_pow (ha : PD X T a m1 p) (hb : PD X T b m2 q) : PD X T (.BinOp a .Pow b pos) .fl (e2 powD p q) := by
  refine d_op2 ?_ (pe_op op_pow ha hb)
  intro x y d v1 v2 H0 H S0 S F G1 G2 Q hf g r1 r2 z
  unfold powD at hf
  split at hf
  · split at hf
    · rename_i hl
      cases hf
      rw [r1.int, r2.int]
      exact ⟨_, _, rfl, rfl, hl, z.int g⟩
    · cases hf
  · cases hf
def negD : D → Option D
  | .int i => some (.int (-i))
  | _ => none
theorem d_neg (ha : PD X T a m1 p) : PD X T (.UnaryOp .USub a pos) .fl (e1 negD p) := by
  refine d_op1 ?_ (pe_un un_neg ha)
  intro x d v1 H0 H S0 S F G1 Q hf g r1 z
  unfold negD at hf
  split at hf
  · cases hf
    rw [r1.int]
    exact ⟨_, rfl, z.int g⟩
  · cases hf

/-! ### tests -/
def D.toB : D → Option Bool
  | .bl b => some b
  | _ => none
def eB (p : Rho → Option D) : Rho → Option Bool := fun ρ => (p ρ).bind D.toB
theorem toB_some {d : D} {b : Bool} (h : d.toB = some b) : d = .bl b := by
  cases d <;> simp [D.toB] at h
  rw [h]
theorem td_val (h : PD X T a m p) (he : ∀ whole, isTrue a X.env whole = (do let v ← whole; standAt a.pos; holding [v] (truthy v)) := by intro _; rfl) : TD X T a (eB p) := by
  refine PT.imp (pt_val h he) fun σ H Q ⟨ρ, S, F, E, d, hp, q⟩ => ?_
  simp only [eB, Option.bind_eq_some_iff] at hp
  obtain ⟨x, hx, hb⟩ := hp
  have := toB_some hb
  subst this
  refine ⟨ρ, S, F, E, _, hx, fun v H' S' G g r => ⟨d, r.bl, q H' S' g⟩⟩
abbrev TW (X : Cx) (T : Ty) (e : Expr) (p : Rho → Option Bool) : Prop := PW X e (tT X.mg T p)
theorem TW.td {p : Rho → Option Bool} (h : TW X T a p) : TD X T a p := PW.pt h
section
variable {pb qb : Rho → Option Bool} {rest : List Expr}
def bNot (p : Rho → Option Bool) : Rho → Option Bool := fun ρ => (p ρ).map (!·)
def bAnd (p q : Rho → Option Bool) : Rho → Option Bool := fun ρ => (p ρ).bind fun b => if b = true then q ρ else some false
def bOr (p q : Rho → Option Bool) : Rho → Option Bool := fun ρ => (p ρ).bind fun b => if b = true then some true else q ρ
theorem td_not (h : TD X T a pb) : TD X T (.UnaryOp .Not a pos) (bNot pb) := by
  refine PT.imp (pt_not h) fun σ H Q ⟨ρ, S, F, E, b, hp, q⟩ => ?_
  simp only [bNot, Option.map_eq_some_iff] at hp
  obtain ⟨x, hx, rfl⟩ := hp
  exact ⟨ρ, S, F, E, x, hx, q⟩
theorem tw_one (h : TD X T a pb) {op : BoolOp} : TW X T (.BoolOp op [a] pos) pb := by
  cases op with
  | And => exact pw_and1 h
  | Or => exact pw_or1 h
theorem tw_and (ha : TD X T a pb) (hb : TW X T (.BoolOp .And (b :: rest) pos) qb) : TW X T (.BoolOp .And (a :: b :: rest) pos) (bAnd pb qb) := by
  refine PW.imp (pw_and ha hb) fun σ H Q ⟨ρ, S, F, E, d, hp, q⟩ => ?_
  simp only [bAnd, Option.bind_eq_some_iff] at hp
  obtain ⟨x, hx, hy⟩ := hp
  refine ⟨ρ, S, F, E, x, hx, fun H1 S1 g1 => ?_⟩
  cases x with
  | true => exact ⟨ρ, S1, F, E.grow g1, d, by simpa using hy, fun H' S' g => q H' S' (g1.trans g)⟩
  | false =>
    have e : false = d := by simpa using hy
    subst e
    exact q H1 S1 g1
theorem tw_or (ha : TD X T a pb) (hb : TW X T (.BoolOp .Or (b :: rest) pos) qb) : TW X T (.BoolOp .Or (a :: b :: rest) pos) (bOr pb qb) := by
  refine PW.imp (pw_or ha hb) fun σ H Q ⟨ρ, S, F, E, d, hp, q⟩ => ?_
  simp only [bOr, Option.bind_eq_some_iff] at hp
  obtain ⟨x, hx, hy⟩ := hp
  refine ⟨ρ, S, F, E, x, hx, fun H1 S1 g1 => ?_⟩
  cases x with
  | false => exact ⟨ρ, S1, F, E.grow g1, d, by simpa using hy, fun H' S' g => q H' S' (g1.trans g)⟩
  | true =>
    have e : true = d := by simpa using hy
    subst e
    exact q H1 S1 g1
/-! .. as values -/
def vNot (p : Rho → Option D) : Rho → Option D := fun ρ => (eB p ρ).map fun b => .bl !b
def vAnd (p q : Rho → Option D) : Rho → Option D := fun ρ => (eB p ρ).bind fun b => if b = true then q ρ else some (.bl false)
def vOr (p q : Rho → Option D) : Rho → Option D := fun ρ => (eB p ρ).bind fun b => if b = true then some (.bl true) else q ρ
theorem d_not (h : PD X T a m p) : PD X T (.UnaryOp .Not a pos) .fl (vNot p) := by
  refine PE.imp (pe_not h) fun σ H Q ⟨ρ, S, F, E, d, hp, q⟩ => ?_
  simp only [vNot, eB, Option.map_eq_some_iff, Option.bind_eq_some_iff] at hp
  obtain ⟨x, ⟨y, hy, hx⟩, rfl⟩ := hp
  have := toB_some hx
  subst this
  exact ⟨ρ, S, F, E, _, hy, fun v H' S' G g r => ⟨x, r.bl, q.bl g⟩⟩
theorem d_one {op : BoolOp} (h : PD X T a m p) : PD X T (.BoolOp op [a] pos) m p := pe_one h
theorem d_and (ha : PD X T a m1 p) (hb : PD X T (.BoolOp .And (b :: rest) pos) m2 q) : PD X T (.BoolOp .And (a :: b :: rest) pos) m2 (vAnd p q) := by
  refine PE.imp (pe_and ha hb) fun σ H Q ⟨ρ, S, F, E, d, hp, q⟩ => ?_
  simp only [vAnd, eB, Option.bind_eq_some_iff] at hp
  obtain ⟨x, ⟨y, hy, hx⟩, hz⟩ := hp
  have := toB_some hx
  subst this
  refine ⟨ρ, S, F, E, _, hy, fun v H1 S1 G g1 r => ⟨x, r.bl, ?_⟩⟩
  cases x with
  | true => exact ⟨ρ, S1, F, E.grow g1, d, by simpa using hz, q.back g1⟩
  | false =>
    have e : D.bl false = d := by simpa using hz
    subst e
    exact q.bl g1
theorem d_or (ha : PD X T a m1 p) (hb : PD X T (.BoolOp .Or (b :: rest) pos) m2 q) : PD X T (.BoolOp .Or (a :: b :: rest) pos) m2 (vOr p q) := by
  refine PE.imp (pe_or ha hb) fun σ H Q ⟨ρ, S, F, E, d, hp, q⟩ => ?_
  simp only [vOr, eB, Option.bind_eq_some_iff] at hp
  obtain ⟨x, ⟨y, hy, hx⟩, hz⟩ := hp
  have := toB_some hx
  subst this
  refine ⟨ρ, S, F, E, _, hy, fun v H1 S1 G g1 r => ⟨x, r.bl, ?_⟩⟩
  cases x with
  | false => exact ⟨ρ, S1, F, E.grow g1, d, by simpa using hz, q.back g1⟩
  | true =>
    have e : D.bl true = d := by simpa using hz
    subst e
    exact q.bl g1
def eIf (t : Rho → Option Bool) (p q : Rho → Option D) : Rho → Option D := fun ρ => (t ρ).bind fun b => if b = true then p ρ else q ρ
theorem d_if (hc : TD X T c pb) (ha : PD X T a m p) (hb : PD X T b m q) : PD X T (.IfExp c a b pos) m (eIf pb p q) := by
  refine PE.imp (pe_ifExp hc ha hb) fun σ H Q ⟨ρ, S, F, E, d, hp, q⟩ => ?_
  simp only [eIf, Option.bind_eq_some_iff] at hp
  obtain ⟨x, hx, hz⟩ := hp
  refine ⟨ρ, S, F, E, x, hx, fun H1 S1 g1 => ?_⟩
  cases x with
  | true => exact ⟨ρ, S1, F, E.grow g1, d, by simpa using hz, q.back g1⟩
  | false => exact ⟨ρ, S1, F, E.grow g1, d, by simpa using hz, q.back g1⟩
end

/-! ### comparisons -/
theorem d_cmp {op : CmpOp} {r : R2} {f : D → D → Option D} (hr : OpR X (compareOp op) r) (ho : Op2 X r m1 m2 .fl f) (ha : PD X T a m1 p) (hb : PD X T b m2 q) (hm : behindInMarks op b = false := by first | exact nomark _ | rfl) : PD X T (.Compare a [op] [b] pos) .fl (e2 f p q) :=
  d_op2 ho (pe_cmpR hr ha hb hm)
theorem td_cmp {op : CmpOp} {r : R2} {f : D → D → Option D} (hr : OpR X (compareOp op) r) (ho : Op2 X r m1 m2 .fl f) (ha : PD X T a m1 p) (hb : PD X T b m2 q) (hm : behindInMarks op b = false := by first | exact nomark _ | rfl) : TD X T (.Compare a [op] [b] pos) (eB (e2 f p q)) := by
  refine PT.imp (pt_cmpR hr ha hb hm) fun σ H Q ⟨ρ, S, F, E, d, hp, z⟩ => ?_
  simp only [eB, e2, Option.bind_eq_some_iff] at hp
  obtain ⟨w, ⟨x, hx, y, hy, hf⟩, hb⟩ := hp
  have := toB_some hb
  subst this
  refine ⟨ρ, S, F, E, x, hx, fun v1 H1 S1 G1 g1 r1 => ⟨ρ, S1, F, E.grow g1, y, hy, fun v2 H2 S2 G2 g2 r2 => ?_⟩⟩
  refine ho x y _ v1 v2 H H2 S S2 F G1 G2 _ hf (g1.trans g2) (r1.grow g2) (r2.back g1.same) fun v H' S' G g r => ⟨d, r.bl, z H' S' g⟩
def cmpD (f : Int → Int → Bool) : D → D → Option D
  | .int i, .int j => some (.bl (f i j))
  | _, _ => none
theorem o_cmp {f : Int → Int → Bool} : Op2 X (rI0 fun i j => .bl (f i j)) m1 m2 md (cmpD f) := by
  intro x y d v1 v2 H0 H S0 S F G1 G2 Q hf g r1 r2 z
  unfold cmpD at hf
  split at hf
  · cases hf
    rw [r1.int, r2.int]
    exact ⟨_, _, rfl, rfl, z.bl g⟩
  · cases hf
abbrev leD := cmpD fun i j => decide (i ≤ j)
abbrev gtD := cmpD fun i j => decide (j < i)
abbrev geD := cmpD fun i j => decide (j ≤ i)
/-- < of ints, of tuples of ints -/
def intsOf : List D → Option (List Int)
  | [] => some []
  | .int i :: r => (intsOf r).map (i :: ·)
  | _ :: _ => none
theorem intsOf_views : ∀ {ds : List D} {ns : List Int} {xs : List V}, intsOf ds = some ns → Views mg H S ds xs → xs = ns.map V.int
  | [], ns, xs, h, w => by
    simp only [intsOf, Option.some.injEq] at h
    simp only [Views] at w
    subst h; exact w
  | .int i :: r, ns, xs, h, w => by
    simp only [intsOf, Option.map_eq_some_iff] at h
    obtain ⟨ms, h, rfl⟩ := h
    simp only [Views, View] at w
    obtain ⟨v, r', rfl, rfl, w⟩ := w
    rw [intsOf_views h w]; rfl
  | .non :: _, _, _, h, _ => by simp [intsOf] at h
  | .bl _ :: _, _, _, h, _ => by simp [intsOf] at h
  | .str _ :: _, _, _, h, _ => by simp [intsOf] at h
  | .lst _ :: _, _, _, h, _ => by simp [intsOf] at h
  | .tup _ :: _, _, _, h, _ => by simp [intsOf] at h
  | .dic _ _ :: _, _, _, h, _ => by simp [intsOf] at h
  | .dct _ _ :: _, _, _, h, _ => by simp [intsOf] at h
  | .set _ :: _, _, _, h, _ => by simp [intsOf] at h
  | .ins _ _ _ :: _, _, _, h, _ => by simp [intsOf] at h
  | .scr _ :: _, _, _, h, _ => by simp [intsOf] at h
def ltD : D → D → Option D
  | .int i, .int j => some (.bl (decide (i < j)))
  | .tup xs, .tup ys => (intsOf xs).bind fun ns => (intsOf ys).map fun ms => .bl (HT.lexLt ns ms)
  | _, _ => none
theorem o_lt : Op2 X (fun x y H Q => rI0 (fun i j => .bl (decide (i < j))) x y H Q ∨ rLtT X.K x y H Q) m1 m2 md ltD := by
  intro x y d v1 v2 H0 H S0 S F G1 G2 Q hf g r1 r2 z
  unfold ltD at hf
  split at hf
  · cases hf
    rw [r1.int, r2.int]
    exact .inl ⟨_, _, rfl, rfl, z.bl g⟩
  · simp only [Option.bind_eq_some_iff, Option.map_eq_some_iff] at hf
    obtain ⟨ns, h1, ms, h2, rfl⟩ := hf
    have w1 := r1.view
    have w2 := r2.view
    simp only [View] at w1 w2
    obtain ⟨a, xs, rfl, e1, w1⟩ := w1
    obtain ⟨b, ys, rfl, e2, w2⟩ := w2
    rw [intsOf_views h1 w1] at e1
    rw [intsOf_views h2 w2] at e2
    exact .inr ⟨a, b, ns, ms, rfl, rfl, SqT.of e1, SqT.of e2, z.bl g⟩
  · cases hf
theorem r_lt (hu : X.A.units < cLine) : OpR X (compareOp .Lt) (fun x y H Q => rI0 (fun i j => .bl (decide (i < j))) x y H Q ∨ rLtT X.K x y H Q) := op_lt.or (op_ltT hu)
end
end DL
end

section
set_option Elab.async false
set_option linter.all false
set_option maxRecDepth 100000
set_option maxHeartbeats 4000000
/-! DL4: ==, in, is, subscripts, displays, arguments. -/
namespace DL
open PySem PySem.Spec PyProof.Rows L2

theorem ofString_inj {s t : String} (h : Str.ofString s = Str.ofString t) : s = t := by
  rw [Str.ofString_eq_toList, Str.ofString_eq_toList] at h
  have h1 : (s.toList.map Char.toNat) = (t.toList.map Char.toNat) := by
    have := congrArg (fun x : Str => x.cps.toList) h
    simpa using this
  have inj : ∀ {l m : List Char}, l.map Char.toNat = m.map Char.toNat → l = m := by
    intro l
    induction l with
    | nil => intro m e; cases m with
      | nil => rfl
      | cons _ _ => simp at e
    | cons c l ih =>
      intro m e
      cases m with
      | nil => simp at e
      | cons d m =>
        simp only [List.map_cons, List.cons.injEq] at e
        rw [ih e.2, Char.toNat_inj.mp e.1]
  exact String.toList_inj.mp (inj h1)
theorem key_inj {j k : DKey} (h : j.key = k.key) : j = k := by
  cases j <;> cases k <;> simp [DKey.key] at h
  · rw [h]
  · rw [h]

/-! ### data that == looks at -/
mutual
def toPy : D → PyData
  | .non => .none
  | .bl b => .bool b
  | .int i => .int i
  | .str x => .str x
  | .lst xs => .list (toPys xs)
  | .tup xs => .tuple (toPys xs)
  | _ => .dict []
def toPys : List D → List PyData
  | [] => []
  | d :: ds => toPy d :: toPys ds
end
/-- no dict, instance, set within; at most n deep -/
def okE : Nat → D → Bool
  | _, .non => true
  | _, .bl _ => true
  | _, .int _ => true
  | _, .str x => PyData.strOk x
  | n + 1, .lst xs => okEs n xs
  | n + 1, .tup xs => okEs n xs
  | _, _ => false
where okEs (n : Nat) : List D → Bool
  | [] => true
  | d :: ds => okE n d && okEs n ds
mutual
theorem okE_shaped : ∀ {d : D} {n : Nat}, okE n d = true → (toPy d).canLay0 = true ∧ (toPy d).depth ≤ n
  | .non, _, _ => by simp [toPy, PyData.canLay0, PyData.depth]
  | .bl _, _, _ => by simp [toPy, PyData.canLay0, PyData.depth]
  | .int _, _, _ => by simp [toPy, PyData.canLay0, PyData.depth]
  | .str x, n, h => by
    have h' : PyData.strOk x = true := by cases n <;> simpa [okE] using h
    simp [toPy, PyData.canLay0, PyData.depth, h']
  | .lst xs, 0, h => by simp [okE] at h
  | .tup xs, 0, h => by simp [okE] at h
  | .lst xs, n + 1, h => by
    obtain ⟨h1, h2⟩ := okEs_shaped (ds := xs) (n := n) (by simpa [okE] using h)
    simp only [toPy, PyData.canLay0, PyData.depth]
    exact ⟨h1, by omega⟩
  | .tup xs, n + 1, h => by
    obtain ⟨h1, h2⟩ := okEs_shaped (ds := xs) (n := n) (by simpa [okE] using h)
    simp only [toPy, PyData.canLay0, PyData.depth]
    exact ⟨h1, by omega⟩
  | .dic _ _, n, h => by cases n <;> simp [okE] at h
  | .dct _ _, n, h => by cases n <;> simp [okE] at h
  | .set _, n, h => by cases n <;> simp [okE] at h
  | .ins _ _ _, n, h => by cases n <;> simp [okE] at h
  | .scr _, n, h => by cases n <;> simp [okE] at h
theorem okEs_shaped : ∀ {ds : List D} {n : Nat}, okE.okEs n ds = true → PyData.canLayAll0 (toPys ds) = true ∧ PyData.depthAll (toPys ds) ≤ n
  | [], _, _ => by simp [toPys, PyData.canLayAll0, PyData.depthAll]
  | d :: ds, n, h => by
    simp only [okE.okEs, Bool.and_eq_true] at h
    obtain ⟨a1, a2⟩ := okE_shaped h.1
    obtain ⟨b1, b2⟩ := okEs_shaped h.2
    simp only [toPys, PyData.canLayAll0, PyData.depthAll, a1, b1, Bool.and_self, true_and]
    omega
end
theorem okE_seq {d : D} (h : okE 64 d = true) : SeqAt.shaped (toPy d) = true := by
  obtain ⟨h1, h2⟩ := okE_shaped h
  show ((toPy d).canLay0 && decide ((toPy d).depth ≤ 64)) = true
  rw [h1, decide_eq_true h2]; rfl
section
variable {mg : Mg} {K : PySem.W.Frag} {H : Hp} {S : Addr → Prop}
mutual
theorem View.dp : ∀ {d : D} {n : Nat} {v : V}, View mg H S d v → okE n d = true → Dp K H v (toPy d)
  | .non, _, v, h, _ => by simp only [View] at h; subst h; simp only [toPy]; exact .non
  | .bl b, _, v, h, _ => by simp only [View] at h; subst h; simp only [toPy]; exact .bl b
  | .int b, _, v, h, _ => by simp only [View] at h; subst h; simp only [toPy]; exact .int b
  | .str b, _, v, h, _ => by simp only [View] at h; subst h; simp only [toPy]; exact .str b
  | .lst xs, 0, v, h, o => by simp [okE] at o
  | .tup xs, 0, v, h, o => by simp [okE] at o
  | .lst ds, n + 1, v, h, o => by
    simp only [View] at h
    obtain ⟨a, xs, rfl, _, r, q⟩ := h
    simp only [toPy]
    exact .lst (SqL.of r) (Views.dp q (by simpa [okE] using o))
  | .tup ds, n + 1, v, h, o => by
    simp only [View] at h
    obtain ⟨a, xs, rfl, r, q⟩ := h
    simp only [toPy]
    exact .tup (SqT.of r) (Views.dp q (by simpa [okE] using o))
  | .dic _ _, n, v, _, h => by cases n <;> simp [okE] at h
  | .dct _ _, n, v, _, h => by cases n <;> simp [okE] at h
  | .set _, n, v, _, h => by cases n <;> simp [okE] at h
  | .ins _ _ _, n, v, _, h => by cases n <;> simp [okE] at h
  | .scr _, n, v, _, h => by cases n <;> simp [okE] at h
theorem Views.dp : ∀ {ds : List D} {n : Nat} {vs : List V}, Views mg H S ds vs → okE.okEs n ds = true → DpAll K H vs (toPys ds)
  | [], n, vs, h, _ => by simp only [Views] at h; subst h; simp only [toPys]; exact .nil
  | d :: ds, n, vs, h, o => by
    simp only [Views] at h
    obtain ⟨v, r, rfl, h1, h2⟩ := h
    simp only [okE.okEs, Bool.and_eq_true] at o
    simp only [toPys]
    exact .cons (View.dp h1 o.1) (Views.dp h2 o.2)
end
end
def eqv (x y : D) : Bool := PyData.eqv (toPy x) (toPy y)
/-- an empty dict beside another one -/
def dicNil : D → D → Option Bool
  | .dic ks _, .dic [] [] => some ks.isEmpty
  | _, _ => none
def eqD (x y : D) : Option D := if okE 64 x && okE 64 y then some (.bl (eqv x y)) else none
def neD (x y : D) : Option D := if okE 64 x && okE 64 y then some (.bl (!eqv x y)) else none
section
variable {X : Cx} {T : Ty} {a b c : Expr} {pos : Pos} {m m1 m2 m3 md : Md} {p q r' : Rho → Option D} {mg : Mg} {H H' : Hp} {S S' : Addr → Prop} {ρ : Rho} {σ : St} {F : List Addr} {Q : VK}
theorem o_eq : Op2 X (rEqD X.K) m1 m2 md eqD := by
  intro x y d v1 v2 H0 H S0 S F G1 G2 Q hf g r1 r2 z
  unfold eqD at hf
  split at hf
  · rename_i h
    simp only [Bool.and_eq_true] at h
    cases hf
    exact ⟨_, _, r1.view.dp h.1, r2.view.dp h.2, okE_seq h.1, okE_seq h.2, z.bl g⟩
  · cases hf
theorem o_ne : Op2 X (rNeD X.K) m1 m2 md neD := by
  intro x y d v1 v2 H0 H S0 S F G1 G2 Q hf g r1 r2 z
  unfold neD at hf
  split at hf
  · rename_i h
    simp only [Bool.and_eq_true] at h
    cases hf
    exact ⟨_, _, r1.view.dp h.1, r2.view.dp h.2, okE_seq h.1, okE_seq h.2, z.bl g⟩
  · cases hf

/-! ### is None -/
def D.isN : D → Bool
  | .non => true
  | _ => false
theorem view_isN {d : D} {v : V} (h : View mg H S d v) : decide (v = V.non) = d.isN := by
  cases d with
  | non => simp only [View] at h; subst h; rfl
  | bl _ => simp only [View] at h; subst h; rfl
  | int _ => simp only [View] at h; subst h; rfl
  | str _ => simp only [View] at h; subst h; rfl
  | lst _ => simp only [View] at h; obtain ⟨_, _, rfl, _⟩ := h; rfl
  | tup _ => simp only [View] at h; obtain ⟨_, _, rfl, _⟩ := h; rfl
  | dic _ _ => simp only [View] at h; obtain ⟨_, _, rfl, _⟩ := h; rfl
  | dct _ _ => simp only [View] at h; obtain ⟨_, _, rfl, _⟩ := h; rfl
  | set _ => simp only [View] at h; obtain ⟨_, rfl, _⟩ := h; rfl
  | ins _ _ _ => simp only [View] at h; obtain ⟨_, _, _, _, rfl, _⟩ := h; rfl
  | scr _ => simp only [View] at h; obtain ⟨_, _, rfl, _⟩ := h; rfl
def isNonD (x y : D) : Option D := match y with
  | .non => some (.bl x.isN)
  | _ => none
def notNonD (x y : D) : Option D := match y with
  | .non => some (.bl !x.isN)
  | _ => none
theorem o_isN : Op2 X (fun x y H Q => y = .non ∧ Q (.bl (decide (x = .non))) H) m1 m2 md isNonD := by
  intro x y d v1 v2 H0 H S0 S F G1 G2 Q hf g r1 r2 z
  unfold isNonD at hf
  split at hf
  · cases hf
    exact ⟨r2.non, by rw [view_isN r1.view]; exact z.bl g⟩
  · cases hf
theorem o_notN : Op2 X (fun x y H Q => y = .non ∧ Q (.bl (!decide (x = .non))) H) m1 m2 md notNonD := by
  intro x y d v1 v2 H0 H S0 S F G1 G2 Q hf g r1 r2 z
  unfold notNonD at hf
  split at hf
  · cases hf
    exact ⟨r2.non, by rw [view_isN r1.view]; exact z.bl g⟩
  · cases hf
/-! `is True`, `is not True`, `is False`: of a bool -/
def isBlD (x y : D) : Option D := match x, y with
  | .bl i, .bl j => some (.bl (i == j))
  | _, _ => none

/-! ### dicts by keys -/
def lookK : List DKey → List D → DKey → Option D
  | k :: ks, d :: ds, j => if k = j then some d else lookK ks ds j
  | _, _, _ => none
def lookT : List (List Int) → List D → List Int → Option D
  | k :: ks, d :: ds, j => if k = j then some d else lookT ks ds j
  | _, _, _ => none
theorem look_valV {k : DKey} : ∀ {ks : List DKey} {ds : List D} {xs : List V}, Views mg H S ds xs → ks.length = xs.length →
    match lookK ks ds k with
    | some d => ∃ v, valV ((ks.map DKey.key).zip xs) k.key = some v ∧ View mg H S d v
    | none => valV ((ks.map DKey.key).zip xs) k.key = none
  | [], ds, xs, h, l => by
    cases xs with
    | nil => simp [lookK, valV]
    | cons _ _ => simp at l
  | j :: ks, [], xs, h, l => by
    simp only [Views] at h; subst h; simp at l
  | j :: ks, d :: ds, xs, h, l => by
    simp only [Views] at h
    obtain ⟨v, r, rfl, h1, h2⟩ := h
    have ih := look_valV (k := k) (ks := ks) h2 (by simpa using l)
    simp only [lookK]
    by_cases e : j = k
    · subst e
      simp only [if_true]
      exact ⟨v, by simp [valV], h1⟩
    · have e' : ¬ j.key = k.key := fun z => e (key_inj z)
      simp only [if_neg e]
      have : valV (((j :: ks).map DKey.key).zip (v :: r)) k.key = valV ((ks.map DKey.key).zip r) k.key := by simp [valV, e']
      rw [this]
      exact ih
theorem map_inl_inj : ∀ {a b : List Int}, a.map (Sum.inl : Int → Key) = b.map Sum.inl → a = b
  | [], [], _ => rfl
  | [], _ :: _, h => by simp at h
  | _ :: _, [], h => by simp at h
  | x :: a, y :: b, h => by
    simp only [List.map_cons, List.cons.injEq, Sum.inl.injEq] at h
    rw [h.1, map_inl_inj h.2]
theorem look_valT {k : List Int} : ∀ {ks : List (List Int)} {ds : List D} {xs : List V}, Views mg H S ds xs → ks.length = xs.length →
    match lookT ks ds k with
    | some d => ∃ v, valV ((ks.map (List.map (Sum.inl : Int → Key))).zip xs) (k.map Sum.inl) = some v ∧ View mg H S d v
    | none => valV ((ks.map (List.map (Sum.inl : Int → Key))).zip xs) (k.map Sum.inl) = none
  | [], ds, xs, h, l => by
    cases xs with
    | nil => simp [lookT, valV]
    | cons _ _ => simp at l
  | j :: ks, [], xs, h, l => by
    simp only [Views] at h; subst h; simp at l
  | j :: ks, d :: ds, xs, h, l => by
    simp only [Views] at h
    obtain ⟨v, r, rfl, h1, h2⟩ := h
    have ih := look_valT (k := k) (ks := ks) h2 (by simpa using l)
    simp only [lookT]
    by_cases e : j = k
    · subst e
      simp only [if_true]
      exact ⟨v, by simp [valV], h1⟩
    · have e' : ¬ j.map (Sum.inl : Int → Key) = k.map Sum.inl := fun z => e (map_inl_inj z)
      simp only [if_neg e]
      have : valV (((j :: ks).map (List.map (Sum.inl : Int → Key))).zip (v :: r)) (k.map Sum.inl) = valV ((ks.map (List.map (Sum.inl : Int → Key))).zip r) (k.map Sum.inl) := by simp [valV, e']
      rw [this]
      exact ih
/-- a key's value -/
inductive KK where
  | k (k : DKey) | t (ns : List Int)
def D.toKey : D → Option DKey
  | .int i => some (.i i)
  | .str x => some (.s x)
  | _ => none
def D.toTK : D → Option (List Int)
  | .tup ds => intsOf ds
  | _ => none
/-- what a dict has at a key: none: no dict, no key of it -/
def getK (dd key : D) : Option (Option D) := match dd with
  | .dic ks ds => key.toKey.map (lookK ks ds)
  | .dct ks ds => key.toTK.map (lookT ks ds)
  | _ => none
def KeyAt (mg : Mg) (H : Hp) (S : Addr → Prop) (a : Addr) (w : V) : Option D → Prop
  | some d => ∃ x, DGet H a w (some x) ∧ View mg H S d x
  | none => DGet H a w none
theorem getK_ok {dd key : D} {o : Option D} {v w : V} {S2 : Addr → Prop} (h : getK dd key = some o) (h1 : View mg H S dd v) (h2 : View mg H S2 key w) :
    ∃ a, v = .ref a ∧ KeyAt mg H S a w o := by
  unfold getK at h
  split at h
  · rename_i ks ds
    simp only [Option.map_eq_some_iff] at h
    obtain ⟨k, hk, rfl⟩ := h
    simp only [View] at h1
    obtain ⟨a, xs, rfl, _, r, l, n, q⟩ := h1
    have ew : w = kV k.key := by
      cases key <;> simp [D.toKey] at hk
      all_goals
        subst hk
        simp only [View] at h2
        exact h2
    have L := look_valV (k := k) q l
    refine ⟨a, rfl, ?_⟩
    cases e : lookK ks ds k with
    | none => rw [e] at L; exact .inl ⟨_, _, .inl r, ew, L.symm⟩
    | some d => rw [e] at L; obtain ⟨x, L, u⟩ := L; exact ⟨x, .inl ⟨_, _, .inl r, ew, L.symm⟩, u⟩
  · rename_i ks ds
    simp only [Option.map_eq_some_iff] at h
    obtain ⟨k, hk, rfl⟩ := h
    simp only [View] at h1
    obtain ⟨a, xs, rfl, _, r, l, n, q⟩ := h1
    obtain ⟨b, rfl, eb⟩ : ∃ b, w = .ref b ∧ H b = some (.tup ((k.map (Sum.inl : Int → Key)).map kV)) := by
      cases key <;> simp [D.toTK] at hk
      rename_i es
      simp only [View] at h2
      obtain ⟨b, ys, rfl, e, q⟩ := h2
      refine ⟨b, rfl, ?_⟩
      rw [e, intsOf_views hk q, List.map_map]
      rfl
    have L := look_valT (k := k) q l
    refine ⟨a, rfl, ?_⟩
    cases e : lookT ks ds k with
    | none => rw [e] at L; exact .inr ⟨_, _, b, .inl r, rfl, eb, L.symm⟩
    | some d => rw [e] at L; obtain ⟨x, L, u⟩ := L; exact ⟨x, .inr ⟨_, _, b, .inl r, rfl, eb, L.symm⟩, u⟩
  · cases h

/-! ### in, not in: lists and tuples of data, dicts' keys -/
def memb (x y : D) : Option Bool := match y with
  | .lst ds => if okE 64 x && okE 64 (.lst ds) then some (ds.any fun z => eqv z x) else none
  | .tup ds => if okE 64 x && okE 64 (.tup ds) then some (ds.any fun z => eqv z x) else none
  | _ => (getK y x).map Option.isSome
def inD (x y : D) : Option D := (memb x y).map D.bl
def notInD (x y : D) : Option D := (memb x y).map fun b => D.bl !b
def rInT (K : PySem.W.Frag) : R2 := fun x y H Q => ∃ d ds, Dp K H x d ∧ Dp K H y (.tuple ds) ∧ SeqAt.shaped d = true ∧ SeqAt.shaped (.tuple ds) = true ∧ Q (.bl (ds.any fun z => PyData.eqv z d)) H
def rNotInT (K : PySem.W.Frag) : R2 := fun x y H Q => ∃ d ds, Dp K H x d ∧ Dp K H y (.tuple ds) ∧ SeqAt.shaped d = true ∧ SeqAt.shaped (.tuple ds) = true ∧ Q (.bl (!ds.any fun z => PyData.eqv z d)) H
theorem op_inT (hu : X.A.units + 65 < cLine) : OpR X (compareOp .In) (rInT X.K) := by
  intro pins s σ H x y v u Q I rx ry h
  obtain ⟨d, ds, hd, he, sd, se, q⟩ := h
  obtain ⟨as, r1⟩ := Dp.reads I d x v hd rx
  obtain ⟨bs, r2⟩ := Dp.reads I (.tuple ds) y u he ry
  exact SeqAt.in_tuple_reads r2 r1 (SeqAt.canLay_of_shaped (d := .tuple ds) se) (SeqAt.canLay_of_shaped sd) (room_in_shaped sd hu) ⟨.bl _, H, I, rfl, q⟩
theorem op_notInT (hu : X.A.units + 65 < cLine) : OpR X (compareOp .NotIn) (rNotInT X.K) := by
  intro pins s σ H x y v u Q I rx ry h
  obtain ⟨d, ds, hd, he, sd, se, q⟩ := h
  obtain ⟨as, r1⟩ := Dp.reads I d x v hd rx
  obtain ⟨bs, r2⟩ := Dp.reads I (.tuple ds) y u he ry
  exact SeqAt.notIn_tuple_reads r2 r1 (SeqAt.canLay_of_shaped (d := .tuple ds) se) (SeqAt.canLay_of_shaped sd) (room_in_shaped sd hu) ⟨.bl _, H, I, rfl, q⟩
def rInK : R2 := fun y x H Q => ∃ a o, x = .ref a ∧ DGet H a y o ∧ Q (.bl o.isSome) H
def rNotInK : R2 := fun y x H Q => ∃ a o, x = .ref a ∧ DGet H a y o ∧ Q (.bl (!o.isSome)) H
theorem op_inK (hu : X.A.units + 1 < cLine) : OpR X (compareOp .In) rInK := by
  intro pins s σ H y x iv u Q I ry rx h
  obtain ⟨a, o, rfl, g, q⟩ := h
  cases rx
  exact d_in hu I g ry fun s3 I3 => ⟨.bl o.isSome, H, I3, rfl, q⟩
theorem op_notInK (hu : X.A.units + 1 < cLine) : OpR X (compareOp .NotIn) rNotInK := by
  intro pins s σ H y x iv u Q I ry rx h
  obtain ⟨a, o, rfl, g, q⟩ := h
  cases rx
  exact d_notIn hu I g ry fun s3 I3 => ⟨.bl (!o.isSome), H, I3, rfl, q⟩
abbrev rIn3 (X : Cx) : R2 := fun x y H Q => (rInD X.K x y H Q ∨ rInT X.K x y H Q) ∨ rInK x y H Q
abbrev rNotIn3 (X : Cx) : R2 := fun x y H Q => (rNotInD X.K x y H Q ∨ rNotInT X.K x y H Q) ∨ rNotInK x y H Q
theorem r_in (hu : X.A.units + 65 < cLine) : OpR X (compareOp .In) (rIn3 X) := ((op_inD hu).or (op_inT hu)).or (op_inK (by omega))
theorem r_notIn (hu : X.A.units + 65 < cLine) : OpR X (compareOp .NotIn) (rNotIn3 X) := ((op_notInD hu).or (op_notInT hu)).or (op_notInK (by omega))
theorem any_toPy {x : D} : ∀ ds : List D, (toPys ds).any (fun z => PyData.eqv z (toPy x)) = ds.any fun z => eqv z x
  | [] => by simp [toPys]
  | d :: ds => by simp [toPys, eqv, any_toPy ds]
theorem o_in : Op2 X (rIn3 X) m1 m2 md inD := by
  intro x y d v1 v2 H0 H S0 S F G1 G2 Q hf g r1 r2 z
  simp only [inD, Option.map_eq_some_iff] at hf
  obtain ⟨b, hf, rfl⟩ := hf
  unfold memb at hf
  split at hf
  · split at hf
    · rename_i h
      simp only [Bool.and_eq_true] at h
      cases hf
      have w2 := r2.view.dp (K := X.K) h.2
      have s2 := okE_seq h.2
      simp only [toPy] at w2 s2
      refine .inl (.inl ⟨_, _, r1.view.dp h.1, w2, okE_seq h.1, s2, ?_⟩)
      rw [any_toPy]; exact z.bl g
    · cases hf
  · split at hf
    · rename_i h
      simp only [Bool.and_eq_true] at h
      cases hf
      have w2 := r2.view.dp (K := X.K) h.2
      have s2 := okE_seq h.2
      simp only [toPy] at w2 s2
      refine .inl (.inr ⟨_, _, r1.view.dp h.1, w2, okE_seq h.1, s2, ?_⟩)
      rw [any_toPy]; exact z.bl g
    · cases hf
  · simp only [Option.map_eq_some_iff] at hf
    obtain ⟨o, hf, rfl⟩ := hf
    obtain ⟨a, rfl, hg⟩ := getK_ok hf r2.view r1.view
    cases o with
    | none => exact .inr ⟨a, none, rfl, hg, z.bl g⟩
    | some d => obtain ⟨x, hg, _⟩ := hg; exact .inr ⟨a, some x, rfl, hg, z.bl g⟩
theorem o_notIn : Op2 X (rNotIn3 X) m1 m2 md notInD := by
  intro x y d v1 v2 H0 H S0 S F G1 G2 Q hf g r1 r2 z
  simp only [notInD, Option.map_eq_some_iff] at hf
  obtain ⟨b, hf, rfl⟩ := hf
  unfold memb at hf
  split at hf
  · split at hf
    · rename_i h
      simp only [Bool.and_eq_true] at h
      cases hf
      have w2 := r2.view.dp (K := X.K) h.2
      have s2 := okE_seq h.2
      simp only [toPy] at w2 s2
      refine .inl (.inl ⟨_, _, r1.view.dp h.1, w2, okE_seq h.1, s2, ?_⟩)
      rw [any_toPy]; exact z.bl g
    · cases hf
  · split at hf
    · rename_i h
      simp only [Bool.and_eq_true] at h
      cases hf
      have w2 := r2.view.dp (K := X.K) h.2
      have s2 := okE_seq h.2
      simp only [toPy] at w2 s2
      refine .inl (.inr ⟨_, _, r1.view.dp h.1, w2, okE_seq h.1, s2, ?_⟩)
      rw [any_toPy]; exact z.bl g
    · cases hf
  · simp only [Option.map_eq_some_iff] at hf
    obtain ⟨o, hf, rfl⟩ := hf
    obtain ⟨a, rfl, hg⟩ := getK_ok hf r2.view r1.view
    cases o with
    | none => exact .inr ⟨a, none, rfl, hg, z.bl g⟩
    | some d => obtain ⟨x, hg, _⟩ := hg; exact .inr ⟨a, some x, rfl, hg, z.bl g⟩
end
end DL
end

section
set_option Elab.async false
set_option linter.all false
set_option maxRecDepth 100000
set_option maxHeartbeats 4000000
/-! DL5: subscripts, slices, fields, displays, built-ins. -/
namespace DL
open PySem PySem.Spec PyProof.Rows L2

theorem ix_dict {X : Cx} (hu : X.A.units + 1 < cLine) : IxR X (fun x y H Q => ∃ a v, x = .ref a ∧ DGet H a y (some v) ∧ Q v H) := by
  intro value slice pins s σ H x y v u Q I rx ry h hs
  obtain ⟨a, z, rfl, g, q⟩ := h
  cases rx
  have hT := dict_typeIs I g
  unfold subscriptTail
  refine wpAny_bind ?_
  rw [getitemInPython_of_ne hT.not_modules]
  refine wpAny_bind (wpAny_specialOf hT PySem.F.slot_dict_getitem.lookup ?_)
  have fin : wpAny (model X.prog X.w) X.A (subscripted slice false (.ref a) u) (fun r s₃ => wpAny (model X.prog X.w) X.A (letTemporaryGo value (.ref a) r >>= fun _ => pure r) (EP X pins σ Q) X.xe s₃) X.xe s := by
    rw [hs]
    exact wpAny_operating (wpAny_mono (d_getItem hu I g ry fun w' s3 I3 rw' => (⟨z, H, I3, rw', q⟩ : EP X pins σ Q w' s3)) (fun r s₃ h₃ => wpAny_bind (wpAny_letTemporaryGo (wpAny_pure h₃))) fun _ _ x => x)
  first
    | exact wpAny_pure (wpAny_bind fin)
    | exact wpAny_bind (wpAny_pure (wpAny_bind fin))
    | exact wpAny_bind fin

section
variable {mg : Mg} {H0 H H' : Hp} {S0 S S' : Addr → Prop} {F G : List Addr} {m md : Md} {v : V} {Q : VK}
/-- the first place of x -/
def posG {α : Type} [DecidableEq α] : List α → α → Option Nat
  | [], _ => none
  | k :: ks, j => if k = j then some 0 else (posG ks j).map (· + 1)
theorem lookK_ix {k : DKey} {d : D} : ∀ {ks : List DKey} {ds : List D}, lookK ks ds k = some d → ∃ i : Nat, posG ks k = some i ∧ ds[i]? = some d ∧ ∀ xs : List V, xs.length = ks.length → valV ((ks.map DKey.key).zip xs) k.key = xs[i]?
  | [], _, h => by simp [lookK] at h
  | _ :: _, [], h => by simp [lookK] at h
  | j :: ks, e :: ds, h => by
    simp only [lookK] at h
    split at h
    · rename_i ej
      cases h
      refine ⟨0, by simp [posG, ej], rfl, fun xs l => ?_⟩
      subst ej
      cases xs with
      | nil => simp at l
      | cons x xs => simp [valV]
    · rename_i ej
      obtain ⟨i, h0, h1, h2⟩ := lookK_ix h
      refine ⟨i + 1, by simp [posG, ej, h0], by simpa using h1, fun xs l => ?_⟩
      cases xs with
      | nil => simp at l
      | cons x xs =>
        have e' : ¬ j.key = k.key := fun z => ej (key_inj z)
        have := h2 xs (by simpa using l)
        simp only [List.getElem?_cons_succ]
        rw [← this]
        simp [valV, e']
def lookF : List String → List D → String → Option D
  | k :: ks, d :: ds, j => if k = j then some d else lookF ks ds j
  | _, _, _ => none
theorem lookF_ix {k : String} {d : D} : ∀ {ks : List String} {ds : List D}, lookF ks ds k = some d → ∃ i : Nat, posG ks k = some i ∧ ds[i]? = some d ∧ ∀ xs : List V, xs.length = ks.length → ((ks.map Str.ofString).zip xs).lookup (Str.ofString k) = xs[i]?
  | [], _, h => by simp [lookF] at h
  | _ :: _, [], h => by simp [lookF] at h
  | j :: ks, e :: ds, h => by
    simp only [lookF] at h
    split at h
    · rename_i ej
      cases h
      refine ⟨0, by simp [posG, ej], rfl, fun xs l => ?_⟩
      subst ej
      cases xs with
      | nil => simp at l
      | cons x xs => simp
    · rename_i ej
      obtain ⟨i, h0, h1, h2⟩ := lookF_ix h
      refine ⟨i + 1, by simp [posG, ej, h0], by simpa using h1, fun xs l => ?_⟩
      cases xs with
      | nil => simp at l
      | cons x xs =>
        have e' : (Str.ofString k == Str.ofString j) = false := beq_eq_false_iff_ne.mpr fun z => ej (ofString_inj z).symm
        have := h2 xs (by simpa using l)
        simp only [List.getElem?_cons_succ]
        rw [← this]
        simp only [List.map_cons, List.zip_cons_cons, List.lookup_cons, e']
/-- the n-th part of a list, tuple; a dict's at a key; an instance's field -/
def partAt : D → List D
  | .lst ds => ds
  | .tup ds => ds
  | .dic _ ds => ds
  | .dct _ ds => ds
  | .ins _ _ ds => ds
  | _ => []
end

/-! ### o[i] -/
def ixD (x y : D) : Option D := match x, y with
  | .lst ds, .int i => atI ds i
  | .tup ds, .int i => atI ds i
  | .dic ks ds, k => k.toKey.bind (lookK ks ds)
  | .dct ks ds, .tup es => (intsOf es).bind (lookT ks ds)
  | _, _ => none
abbrev rIx3 (X : Cx) : R2 := fun x y H Q => (rIxL X.K x y H Q ∨ rIxT X.K x y H Q) ∨ ∃ a v, x = .ref a ∧ DGet H a y (some v) ∧ Q v H
theorem r_ix {X : Cx} (hu : X.A.units + 1 < cLine) : IxR X (rIx3 X) := (ix_list.or ix_tup).or (ix_dict hu)
section
variable {mg : Mg} {H0 H H' : Hp} {S0 S S' : Addr → Prop} {F G : List Addr} {m md : Md} {v : V} {Q : VK}
theorem atI_some {α : Type} {xs : List α} {i : Int} {x : α} (h : atI xs i = some x) : ∃ j : Nat, ixN xs.length i = some j ∧ xs[j]? = some x ∧ ∀ {β : Type} (ys : List β), ys.length = xs.length → atI ys i = ys[j]? := by
  unfold atI at h
  simp only [Option.bind_eq_some_iff] at h
  obtain ⟨j, h1, h2⟩ := h
  refine ⟨j, h1, h2, fun ys l => ?_⟩
  unfold atI
  rw [l, h1]; rfl
theorem lookT_ix {k : List Int} {d : D} : ∀ {ks : List (List Int)} {ds : List D}, lookT ks ds k = some d → ∃ i : Nat, posG ks k = some i ∧ ds[i]? = some d ∧ ∀ xs : List V, xs.length = ks.length → valV ((ks.map (List.map (Sum.inl : Int → Key))).zip xs) (k.map Sum.inl) = xs[i]?
  | [], _, h => by simp [lookT] at h
  | _ :: _, [], h => by simp [lookT] at h
  | j :: ks, e :: ds, h => by
    simp only [lookT] at h
    split at h
    · rename_i ej
      cases h
      refine ⟨0, by simp [posG, ej], rfl, fun xs l => ?_⟩
      subst ej
      cases xs with
      | nil => simp at l
      | cons x xs => simp [valV]
    · rename_i ej
      obtain ⟨i, h0, h1, h2⟩ := lookT_ix h
      refine ⟨i + 1, by simp [posG, ej, h0], by simpa using h1, fun xs l => ?_⟩
      cases xs with
      | nil => simp at l
      | cons x xs =>
        have e' : ¬ j.map (Sum.inl : Int → Key) = k.map Sum.inl := fun z => ej (map_inl_inj z)
        have := h2 xs (by simpa using l)
        simp only [List.getElem?_cons_succ]
        rw [← this]
        simp [valV, e']
def partsV : HO → Option (List V)
  | .lst xs => some xs
  | .tup xs => some xs
  | .dK kvs => some (kvs.map (·.2))
  | .dT kvs => some (kvs.map (·.2))
  | .ins _ _ fs => some (fs.map (·.2))
  | _ => none
/-- where x[y] lies -/
def ixP (x y : D) : Option Nat := match x, y with
  | .lst ds, .int i => ixN ds.length i
  | .tup ds, .int i => ixN ds.length i
  | .dic ks _, k => k.toKey.bind (posG ks)
  | .dct ks _, .tup es => (intsOf es).bind (posG ks)
  | _, _ => none
/-- what [] comes to, whatever the values' mode: W shows the container's items by the values xs at a -/
theorem ix_core {X : Cx} {x y d : D} {v1 v2 : V} {S2 : Addr → Prop} (hf : ixD x y = some d) (h1 : View mg H S x v1) (h2 : View mg H S2 y v2) :
    ∃ (xs : List V) (j : Nat) (w : V), ixP x y = some j ∧ (partAt x)[j]? = some d ∧ xs[j]? = some w ∧ (∀ k G, Rep mg H S' x (k + 1) v1 G → ∃ G', Reps mg H S' (partAt x) k xs G' ∧ ∀ a ∈ G', a ∈ G) ∧ Views mg H S (partAt x) xs ∧ (∃ a o, v1 = .ref a ∧ H a = some o ∧ partsV o = some xs) ∧ ∀ Q : VK, Q w H → rIx3 X v1 v2 H Q := by
  unfold ixD at hf
  split at hf
  · rename_i ds i
    obtain ⟨j, hp, hj, hat⟩ := atI_some hf
    simp only [View] at h1 h2
    obtain ⟨a, xs, rfl, _, r, q⟩ := h1
    obtain ⟨w, hw, _⟩ := q.get hj
    refine ⟨xs, j, w, hp, hj, hw, fun k G h => ?_, q, ⟨a, _, rfl, r, rfl⟩, fun Q hq => .inl (.inl ⟨a, xs, i, w, rfl, h2, SqL.of r, by rw [hat xs q.length]; exact hw, hq⟩)⟩
    simp only [Rep] at h
    obtain ⟨b, ys, G', e, r', rfl, q'⟩ := h
    cases e
    rw [r] at r'; cases r'
    exact ⟨G', q', fun a h => List.mem_cons_of_mem _ h⟩
  · rename_i ds i
    obtain ⟨j, hp, hj, hat⟩ := atI_some hf
    simp only [View] at h1 h2
    obtain ⟨a, xs, rfl, r, q⟩ := h1
    obtain ⟨w, hw, _⟩ := q.get hj
    refine ⟨xs, j, w, hp, hj, hw, fun k G h => ?_, q, ⟨a, _, rfl, r, rfl⟩, fun Q hq => .inl (.inr ⟨a, xs, i, w, rfl, h2, SqT.of r, by rw [hat xs q.length]; exact hw, hq⟩)⟩
    simp only [Rep] at h
    obtain ⟨b, ys, e, r', q'⟩ := h
    cases e
    rw [r] at r'; cases r'
    exact ⟨G, q', fun a h => h⟩
  · rename_i ks ds
    simp only [Option.bind_eq_some_iff] at hf
    obtain ⟨ky, hky, hf⟩ := hf
    obtain ⟨j, hp, hj, hat⟩ := lookK_ix hf
    have h2 : v2 = kV ky.key := by
      cases y <;> simp [D.toKey] at hky
      all_goals
        subst hky
        simp only [View] at h2
        exact h2
    simp only [View] at h1
    obtain ⟨a, xs, rfl, _, r, l, n, q⟩ := h1
    obtain ⟨w, hw, _⟩ := q.get hj
    refine ⟨xs, j, w, by simp [ixP, hky, hp], hj, hw, fun k G h => ?_, q, ⟨a, _, rfl, r, by simp only [partsV]; rw [List.map_snd_zip (by simp [l])]⟩, fun Q hq => .inr ⟨a, w, rfl, .inl ⟨_, ky.key, .inl r, h2, ?_⟩, hq⟩⟩
    · simp only [Rep] at h
      obtain ⟨b, ys, G', e, r', l', _, rfl, q'⟩ := h
      cases e
      rw [r] at r'
      have e2 : (ks.map DKey.key).zip xs = (ks.map DKey.key).zip ys := by injection (Option.some.inj r')
      have e3 : xs = ys := by
        have := congrArg (List.map Prod.snd) e2
        rwa [List.map_snd_zip (by simp [l]), List.map_snd_zip (by simp [l'])] at this
      subst e3
      exact ⟨G', q', fun a h => List.mem_cons_of_mem _ h⟩
    · rw [← hw]; exact (hat xs l.symm).symm
  · rename_i ks ds es
    simp only [Option.bind_eq_some_iff] at hf
    obtain ⟨ns, he, hf⟩ := hf
    obtain ⟨j, hp, hj, hat⟩ := lookT_ix hf
    simp only [View] at h1 h2
    obtain ⟨a, xs, rfl, _, r, l, n, q⟩ := h1
    obtain ⟨b, zs, rfl, eb, qb⟩ := h2
    obtain ⟨w, hw, _⟩ := q.get hj
    refine ⟨xs, j, w, by simp [ixP, he, hp], hj, hw, fun k G h => ?_, q, ⟨a, _, rfl, r, by simp only [partsV]; rw [List.map_snd_zip (by simp [l])]⟩, fun Q hq => .inr ⟨a, w, rfl, .inr ⟨_, ns.map Sum.inl, b, .inl r, rfl, ?_, ?_⟩, hq⟩⟩
    · simp only [Rep] at h
      obtain ⟨b, ys, G', e, r', l', _, rfl, q'⟩ := h
      cases e
      rw [r] at r'
      have e2 : (ks.map (List.map (Sum.inl : Int → Key))).zip xs = (ks.map (List.map (Sum.inl : Int → Key))).zip ys := by injection (Option.some.inj r')
      have e3 : xs = ys := by
        have := congrArg (List.map Prod.snd) e2
        rwa [List.map_snd_zip (by simp [l]), List.map_snd_zip (by simp [l'])] at this
      subst e3
      exact ⟨G', q', fun a h => List.mem_cons_of_mem _ h⟩
    · rw [eb, intsOf_views he qb, List.map_map]; rfl
    · rw [← hw]; exact (hat xs l.symm).symm
  · cases hf
theorem Reps.get : ∀ {ds : List D} {k : Nat} {vs : List V} {G : List Addr} {i : Nat} {d : D} {v : V}, Reps mg H S ds k vs G → ds[i]? = some d → vs[i]? = some v → ∃ B, Rep mg H S d k v B ∧ ∀ a ∈ B, a ∈ G := fun h e e' => by
  obtain ⟨v, A, B, C, ev, rfl, q, _⟩ := h.focus e
  rw [e'] at ev; cases ev
  exact ⟨B, q, fun a h => by simp [h]⟩
end
section
variable {X : Cx} {T : Ty} {a b c : Expr} {pos : Pos} {m m1 m2 m3 md : Md} {p q r' : Rho → Option D} {mg : Mg} {H H' : Hp} {S S' : Addr → Prop} {ρ : Rho} {σ : St} {F : List Addr} {Q : VK}
/-- what is shared, or a value of its own that is given up -/
theorem o_ix0 (h1 : m1.le (.ow 0) = true) : Op2 X (rIx3 X) m1 m2 (.ow 0) ixD := by
  intro x y d v1 v2 H0 H S0 S F G1 G2 Q hf g r1 r2 z
  obtain ⟨S1, G', g1, _, r1'⟩ := r1.le h1 g
  have w : View X.mg H S1 x v1 := by have := r1'.1; simp only [Rep] at this; exact this.1
  obtain ⟨xs, j, u, _, hj, hu, _, q, _, fin⟩ := ix_core (X := X) (S' := S) hf w r2.view
  obtain ⟨u', hu', hv⟩ := q.get hj
  rw [hu] at hu'; cases hu'
  exact fin Q (z.at g1 hv)
/-- a part of a slot -/
theorem o_ixb {k : Nat} : Op2 X (rIx3 X) (.br (k + 1)) m2 (.br k) ixD := by
  intro x y d v1 v2 H0 H S0 S F G1 G2 Q hf g r1 r2 z
  obtain ⟨xs, j, u, _, hj, hu, rr, q, _, fin⟩ := ix_core (X := X) (S' := S) hf r1.view r2.view
  obtain ⟨G', hr, hs⟩ := rr k G1 r1.1
  obtain ⟨B, hb, hB⟩ := hr.get hj hu
  exact fin Q (z u H S B g ⟨hb, fun a h => r1.2 a (hs a (hB a h))⟩)
theorem o_ixv : Op2 X (rIx3 X) m1 m2 .vw ixD := by
  intro x y d v1 v2 H0 H S0 S F G1 G2 Q hf g r1 r2 z
  obtain ⟨xs, j, u, _, hj, hu, _, q, _, fin⟩ := ix_core (X := X) (S' := S) hf r1.view r2.view
  obtain ⟨u', hu', hv⟩ := q.get hj
  rw [hu] at hu'; cases hu'
  exact fin Q (z u H S [] g ⟨hv, rfl⟩)

/-! ### o.f of an instance -/
def fldD (f : String) : D → Option D
  | .ins _ fs ds => lookF fs ds f
  | _ => none
/-- what the classes say of a field's name -/
def FldOk (X : Cx) (c f : String) : Prop := ∀ C, X.mg (Str.ofString c) = some (.ref C) → Cls X.K C ∧ NoAttr X.K C (Str.ofString f)
def fldOf (c f : String) : D → Option D
  | .ins c' fs ds => if c' = c then lookF fs ds f else none
  | _ => none
def fldP (c f : String) : D → Option Nat
  | .ins c' fs _ => if c' = c then posG fs f else none
  | _ => none
theorem fld_core {x d : D} {v1 : V} {c f : String} (hf : fldOf c f x = some d) (h1 : View mg H S x v1) :
    ∃ (xs : List V) (j : Nat) (w : V) (a C dx : Addr) (fs : List (Str × V)), fldP c f x = some j ∧ (partAt x)[j]? = some d ∧ xs[j]? = some w ∧ (∀ k G, Rep mg H S' x (k + 1) v1 G → ∃ G', Reps mg H S' (partAt x) k xs G' ∧ ∀ a ∈ G', a ∈ G) ∧ Views mg H S (partAt x) xs ∧
      v1 = .ref a ∧ mg (Str.ofString c) = some (.ref C) ∧ H a = some (.ins C dx fs) ∧ fs.lookup (Str.ofString f) = some w ∧ partsV (.ins C dx fs) = some xs := by
  unfold fldOf at hf
  split at hf
  · rename_i c' fs ds
    split at hf
    · rename_i ec
      subst ec
      obtain ⟨j, hp, hj, hat⟩ := lookF_ix hf
      simp only [View] at h1
      obtain ⟨a, C, dx, xs, rfl, _, _, hm, r, r2, l, q⟩ := h1
      obtain ⟨w, hw, _⟩ := q.get hj
      refine ⟨xs, j, w, a, C, dx, _, by simp [fldP, hp], hj, hw, fun k G h => ?_, q, rfl, hm, r, by rw [hat xs l.symm]; exact hw, by simp only [partsV]; rw [List.map_snd_zip (by simp [l])]⟩
      simp only [Rep] at h
      obtain ⟨b, C', dx', ys, G', e, hm', r', _, l', rfl, q'⟩ := h
      cases e
      rw [r] at r'
      have e2 : (fs.map Str.ofString).zip xs = (fs.map Str.ofString).zip ys := by injection (Option.some.inj r')
      have e3 : xs = ys := by
        have := congrArg (List.map Prod.snd) e2
        rwa [List.map_snd_zip (by simp [l]), List.map_snd_zip (by simp [l'])] at this
      subst e3
      exact ⟨G', q', fun a h => List.mem_cons_of_mem _ (List.mem_cons_of_mem _ h)⟩
    · cases hf
  · cases hf
def eFld (c f : String) (p : Rho → Option D) : Rho → Option D := e1 (fldOf c f) p
theorem d_fldb {k : Nat} {c f : String} {o : Expr} (ok : FldOk X c f) (h : PD X T o (.br (k + 1)) p) (hb : attributeBase o (Str.ofString f) X.env (eval o X.env) = eval o X.env := by rfl) : PD X T (.Attribute o (Str.ofString f) pos) (.br k) (eFld c f p) := by
  refine PE.imp (pe_fld h hb) fun σ H Q ⟨ρ, S, F, E, d, hp, z⟩ => ?_
  simp only [eFld, e1, Option.bind_eq_some_iff] at hp
  obtain ⟨x, hx, hf⟩ := hp
  refine ⟨ρ, S, F, E, x, hx, fun v1 H1 S1 G1 g1 r1 => ?_⟩
  obtain ⟨xs, j, w, a, C, dx, fs, _, hj, hw, rr, q, rfl, hm, r, hl, _⟩ := fld_core (S' := S1) hf r1.view
  obtain ⟨c1, c2⟩ := ok C hm
  obtain ⟨G', hr, hs⟩ := rr k G1 r1.1
  obtain ⟨B, hb, hB⟩ := hr.get hj hw
  exact ⟨a, C, dx, fs, w, rfl, r, c1, c2, hl, z w H1 S1 B g1 ⟨hb, fun a h => r1.2 a (hs a (hB a h))⟩⟩
theorem d_fld0 {c f : String} {o : Expr} (ok : FldOk X c f) (h : PD X T o m p) (hb : attributeBase o (Str.ofString f) X.env (eval o X.env) = eval o X.env := by rfl) (hl : m.le (.ow 0) = true := by rfl) : PD X T (.Attribute o (Str.ofString f) pos) (.ow 0) (eFld c f p) := by
  refine PE.imp (pe_fld (PD.le h hl) hb) fun σ H Q ⟨ρ, S, F, E, d, hp, z⟩ => ?_
  simp only [eFld, e1, Option.bind_eq_some_iff] at hp
  obtain ⟨x, hx, hf⟩ := hp
  refine ⟨ρ, S, F, E, x, hx, fun v1 H1 S1 G1 g1 r1 => ?_⟩
  have w : View X.mg H1 S1 x v1 := by have := r1.1; simp only [Rep] at this; exact this.1
  obtain ⟨xs, j, u, a, C, dx, fs, _, hj, hw, rr, q, rfl, hm, r, hl, _⟩ := fld_core (S' := S1) hf w
  obtain ⟨c1, c2⟩ := ok C hm
  obtain ⟨u', hu', hv⟩ := q.get hj
  rw [hw] at hu'; cases hu'
  exact ⟨a, C, dx, fs, u, rfl, r, c1, c2, hl, z.at g1 hv⟩

/-! ### arguments, displays -/
def tPk (mg : Mg) (T : Ty) (k : Nat) (ps : Rho → Option (List D)) : TA := fun σ H Q => ∃ ρ S F, EnvOk mg T ρ σ H S F ∧ ∃ ds, ps ρ = some ds ∧ ∀ vs H' S' G, Grow H S H' S' → Reps mg H' S' ds k vs G → G.Nodup → (∀ a ∈ G, H a = none ∧ ¬ S' a) → Q vs H'
def tPv (mg : Mg) (T : Ty) (ps : Rho → Option (List D)) : TA := fun σ H Q => ∃ ρ S F, EnvOk mg T ρ σ H S F ∧ ∃ ds, ps ρ = some ds ∧ ∀ vs H' S', Grow H S H' S' → Views mg H' (fun _ => True) ds vs → Q vs H'
abbrev PDs (X : Cx) (T : Ty) (es : List Expr) (k : Nat) (ps : Rho → Option (List D)) : Prop := PA X es (tPk X.mg T k ps)
abbrev PVs (X : Cx) (T : Ty) (es : List Expr) (ps : Rho → Option (List D)) : Prop := PA X es (tPv X.mg T ps)
theorem PA.imp {X : Cx} {es : List Expr} {t t' : TA} (h : PA X es t) (i : ∀ σ H Q, t' σ H Q → t σ H Q) : PA X es t' := ⟨fun pos pins s σ H Q I q => h.run pos pins s σ H Q I (i σ H Q q)⟩
def sNil : Rho → Option (List D) := fun _ => some []
def sCons (p : Rho → Option D) (ps : Rho → Option (List D)) : Rho → Option (List D) := fun ρ => (p ρ).bind fun d => (ps ρ).map (d :: ·)
variable {e : Expr} {es : List Expr} {ps : Rho → Option (List D)} {k : Nat}
theorem ds_nil : PDs X T [] k sNil := PA.imp pa_nil fun σ H Q ⟨ρ, S, F, E, d, hp, z⟩ => by
  cases hp
  exact z [] H S [] E.rf (by simp only [Reps]; exact ⟨trivial, trivial⟩) (by simp) (by simp)
theorem vs_nil : PVs X T [] sNil := PA.imp pa_nil fun σ H Q ⟨ρ, S, F, E, d, hp, z⟩ => by
  cases hp
  exact z [] H S E.rf (by simp only [Views])
theorem ds_cons (h : PD X T e m p) (hr : PDs X T es k ps) (hl : m.le (.ow k) = true := by rfl) (hs : starEach (e :: es) X.env = (false, eval e X.env) :: starEach es X.env := by rfl) : PDs X T (e :: es) k (sCons p ps) := by
  refine PA.imp (pa_cons (PD.le h hl) hr hs) fun σ H Q ⟨ρ, S, F, E, ds, hp, z⟩ => ?_
  simp only [sCons, Option.bind_eq_some_iff, Option.map_eq_some_iff] at hp
  obtain ⟨x, hx, xs, hxs, rfl⟩ := hp
  refine ⟨ρ, S, F, E, x, hx, fun v H1 S1 G1 g1 r1 => ⟨ρ, S1, F, E.grow g1, xs, hxs, fun vs H2 S2 G2 g2 r2 n2 f2 => ?_⟩⟩
  obtain ⟨q1, n1, f1⟩ := r1.grow g2
  have dis : ∀ a ∈ G1, ∀ b ∈ G2, a ≠ b := fun a ha b hb e => by
    obtain ⟨o, eo, _⟩ := r1.1.mo a ha
    rw [e, (f2 b hb).1] at eo; cases eo
  refine z (v :: vs) H2 S2 (G1 ++ G2) (g1.trans g2) ?_ (List.nodup_append.mpr ⟨n1, n2, dis⟩) fun a ha => ?_
  · simp only [Reps]
    exact ⟨v, vs, G1, G2, rfl, rfl, q1, r2⟩
  · rcases List.mem_append.mp ha with ha | ha
    · exact f1 a ha
    · exact ⟨g1.same.free (f2 a ha).1, (f2 a ha).2⟩
theorem vs_cons (h : PD X T e m p) (hr : PVs X T es ps) (hs : starEach (e :: es) X.env = (false, eval e X.env) :: starEach es X.env := by rfl) : PVs X T (e :: es) (sCons p ps) := by
  refine PA.imp (pa_cons h hr hs) fun σ H Q ⟨ρ, S, F, E, ds, hp, z⟩ => ?_
  simp only [sCons, Option.bind_eq_some_iff, Option.map_eq_some_iff] at hp
  obtain ⟨x, hx, xs, hxs, rfl⟩ := hp
  refine ⟨ρ, S, F, E, x, hx, fun v H1 S1 G1 g1 r1 => ⟨ρ, S1, F, E.grow g1, xs, hxs, fun vs H2 S2 g2 r2 => ?_⟩⟩
  refine z (v :: vs) H2 S2 (g1.trans g2) ?_
  simp only [Views]
  exact ⟨v, vs, rfl, r1.view.mono (Same.ext g2.same) (fun _ _ => trivial), r2⟩
/-- a list, a tuple of what is owned k deep -/
def eL (ps : Rho → Option (List D)) : Rho → Option D := fun ρ => (ps ρ).bind fun ds => if ds.length ≤ cap then some (.lst ds) else none
def eT (ps : Rho → Option (List D)) : Rho → Option D := fun ρ => (ps ρ).bind fun ds => if ds.length ≤ cap then some (.tup ds) else none
theorem d_lst (h : PDs X T es k ps) : PD X T (.List es pos) (.ow (k + 1)) (eL ps) := by
  refine PE.imp (pe_lst h) fun σ H Q ⟨ρ, S, F, E, d, hp, z⟩ => ?_
  simp only [eL, Option.bind_eq_some_iff] at hp
  obtain ⟨ds, hds, hp⟩ := hp
  split at hp
  · rename_i hc
    cases hp
    exact ⟨ρ, S, F, E, ds, hds, fun vs H' S' G g r n f => ⟨by rw [r.length]; exact cap_le hc, z.newL g r n f⟩⟩
  · cases hp
theorem d_tup {x1} (h : PDs X T es k ps) : PD X T (.Tuple es x1 pos) (.ow (k + 1)) (eT ps) := by
  refine PE.imp (pe_tup h) fun σ H Q ⟨ρ, S, F, E, d, hp, z⟩ => ?_
  simp only [eT, Option.bind_eq_some_iff] at hp
  obtain ⟨ds, hds, hp⟩ := hp
  split at hp
  · rename_i hc
    cases hp
    exact ⟨ρ, S, F, E, ds, hds, fun vs H' S' G g r n f => ⟨by rw [r.length]; exact cap_le hc, z.newT g r n f⟩⟩
  · cases hp
theorem d_lstv (h : PVs X T es ps) : PD X T (.List es pos) .vw (eL ps) := by
  refine PE.imp (pe_lst h) fun σ H Q ⟨ρ, S, F, E, d, hp, z⟩ => ?_
  simp only [eL, Option.bind_eq_some_iff] at hp
  obtain ⟨ds, hds, hp⟩ := hp
  split at hp
  · rename_i hc
    cases hp
    refine ⟨ρ, S, F, E, ds, hds, fun vs H' S' g r => ⟨by rw [r.length]; exact cap_le hc, fun p hp => z _ _ S' [] (g.laid hp) ⟨?_, rfl⟩⟩⟩
    simp only [View]
    exact ⟨p, vs, rfl, trivial, upd_same, r.mono (Same.ext (same_upd hp)) fun _ _ => trivial⟩
  · cases hp
theorem d_tupv {x1} (h : PVs X T es ps) : PD X T (.Tuple es x1 pos) .vw (eT ps) := by
  refine PE.imp (pe_tup h) fun σ H Q ⟨ρ, S, F, E, d, hp, z⟩ => ?_
  simp only [eT, Option.bind_eq_some_iff] at hp
  obtain ⟨ds, hds, hp⟩ := hp
  split at hp
  · rename_i hc
    cases hp
    refine ⟨ρ, S, F, E, ds, hds, fun vs H' S' g r => ⟨by rw [r.length]; exact cap_le hc, fun p hp => z _ _ S' [] (g.laid hp) ⟨?_, rfl⟩⟩⟩
    simp only [View]
    exact ⟨p, vs, rfl, upd_same, r.mono (Same.ext (same_upd hp)) fun _ _ => trivial⟩
  · cases hp
/-- {}: of int or text keys; of tuple keys -/
theorem d_dicK : PD X T (.Dict [] [] pos) (.ow (k + 1)) (eC (.dic [] [])) := by
  refine PE.imp pe_dnewK fun σ H Q ⟨ρ, S, F, E, d, hp, z⟩ => ?_
  cases hp
  intro p hp
  refine z _ _ S [p] (E.rf.laid hp) ⟨?_, by simp, fun a ha => ?_⟩
  · simp only [Rep]
    exact ⟨p, [], [], rfl, upd_same, rfl, by simp, rfl, by simp only [Reps]; exact ⟨trivial, trivial⟩⟩
  · have : a = p := by simpa using ha
    subst this
    exact ⟨hp, fun z => E.dom _ z hp⟩
theorem d_dicT : PD X T (.Dict [] [] pos) (.ow (k + 1)) (eC (.dct [] [])) := by
  refine PE.imp pe_dnewT fun σ H Q ⟨ρ, S, F, E, d, hp, z⟩ => ?_
  cases hp
  intro p hp
  refine z _ _ S [p] (E.rf.laid hp) ⟨?_, by simp, fun a ha => ?_⟩
  · simp only [Rep]
    exact ⟨p, [], [], rfl, upd_same, rfl, by simp, rfl, by simp only [Reps]; exact ⟨trivial, trivial⟩⟩
  · have : a = p := by simpa using ha
    subst this
    exact ⟨hp, fun z => E.dom _ z hp⟩
end
end DL
end

section
set_option Elab.async false
set_option linter.all false
set_option maxRecDepth 100000
set_option maxHeartbeats 4000000
/-! DL6: built-ins, slices, frozen evaluation. -/
namespace DL
open PySem PySem.Spec PyProof.Rows L2

section
variable {X : Cx} {T : Ty} {a b c e : Expr} {pos : Pos} {m m1 m2 m3 md : Md} {p q r' : Rho → Option D} {mg : Mg} {H H' : Hp} {S S' : Addr → Prop} {ρ : Rho} {σ : St} {F G : List Addr} {Q : VK} {k : Nat}

/-! ### all slots shared: what is only looked at -/
def Ty.z (T : Ty) : Ty := { T with ks := T.ks.map fun _ => 0 }
theorem Slots.frozen : ∀ {ρ : Rho} {ks : List Nat} {σ : St} {F : List Addr}, Slots mg H S ρ ks σ F → (∀ a, S a → H a ≠ none) → Slots mg H (fun a => H a ≠ none) ρ (ks.map fun _ => 0) σ []
  | [], _, _, _, h, _ => by simp only [Slots] at h ⊢; exact ⟨h.1, trivial⟩
  | _ :: _, [], _, _, h, _ => by simp only [Slots] at h
  | x :: r, k :: ks, σ, F, h, hd => by
    simp only [Slots] at h
    obtain ⟨o, q, G1, G2, rfl, rfl, h1, h2⟩ := h
    simp only [List.map_cons, Slots]
    refine ⟨o, q, [], [], rfl, rfl, ?_, h2.frozen hd⟩
    cases x with
    | none => rfl
    | some d =>
      obtain ⟨v, e, r⟩ := h1
      refine ⟨v, e, ?_⟩
      simp only [Rep]
      exact ⟨r.freeze hd fun a ha => (let ⟨o, eo, _⟩ := r.mo a ha; by rw [eo]; exact fun z => nomatch z), trivial⟩
theorem EnvOk.frozen (E : EnvOk mg T ρ σ H S F) : EnvOk mg T.z ρ σ H (fun a => H a ≠ none) [] := ⟨E.slots.frozen E.dom, by simp, by simp, fun _ h => h, E.io⟩
/-- what lies as deep as k is flat -/
def cutFlat : Nat → D → Bool
  | 0, d => flat d
  | _ + 1, .non => true
  | _ + 1, .bl _ => true
  | _ + 1, .int _ => true
  | _ + 1, .str _ => true
  | k + 1, .lst ds => cuts k ds
  | k + 1, .tup ds => cuts k ds
  | k + 1, .dic _ ds => cuts k ds
  | k + 1, .dct _ ds => cuts k ds
  | _ + 1, .set _ => true
  | k + 1, .ins _ _ ds => cuts k ds
  | _ + 1, .scr _ => false
where cuts (k : Nat) : List D → Bool
  | [] => true
  | d :: ds => cutFlat k d && cuts k ds
mutual
theorem Rep.cut : ∀ {d : D} {k : Nat} {v : V} {G : List Addr}, Rep mg H S d k v G → cutFlat k d = true → ∀ S', Rep mg H S' d k v G
  | d, 0, v, G, h, f, S' => by
    have e : G = [] := by simp only [Rep] at h; exact h.2
    subst e
    exact h.reflat (by simpa only [cutFlat] using f) 0 S'
  | .lst ds, k + 1, v, G, h, f, S' => by
    simp only [Rep] at h ⊢
    simp only [cutFlat] at f
    obtain ⟨a, xs, G', e1, r, e2, q⟩ := h
    exact ⟨a, xs, G', e1, r, e2, Reps.cut q f S'⟩
  | .tup ds, k + 1, v, G, h, f, S' => by
    simp only [Rep] at h ⊢
    simp only [cutFlat] at f
    obtain ⟨a, xs, e1, r, q⟩ := h
    exact ⟨a, xs, e1, r, Reps.cut q f S'⟩
  | .dic ks ds, k + 1, v, G, h, f, S' => by
    simp only [Rep] at h ⊢
    simp only [cutFlat] at f
    obtain ⟨a, xs, G', e1, r, l, n, e2, q⟩ := h
    exact ⟨a, xs, G', e1, r, l, n, e2, Reps.cut q f S'⟩
  | .dct ks ds, k + 1, v, G, h, f, S' => by
    simp only [Rep] at h ⊢
    simp only [cutFlat] at f
    obtain ⟨a, xs, G', e1, r, l, n, e2, q⟩ := h
    exact ⟨a, xs, G', e1, r, l, n, e2, Reps.cut q f S'⟩
  | .set ns, k + 1, v, G, h, f, S' => by simp only [Rep] at h ⊢; exact h
  | .ins c fs ds, k + 1, v, G, h, f, S' => by
    simp only [Rep] at h ⊢
    simp only [cutFlat] at f
    obtain ⟨a, C, dx, xs, G', e1, m, r, r2, l, e2, q⟩ := h
    exact ⟨a, C, dx, xs, G', e1, m, r, r2, l, e2, Reps.cut q f S'⟩
  | .non, k + 1, v, G, h, f, S' => by simp only [Rep, View] at h ⊢; exact h
  | .bl _, k + 1, v, G, h, f, S' => by simp only [Rep, View] at h ⊢; exact h
  | .int _, k + 1, v, G, h, f, S' => by simp only [Rep, View] at h ⊢; exact h
  | .str _, k + 1, v, G, h, f, S' => by simp only [Rep, View] at h ⊢; exact h
  | .scr _, k + 1, v, G, h, f, S' => by simp [cutFlat] at f
theorem Reps.cut : ∀ {ds : List D} {k : Nat} {vs : List V} {G : List Addr}, Reps mg H S ds k vs G → cutFlat.cuts k ds = true → ∀ S', Reps mg H S' ds k vs G
  | [], k, _, _, h, _, _ => by simp only [Reps] at h ⊢; exact h
  | d :: ds, k, vs, G, h, f, S' => by
    simp only [Reps] at h ⊢
    simp only [cutFlat.cuts, Bool.and_eq_true] at f
    obtain ⟨v, r, G1, G2, e1, e2, h1, h2⟩ := h
    exact ⟨v, r, G1, G2, e1, e2, Rep.cut h1 f.1 S', Reps.cut h2 f.2 S'⟩
end
def eCut (k : Nat) (p : Rho → Option D) : Rho → Option D := fun ρ => (p ρ).bind fun d => if cutFlat k d then some d else none
theorem d_frzv (h : PD X T.z e m p) : PD X T e .vw p := by
  refine PE.imp h fun σ H Q ⟨ρ, S, F, E, d, hp, z⟩ => ⟨ρ, _, _, E.frozen, d, hp, fun v H' S' G g r => ?_⟩
  exact z v H' (fun a => S a) [] ⟨g.same, fun _ h => h, fun _ h => .inl h, E.dom⟩ ⟨r.view, rfl⟩
theorem d_frz (k : Nat) (h : PD X T.z e m p) (hl : m.le (.ow k) = true := by rfl) : PD X T e (.ow k) (eCut k p) := by
  refine PE.imp (PD.le h hl) fun σ H Q ⟨ρ, S, F, E, d, hp, z⟩ => ?_
  simp only [eCut, Option.bind_eq_some_iff] at hp
  obtain ⟨x, hx, hp⟩ := hp
  split at hp
  · rename_i hc
    cases hp
    refine ⟨ρ, _, _, E.frozen, _, hx, fun v H' S' G g r => ?_⟩
    refine z v H' (fun a => S a) G ⟨g.same, fun _ h => h, fun _ h => .inl h, E.dom⟩ ⟨r.1.cut hc _, r.2.1, fun a ha => ⟨(r.2.2 a ha).1, fun hs => (E.dom a hs) (r.2.2 a ha).1⟩⟩
  · cases hp
theorem td_frz {pb : Rho → Option Bool} (h : TD X T.z e pb) : TD X T e pb := by
  refine PT.imp h fun σ H Q ⟨ρ, S, F, E, d, hp, z⟩ => ⟨ρ, _, _, E.frozen, d, hp, fun H' S' g => ?_⟩
  exact z H' S ⟨g.same, fun _ h => h, fun _ h => .inl h, E.dom⟩
/-- flat by a look -/
theorem d_flat (h : PD X T e m p) : PD X T e .fl (eCut 0 p) := by
  refine PE.imp h fun σ H Q ⟨ρ, S, F, E, d, hp, z⟩ => ?_
  simp only [eCut, Option.bind_eq_some_iff] at hp
  obtain ⟨x, hx, hp⟩ := hp
  split at hp
  · rename_i hc
    cases hp
    have f : flat d = true := by simpa only [cutFlat] using hc
    refine ⟨ρ, _, _, E, _, hx, fun v H' S' G g r => z v H' S' [] g ⟨f, ?_, rfl⟩⟩
    have w := r.view.flat f 0 S'
    simp only [Rep] at w
    exact w.1
  · cases hp

/-! ### one or two arguments -/
theorem d_call1 {r : List V → Hp → VK → Prop} {f : D → Option D} (ho : Op1 X (fun v H Q => r [v] H Q) m1 md f) (h : PE X e (tCB r (tCons (tP X.mg T m1 p) tNil))) : PD X T e md (e1 f p) := d_op1 ho h
theorem d_call2 {r : List V → Hp → VK → Prop} {f : D → D → Option D} (ho : Op2 X (fun v w H Q => r [v, w] H Q) m1 m2 md f) (h : PE X e (tCB r (tCons (tP X.mg T m1 p) (tCons (tP X.mg T m2 q) tNil)))) : PD X T e md (e2 f p q) := d_op2 ho h

def lenD : D → Option D
  | .lst ds => some (.int ds.length)
  | .tup ds => some (.int ds.length)
  | .scr ns => some (.int ns.length)
  | .dic ks _ => some (.int ks.length)
  | .dct ks _ => some (.int ks.length)
  | .str x => if x.length ≤ cap then some (.int x.length) else none
  | _ => none
abbrev rLen3 (X : Cx) : List V → Hp → VK → Prop := fun xs H Q => ((∃ x n, xs = [x] ∧ LenV X.K x H n ∧ Q (V.int n) H) ∨ ∃ a kvs, xs = [V.ref a] ∧ H a = some (.dK kvs) ∧ Q (.int kvs.length) H) ∨ rLenT xs H Q
theorem r_len : CallR X (.builtin "len") (rLen3 X) := (call_len.or call_lenD).or call_len_dT
theorem o_len : Op1 X (fun v H Q => rLen3 X [v] H Q) m1 .fl lenD := by
  intro x d v1 H0 H S0 S F G1 Q hf g r1 z
  have w := r1.view
  unfold lenD at hf
  split at hf
  · cases hf
    simp only [View] at w
    obtain ⟨a, xs, rfl, _, r, q⟩ := w
    exact .inl (.inl ⟨_, _, rfl, .inl ⟨xs, SqL.of r, q.length.symm⟩, z.int g⟩)
  · cases hf
    simp only [View] at w
    obtain ⟨a, xs, rfl, r, q⟩ := w
    exact .inl (.inl ⟨_, _, rfl, .inr ⟨xs, SqT.of r, q.length.symm⟩, z.int g⟩)
  · cases hf
    simp only [View] at w
    obtain ⟨a, o, rfl, _, r⟩ := w
    exact .inl (.inl ⟨_, _, rfl, .inl ⟨_, .inl (.inr ⟨o, r⟩), by simp⟩, z.int g⟩)
  · rename_i ks ds
    cases hf
    simp only [View] at w
    obtain ⟨a, xs, rfl, _, r, l, _, q⟩ := w
    refine .inl (.inr ⟨a, _, rfl, r, ?_⟩)
    have : ((ks.map DKey.key).zip xs).length = ks.length := by rw [List.length_zip, List.length_map, ← l, Nat.min_self]
    rw [this]
    exact z.int g
  · rename_i ks ds
    cases hf
    simp only [View] at w
    obtain ⟨a, xs, rfl, _, r, l, _, q⟩ := w
    refine .inr ⟨a, _, rfl, r, ?_⟩
    have : ((ks.map (List.map (Sum.inl : Int → Key))).zip xs).length = ks.length := by rw [List.length_zip, List.length_map, ← l, Nat.min_self]
    rw [this]
    exact z.int g
  · split at hf
    · rename_i hc
      cases hf
      rw [r1.str]
      exact .inl (.inl ⟨_, _, rfl, ⟨cap_le hc, rfl⟩, z.int g⟩)
    · cases hf
  · cases hf

/-! isinstance with a built-in class -/
def tyName : D → Option String
  | .non => some "NoneType"
  | .bl _ => some "bool"
  | .int _ => some "int"
  | .str _ => some "str"
  | .lst _ => some "list"
  | .tup _ => some "tuple"
  | .dic _ _ => some "dict"
  | .dct _ _ => some "dict"
  | .scr _ => some "list"
  | _ => none
def isiD (t : String) (x : D) : Option D := (tyName x).bind fun a => (kitB a t).map D.bl
theorem o_isi {t : String} : Op1 X (fun v H Q => rIsi X.K [v, .ty t] H Q) m1 .fl (isiD t) := by
  intro x d v1 H0 H S0 S F G1 Q hf g r1 z
  have w := r1.view
  simp only [isiD, Option.bind_eq_some_iff, Option.map_eq_some_iff] at hf
  obtain ⟨a, ha, b, hb, rfl⟩ := hf
  have fin : ∀ {v : V}, TyX X.K H v (.type a) → rIsi X.K [v, .ty t] H Q := fun {v} ty => ⟨v, .ty t, _, _, b, rfl, .ty t, ty, kit_ty hb, z.bl g⟩
  cases x with
  | non => cases ha; rw [r1.non]; exact fin (.base .non)
  | bl b => cases ha; rw [r1.bl]; exact fin (.base (.bl _))
  | int b => cases ha; rw [r1.int]; exact fin (.base (.int _))
  | str b => cases ha; rw [r1.str]; exact fin (.base (.str _))
  | lst ds => cases ha; simp only [View] at w; obtain ⟨a, xs, rfl, _, r, _⟩ := w; exact fin (.base (.lst r))
  | tup ds => cases ha; simp only [View] at w; obtain ⟨a, xs, rfl, r, _⟩ := w; exact fin (.base (.tup r))
  | dic ks ds => cases ha; simp only [View] at w; obtain ⟨a, xs, rfl, _, r, _⟩ := w; exact fin (.base (.dK r))
  | dct ks ds => cases ha; simp only [View] at w; obtain ⟨a, xs, rfl, _, r, _⟩ := w; exact fin (.base (.dT r))
  | scr ns => cases ha; simp only [View] at w; obtain ⟨a, o, rfl, _, r⟩ := w; exact fin (.base (.frz r))
  | set _ => cases ha
  | ins _ _ _ => cases ha
theorem d_isi {t : String} (h : PE X e (tCB (rIsi X.K) (tCons (tP X.mg T m1 p) (tCons (tC (.ty t)) tNil)))) : PD X T e .fl (e1 (isiD t) p) := d_op1 o_isi h

/-! sums and the like -/
def sumD : D → Option D
  | .lst ds => (intsOf ds).map fun ns => .int ns.sum
  | _ => none
theorem o_sum : Op1 X (fun v H Q => rSum X.K [v] H Q) m1 .fl sumD := by
  intro x d v1 H0 H S0 S F G1 Q hf g r1 z
  have w := r1.view
  unfold sumD at hf
  split at hf
  · simp only [Option.map_eq_some_iff] at hf
    obtain ⟨ns, hn, rfl⟩ := hf
    simp only [View] at w
    obtain ⟨a, xs, rfl, _, r, q⟩ := w
    rw [intsOf_views hn q] at r
    exact ⟨a, ns, rfl, SqL.of r, z.int g⟩
  · cases hf
def blsOf : List D → Option (List Bool)
  | [] => some []
  | .bl i :: r => (blsOf r).map (i :: ·)
  | _ :: _ => none
theorem blsOf_views : ∀ {ds : List D} {ns : List Bool} {xs : List V}, blsOf ds = some ns → Views mg H S ds xs → xs = ns.map V.bl
  | [], ns, xs, h, w => by
    simp only [blsOf, Option.some.injEq] at h
    simp only [Views] at w
    subst h; exact w
  | .bl i :: r, ns, xs, h, w => by
    simp only [blsOf, Option.map_eq_some_iff] at h
    obtain ⟨ms, h, rfl⟩ := h
    simp only [Views, View] at w
    obtain ⟨v, r', rfl, rfl, w⟩ := w
    rw [blsOf_views h w]; rfl
  | .non :: _, _, _, h, _ => by simp [blsOf] at h
  | .int _ :: _, _, _, h, _ => by simp [blsOf] at h
  | .str _ :: _, _, _, h, _ => by simp [blsOf] at h
  | .lst _ :: _, _, _, h, _ => by simp [blsOf] at h
  | .tup _ :: _, _, _, h, _ => by simp [blsOf] at h
  | .dic _ _ :: _, _, _, h, _ => by simp [blsOf] at h
  | .dct _ _ :: _, _, _, h, _ => by simp [blsOf] at h
  | .set _ :: _, _, _, h, _ => by simp [blsOf] at h
  | .ins _ _ _ :: _, _, _, h, _ => by simp [blsOf] at h
  | .scr _ :: _, _, _, h, _ => by simp [blsOf] at h
def allD : D → Option D
  | .lst ds => (blsOf ds).map fun ns => .bl (ns.all id)
  | _ => none
theorem o_all : Op1 X (fun v H Q => rAll X.K [v] H Q) m1 .fl allD := by
  intro x d v1 H0 H S0 S F G1 Q hf g r1 z
  have w := r1.view
  unfold allD at hf
  split at hf
  · simp only [Option.map_eq_some_iff] at hf
    obtain ⟨ns, hn, rfl⟩ := hf
    simp only [View] at w
    obtain ⟨a, xs, rfl, _, r, q⟩ := w
    rw [blsOf_views hn q] at r
    exact ⟨a, ns, rfl, SqL.of r, z.bl g⟩
  · cases hf
/-- the greatest, the least of some -/
def maxL : List Int → Option Int
  | [] => none
  | n :: ns => some (ns.foldl max n)
def minL : List Int → Option Int
  | [] => none
  | n :: ns => some (ns.foldl min n)
theorem foldl_max_mem : ∀ (ns : List Int) (n : Int), ns.foldl max n = n ∨ ns.foldl max n ∈ ns
  | [], n => .inl rfl
  | m :: ns, n => by
    rcases foldl_max_mem ns (max n m) with h | h
    · rw [List.foldl_cons, h]
      rcases Int.le_total n m with q | q
      · exact .inr (by rw [Int.max_eq_right q]; simp)
      · exact .inl (Int.max_eq_left q)
    · exact .inr (by rw [List.foldl_cons]; exact List.mem_cons_of_mem _ h)
theorem foldl_max_ge : ∀ (ns : List Int) (n : Int), n ≤ ns.foldl max n ∧ ∀ m ∈ ns, m ≤ ns.foldl max n
  | [], n => ⟨Int.le_refl n, by simp⟩
  | m :: ns, n => by
    obtain ⟨h1, h2⟩ := foldl_max_ge ns (max n m)
    rw [List.foldl_cons]
    refine ⟨Int.le_trans (Int.le_max_left n m) h1, fun x hx => ?_⟩
    rcases List.mem_cons.mp hx with rfl | hx
    · exact Int.le_trans (Int.le_max_right n x) h1
    · exact h2 x hx
theorem maxL_spec {ns : List Int} {m : Int} (h : maxL ns = some m) : m ∈ ns ∧ ∀ y ∈ ns, y ≤ m := by
  cases ns with
  | nil => simp [maxL] at h
  | cons n ns =>
    simp only [maxL, Option.some.injEq] at h
    subst h
    obtain ⟨h1, h2⟩ := foldl_max_ge ns n
    refine ⟨?_, fun y hy => ?_⟩
    · rcases foldl_max_mem ns n with e | e
      · rw [e]; simp
      · exact List.mem_cons_of_mem _ e
    · rcases List.mem_cons.mp hy with rfl | hy
      · exact h1
      · exact h2 y hy
theorem foldl_min_mem : ∀ (ns : List Int) (n : Int), ns.foldl min n = n ∨ ns.foldl min n ∈ ns
  | [], n => .inl rfl
  | m :: ns, n => by
    rcases foldl_min_mem ns (min n m) with h | h
    · rw [List.foldl_cons, h]
      rcases Int.le_total n m with q | q
      · exact .inl (Int.min_eq_left q)
      · exact .inr (by rw [Int.min_eq_right q]; simp)
    · exact .inr (by rw [List.foldl_cons]; exact List.mem_cons_of_mem _ h)
theorem foldl_min_le : ∀ (ns : List Int) (n : Int), ns.foldl min n ≤ n ∧ ∀ m ∈ ns, ns.foldl min n ≤ m
  | [], n => ⟨Int.le_refl n, by simp⟩
  | m :: ns, n => by
    obtain ⟨h1, h2⟩ := foldl_min_le ns (min n m)
    rw [List.foldl_cons]
    refine ⟨Int.le_trans h1 (Int.min_le_left n m), fun x hx => ?_⟩
    rcases List.mem_cons.mp hx with rfl | hx
    · exact Int.le_trans h1 (Int.min_le_right n x)
    · exact h2 x hx
theorem minL_spec {ns : List Int} {m : Int} (h : minL ns = some m) : m ∈ ns ∧ ∀ y ∈ ns, m ≤ y := by
  cases ns with
  | nil => simp [minL] at h
  | cons n ns =>
    simp only [minL, Option.some.injEq] at h
    subst h
    obtain ⟨h1, h2⟩ := foldl_min_le ns n
    refine ⟨?_, fun y hy => ?_⟩
    · rcases foldl_min_mem ns n with e | e
      · rw [e]; simp
      · exact List.mem_cons_of_mem _ e
    · rcases List.mem_cons.mp hy with rfl | hy
      · exact h1
      · exact h2 y hy
def max1D : D → Option D
  | .lst ds => ((intsOf ds).bind maxL).map D.int
  | _ => none
def min1D : D → Option D
  | .lst ds => ((intsOf ds).bind minL).map D.int
  | _ => none
theorem o_max1 : Op1 X (fun v H Q => rMax X.K [v] H Q) m1 .fl max1D := by
  intro x d v1 H0 H S0 S F G1 Q hf g r1 z
  have w := r1.view
  unfold max1D at hf
  split at hf
  · simp only [Option.map_eq_some_iff, Option.bind_eq_some_iff] at hf
    obtain ⟨mx, ⟨ns, hn, hm⟩, rfl⟩ := hf
    simp only [View] at w
    obtain ⟨a, xs, rfl, _, r, q⟩ := w
    rw [intsOf_views hn q] at r
    obtain ⟨s1, s2⟩ := maxL_spec hm
    refine ⟨a, ns, rfl, SqL.of r, List.length_pos_of_mem s1, fun y hy hle => ?_⟩
    have e : y = mx := Int.le_antisymm (s2 y hy) (hle mx s1)
    subst e
    exact z.int g
  · cases hf
theorem o_min1 : Op1 X (fun v H Q => rMin X.K [v] H Q) m1 .fl min1D := by
  intro x d v1 H0 H S0 S F G1 Q hf g r1 z
  have w := r1.view
  unfold min1D at hf
  split at hf
  · simp only [Option.map_eq_some_iff, Option.bind_eq_some_iff] at hf
    obtain ⟨mx, ⟨ns, hn, hm⟩, rfl⟩ := hf
    simp only [View] at w
    obtain ⟨a, xs, rfl, _, r, q⟩ := w
    rw [intsOf_views hn q] at r
    obtain ⟨s1, s2⟩ := minL_spec hm
    refine ⟨a, ns, rfl, SqL.of r, List.length_pos_of_mem s1, fun y hy hle => ?_⟩
    have e : y = mx := Int.le_antisymm (hle mx s1) (s2 y hy)
    subst e
    exact z.int g
  · cases hf
def max2D : D → D → Option D
  | .int i, .int j => some (.int (if j > i then j else i))
  | _, _ => none
def min2D : D → D → Option D
  | .int i, .int j => some (.int (if j < i then j else i))
  | _, _ => none
theorem o_max2 : Op2 X (fun v w H Q => ∃ i j, [v, w] = [V.int i, V.int j] ∧ Q (.int (if j > i then j else i)) H) m1 m2 .fl max2D := by
  intro x y d v1 v2 H0 H S0 S F G1 G2 Q hf g r1 r2 z
  unfold max2D at hf
  split at hf
  · cases hf
    rw [r1.int, r2.int]
    exact ⟨_, _, rfl, z.int g⟩
  · cases hf
theorem o_min2 : Op2 X (fun v w H Q => ∃ i j, [v, w] = [V.int i, V.int j] ∧ Q (.int (if j < i then j else i)) H) m1 m2 .fl min2D := by
  intro x y d v1 v2 H0 H S0 S F G1 G2 Q hf g r1 r2 z
  unfold min2D at hf
  split at hf
  · cases hf
    rw [r1.int, r2.int]
    exact ⟨_, _, rfl, z.int g⟩
  · cases hf
def absD : D → Option D
  | .int i => some (.int (if i < 0 then -i else i))
  | _ => none
theorem o_abs : Op1 X (fun v H Q => ∃ i, [v] = [V.int i] ∧ Q (.int (if i < 0 then -i else i)) H) m1 .fl absD := by
  intro x d v1 H0 H S0 S F G1 Q hf g r1 z
  unfold absD at hf
  split at hf
  · cases hf
    rw [r1.int]
    exact ⟨_, rfl, z.int g⟩
  · cases hf
def intD : D → Option D
  | .int i => some (.int i)
  | .bl k => some (.int (if k then 1 else 0))
  | _ => none
theorem o_int : Op1 X (fun v H Q => (∃ i, [v] = [V.int i] ∧ Q (.int i) H) ∨ ∃ k, [v] = [V.bl k] ∧ Q (.int (if k then 1 else 0)) H) m1 .fl intD := by
  intro x d v1 H0 H S0 S F G1 Q hf g r1 z
  unfold intD at hf
  split at hf
  · cases hf
    rw [r1.int]
    exact .inl ⟨_, rfl, z.int g⟩
  · cases hf
    rw [r1.bl]
    exact .inr ⟨_, rfl, z.int g⟩
  · cases hf
def boolD : D → Option D
  | .int i => some (.bl (i != 0))
  | .bl k => some (.bl k)
  | _ => none
theorem o_bool : Op1 X (fun v H Q => (∃ i, [v] = [V.int i] ∧ Q (.bl (i != 0)) H) ∨ ∃ k, [v] = [V.bl k] ∧ Q (.bl k) H) m1 .fl boolD := by
  intro x d v1 H0 H S0 S F G1 Q hf g r1 z
  unfold boolD at hf
  split at hf
  · cases hf
    rw [r1.int]
    exact .inl ⟨_, rfl, z.bl g⟩
  · cases hf
    rw [r1.bl]
    exact .inr ⟨_, rfl, z.bl g⟩
  · cases hf

/-! sorted of ints -/
def sortI (ns : List Int) : List Int := ns.mergeSort (fun a b => decide (a ≤ b))
theorem sortI_perm (ns : List Int) : (sortI ns).Perm ns := List.mergeSort_perm ns _
theorem sortI_le (ns : List Int) : (sortI ns).Pairwise (· ≤ ·) := by
  have h := List.pairwise_mergeSort (le := fun a b : Int => decide (a ≤ b)) (fun a b c h1 h2 => by simp at *; omega) (fun a b => by simp; omega) ns
  exact h.imp fun h => by simpa using h
theorem sortI_uniq {ns ms : List Int} (h1 : ms.Perm ns) (h2 : ms.Pairwise (· ≤ ·)) : ms = sortI ns :=
  List.Perm.eq_of_pairwise (le := fun a b : Int => a ≤ b) (fun a b _ _ p q => Int.le_antisymm p q) h2 (sortI_le ns) (h1.trans (sortI_perm ns).symm)
def D.ints (ns : List Int) : List D := ns.map D.int
theorem views_ints : ∀ ns : List Int, Views mg H S (ns.map D.int) (ns.map V.int)
  | [] => by simp [Views]
  | n :: ns => by
    simp only [List.map_cons, Views, View]
    exact ⟨_, _, rfl, rfl, views_ints ns⟩
def sortedD : D → Option D
  | .lst ds => (intsOf ds).map fun ns => .lst ((sortI ns).map D.int)
  | _ => none
theorem o_sorted : Op1 X (fun v H Q => rSortedI X.K [v] H Q) m1 (.ow 1) sortedD := by
  intro x d v1 H0 H S0 S F G1 Q hf g r1 z
  have w := r1.view
  unfold sortedD at hf
  split at hf
  · simp only [Option.map_eq_some_iff] at hf
    obtain ⟨ns, hn, rfl⟩ := hf
    simp only [View] at w
    obtain ⟨a, xs, rfl, _, r, q⟩ := w
    rw [intsOf_views hn q] at r
    refine ⟨a, ns, rfl, SqL.of r, fun ns' p h1 h2 hp => ?_⟩
    rw [sortI_uniq h1 h2]
    exact z.newL1 g (views_ints _) p hp
  · cases hf

/-! list(x), tuple(x) -/
def listD : D → Option D
  | .lst ds => some (.lst ds)
  | .tup ds => some (.lst ds)
  | .scr ns => some (.lst (ns.map D.int))
  | _ => none
abbrev rListOf (X : Cx) : List V → Hp → VK → Prop := fun xs H Q => ∃ p ys, xs = [.ref p] ∧ (SqL X.K H p ys ∨ SqT X.K H p ys) ∧ ∀ l, H l = none → Q (.ref l) (upd H l (.lst ys))
theorem o_list (hm : m1.sh1 = true) : Op1 X (fun v H Q => rListOf X [v] H Q) m1 (.ow 1) listD := by
  intro x d v1 H0 H S0 S F G1 Q hf g r1 z
  unfold listD at hf
  split at hf
  · cases hf
    obtain ⟨a, xs, S1, rfl, r, g1, _, q⟩ := r1.lst hm g
    exact ⟨a, xs, rfl, .inl (SqL.of r), z.newL1 g1 q⟩
  · cases hf
    obtain ⟨a, xs, S1, rfl, r, g1, _, q⟩ := r1.tup hm g
    exact ⟨a, xs, rfl, .inr (SqT.of r), z.newL1 g1 q⟩
  · cases hf
    have w := r1.view
    simp only [View] at w
    obtain ⟨a, o, rfl, _, r⟩ := w
    exact ⟨a, _, rfl, .inl (.inl (.inr ⟨o, r⟩)), z.newL1 g (views_ints _)⟩
  · cases hf
def tupleD : D → Option D
  | .lst ds => some (.tup ds)
  | .tup ds => some (.tup ds)
  | _ => none
abbrev rTupleOf (X : Cx) : List V → Hp → VK → Prop := fun xs H Q => ∃ p ys, xs = [.ref p] ∧ ((SqL X.K H p ys ∧ ∀ l, H l = none → Q (.ref l) (upd H l (.tup ys))) ∨ (SqT X.K H p ys ∧ Q (.ref p) H))
theorem o_tuple (hm : m1.sh1 = true) : Op1 X (fun v H Q => rTupleOf X [v] H Q) m1 (.ow 1) tupleD := by
  intro x d v1 H0 H S0 S F G1 Q hf g r1 z
  unfold tupleD at hf
  split at hf
  · cases hf
    obtain ⟨a, xs, S1, rfl, r, g1, _, q⟩ := r1.lst hm g
    exact ⟨a, xs, rfl, .inl ⟨SqL.of r, z.newT1 g1 q⟩⟩
  · cases hf
    obtain ⟨a, xs, S1, rfl, r, g1, _, q⟩ := r1.tup hm g
    refine ⟨a, xs, rfl, .inr ⟨SqT.of r, z _ H S1 [] g1 ⟨?_, by simp, by simp⟩⟩⟩
    simp only [Rep]
    exact ⟨a, xs, rfl, r, Reps.zero.mpr ⟨q, rfl⟩⟩
  · cases hf
/-! list(range(..)) -/
def rgD (i j : Int) : List D := (List.range (j - i).toNat).map fun (n : Nat) => D.int (i + n)
theorem views_rg {i j : Int} : Views mg H S (rgD i j) (rgV i j) := by
  have h := views_ints (mg := mg) (H := H) (S := S) ((List.range (j - i).toNat).map fun (n : Nat) => (i + n : Int))
  simp only [List.map_map] at h
  exact h
def rgOk (i j : Int) : Bool := decide (-(2 ^ 61) ≤ i) && decide (i < 2 ^ 61) && decide (j < 2 ^ 61) && decide (-(2 ^ 61) ≤ j) && decide ((j - i).toNat ≤ cap)
theorem rgOk_ok {i j : Int} (h : rgOk i j = true) : RgOk i j := by
  simp only [rgOk, Bool.and_eq_true, decide_eq_true_eq, cap] at h
  refine ⟨?_, ?_, ?_, ?_, ?_⟩ <;> omega
def lrgD1 : D → Option D
  | .int j => if rgOk 0 j then some (.lst (rgD 0 j)) else none
  | _ => none
def lrgD2 : D → D → Option D
  | .int i, .int j => if rgOk i j then some (.lst (rgD i j)) else none
  | _, _ => none
theorem d_listRg1 (h : PE X e (tLstRg (tRg1 (tP X.mg T m1 p)))) : PD X T e (.ow 1) (e1 lrgD1 p) := by
  refine PE.imp h fun σ H Q ⟨ρ, S, F, E, d, hp, z⟩ => ?_
  simp only [e1, Option.bind_eq_some_iff] at hp
  obtain ⟨x, hx, hf⟩ := hp
  unfold lrgD1 at hf
  split at hf
  · split at hf
    · rename_i hc
      cases hf
      exact ⟨ρ, S, F, E, _, hx, fun v H' S' G g r => ⟨_, r.int, rgOk_ok hc, z.newL1 g views_rg⟩⟩
    · cases hf
  · cases hf

/-! xs[lo:hi] -/
def cutD (ds : List D) (lo hi : Option Int) : List D := List.take (HT.sIx ds.length ds.length hi - HT.sIx ds.length 0 lo) (List.drop (HT.sIx ds.length 0 lo) ds)
theorem views_cut {ds : List D} {xs : List V} {lo hi : Option Int} (h : Views mg H S ds xs) : Views mg H S (cutD ds lo hi) (cutV xs lo hi) := by
  unfold cutD cutV
  rw [h.length]
  exact Views.take 0 h.drop
def sliceD (x : D) (lo hi : Option Int) : Option D := match x with
  | .lst ds => some (.lst (cutD ds lo hi))
  | .scr ns => some (.lst (cutD (ns.map D.int) lo hi))
  | _ => none
/-- a part of a slice -/
def oNone : Rho → Option (Option Int) := fun _ => some none
def oSome (p : Rho → Option D) : Rho → Option (Option Int) := fun ρ => (p ρ).bind fun d => match d with
  | .int i => some (some i)
  | _ => none
def eSlice (p : Rho → Option D) (lo hi : Rho → Option (Option Int)) : Rho → Option D := fun ρ => (p ρ).bind fun x => (lo ρ).bind fun l => (hi ρ).bind fun u => sliceD x l u
def tO (mg : Mg) (T : Ty) (o : Rho → Option (Option Int)) : TO := fun σ H Q => ∃ ρ S F, EnvOk mg T ρ σ H S F ∧ ∃ x, o ρ = some x ∧ ∀ H' S', Grow H S H' S' → Q x H'
abbrev OD (X : Cx) (T : Ty) (e : Option Expr) (o : Rho → Option (Option Int)) : Prop := PO X e (tO X.mg T o)
theorem PO.imp {X : Cx} {e : Option Expr} {t t' : TO} (h : PO X e t) (i : ∀ σ H Q, t' σ H Q → t σ H Q) : PO X e t' := ⟨fun pins s σ H Q I q => h.run pins s σ H Q I (i σ H Q q)⟩
theorem od_none : OD X T none oNone := PO.imp po_none fun σ H Q ⟨ρ, S, F, E, x, hx, z⟩ => by cases hx; exact z H S E.rf
theorem od_some (h : PD X T e m p) : OD X T (some e) (oSome p) := PO.imp (po_some h) fun σ H Q ⟨ρ, S, F, E, x, hx, z⟩ => by
  simp only [oSome, Option.bind_eq_some_iff] at hx
  obtain ⟨d, hd, hx⟩ := hx
  split at hx
  · cases hx
    exact ⟨ρ, S, F, E, _, hd, fun v H' S' G g r => ⟨_, r.int, z H' S' g⟩⟩
  · cases hx
theorem d_slice {lo hi : Option Expr} {ol oh : Rho → Option (Option Int)} {p2 : Pos} (h : PD X T e m p) (hl : OD X T lo ol) (hh : OD X T hi oh) (hm : m.sh1 = true := by rfl) : PD X T (.Subscript e (.Slice lo hi none p2) pos) (.ow 1) (eSlice p ol oh) := by
  refine PE.imp (pe_slice sl_list h hl hh) fun σ H Q ⟨ρ, S, F, E, d, hp, z⟩ => ?_
  simp only [eSlice, Option.bind_eq_some_iff] at hp
  obtain ⟨x, hx, l, hl', u, hu, hf⟩ := hp
  refine ⟨ρ, S, F, E, x, hx, fun v H1 S1 G g1 r1 => ⟨ρ, S1, F, E.grow g1, l, hl', fun H2 S2 g2 => ⟨ρ, S2, F, (E.grow g1).grow g2, u, hu, fun H3 S3 g3 => ?_⟩⟩⟩
  have r3 := (r1.grow g2).grow g3
  have g := (g1.trans g2).trans g3
  unfold sliceD at hf
  split at hf
  · cases hf
    obtain ⟨a, xs, S4, rfl, r, g4, _, q⟩ := r3.lst hm g
    exact ⟨a, xs, rfl, SqL.of r, z.newL1 g4 (views_cut q)⟩
  · cases hf
    have w := r3.view
    simp only [View] at w
    obtain ⟨a, o, rfl, _, r⟩ := w
    exact ⟨a, _, rfl, .inl (.inr ⟨o, r⟩), z.newL1 g (views_cut (views_ints _))⟩
  · cases hf

/-! len(set(ints)) -/
def dd (ns : List Int) : List Int := ns.foldl step_dedup []
theorem firstMet_dd (ns : List Int) : firstMet (fun i => ns.getD i 0) ns.length = dd ns := by
  unfold firstMet dd
  congr 1
  apply List.ext_getElem
  · simp
  · intro i h1 h2
    simp at h1
    simp [List.getD_eq_getElem?_getD, h1]
def lenSetD : D → Option D
  | .lst ds => (intsOf ds).bind fun ns => if ns.length ≤ 4000 then some (.int (dd ns).length) else none
  | _ => none
theorem pe_lenSetA {ta : TE} {p p2 q pos : Pos} (hg : Gl X "len") (hm : X.mg "len" = none) (hg2 : Gl X "set") (hm2 : X.mg "set" = none) (ha : PE X a ta) (hc : X.calm = true := by rfl)
    (na : starEach [a] X.env = (false, eval a X.env) :: starEach [] X.env := by rfl) : PE X (.Call (.Name "len" p) [.Call (.Name "set" p2) [a] [] q] [] pos) (fun σ H Q => ta σ H fun x H1 => ∃ (l : Addr) (ns : List Int), x = .ref l ∧ SqL X.K H1 l (ns.map V.int) ∧ ns.length ≤ 4000 ∧ Q (.int ((dd ns).length : Nat)) H1) := by
  refine ⟨fun pins s σ H Q I h => ?_⟩
  refine Call_ (ld_blt I hg hm boot_len ?_)
  refine PyProof.Rows.callWith_builtin1 (PyProof.Rows.args_cons ?_ rfl) rfl rfl
  refine Call_ (ld_blt I hg2 hm2 boot_set ?_)
  refine PyProof.Rows.callWith_type1 (PyProof.Rows.args_cons (thn (ha.run pins s σ H _ I h) fun v s1 ⟨x, H1, I1, r1, q1⟩ => PyProof.Rows.args_nil ?_) na) na rfl
  obtain ⟨l, ns, rfl, hq, hl, q1⟩ := q1
  cases r1
  obtain ⟨its, r, pl, hz⟩ := I1.list hq
  have hlen : its.toArray.size = ns.length := by rw [List.size_toArray, ← r.length, List.length_map]
  refine call_set_list (I1.ok.hd hc) pl.isList (by simpa using RZ.intsAre_vals r) (by rw [hlen]; unfold scanBound; omega) fun h' tk hS hk => ?_
  refine PyProof.Rows.args_nil ?_
  rw [hlen, firstMet_dd] at hS
  obtain ⟨o, es, ep, t, ho, hex, hd, _, _, _, hf, hn⟩ := hS
  have I2 : Inv X pins σ H1 { s1 with heap := h', toks := tk } := I1.kept fun b o e => hk b o (Heap.lt_size e) e
  have hle : (dd ns).length ≤ ns.length := by
    have := firstMet_length_le (fun i => ns.getD i 0) ns.length
    rwa [firstMet_dd] at this
  exact call_len_set ho hex hd hf (by rw [hn]; omega) ⟨.int (dd ns).length, H1, I2.tok _, ⟨_, by rw [hn]⟩, q1⟩
theorem d_lenSet {p p2 q pos : Pos} {pp : Rho → Option D} (hg : Gl X "len") (hm : X.mg "len" = none) (hg2 : Gl X "set") (hm2 : X.mg "set" = none) (ha : PD X T a m pp) (hc : X.calm = true := by rfl)
    (na : starEach [a] X.env = (false, eval a X.env) :: starEach [] X.env := by rfl) : PD X T (.Call (.Name "len" p) [.Call (.Name "set" p2) [a] [] q] [] pos) .fl (e1 lenSetD pp) := by
  refine PE.imp (pe_lenSetA hg hm hg2 hm2 ha hc na) fun σ H Q ⟨ρ, S, F, E, d, hp, z⟩ => ?_
  simp only [e1, Option.bind_eq_some_iff] at hp
  obtain ⟨x, hx, hf⟩ := hp
  refine ⟨ρ, S, F, E, x, hx, fun v1 H1 S1 G1 g1 r1 => ?_⟩
  have w := r1.view
  unfold lenSetD at hf
  split at hf
  · simp only [Option.bind_eq_some_iff] at hf
    obtain ⟨ns, hn, hf⟩ := hf
    split at hf
    · rename_i hl
      cases hf
      simp only [View] at w
      obtain ⟨a, xs, rfl, _, r, q⟩ := w
      rw [intsOf_views hn q] at r
      exact ⟨a, ns, rfl, SqL.of r, hl, z.int g1⟩
    · cases hf
  · cases hf
end
end DL
end

section
set_option Elab.async false
set_option linter.all false
set_option maxRecDepth 100000
set_option maxHeartbeats 4000000
/-! DL7: enumerate of a tuple; what is walked; targets; comprehensions. -/
namespace DL
open PySem PySem.Spec PyProof.Rows L2

/-! ### enumerate(a tuple) -/
theorem meets_enumerate_newT (l : Addr) (items : Array Value) (n : Nat) (dct : Option Addr) (sl : Array (Option Value)) :
    Meets (Builtin.«enumerate.__new__» ⟨[.type "enumerate", .ref l], []⟩) (fun _ R s => s.heap.get? l = some { cls := .type "tuple", dict := dct, data := .seq items n, slots := sl } ∧
      R (.ok (.ret (.ref (s.heap.push { cls := .type "tuple_iterator", data := .fields #[.ref l, .int 0 0] }).objs.size)))
        { s with heap := (s.heap.push { cls := .type "tuple_iterator", data := .fields #[.ref l, .int 0 0] }).push { cls := .type "enumerate", data := .fields #[.none, .bool false, .ref s.heap.objs.size, rawInt 0, .none, .none] } }) :=
  .of_wp fun prog w A R s h => by
    obtain ⟨hp, g, d, tk, os⟩ := s; obtain ⟨hl, h⟩ := h
    have hsub := sub_enumerate
    have hL : Heap.IsTuple (Shared.heap ⟨hp, g, d, tk, os⟩) l items := ⟨_, hl, rfl, n, rfl⟩
    wp_walk using AutoSeq1.wpAny_loadPart' hl
    refine wpAny_stack_any fun st => wpAny_pure ?_
    split
    · rename_i c _ _ _ _ _
      cases (c == Value.type "enumerate")
      · wp_walk using AutoSeq1.wpAny_loadPart' hl, wpAny_pyIter_tuple hL
        exact ⟨_, rfl, h⟩
      · wp_walk using AutoSeq1.wpAny_loadPart' hl, wpAny_pyIter_tuple hL
        exact ⟨_, rfl, h⟩
    · wp_walk using AutoSeq1.wpAny_loadPart' hl, wpAny_pyIter_tuple hL
      exact ⟨_, rfl, h⟩
section
variable {prog : Program} {w : World} {A : Around} {E : Value → Shared → Prop} {s : Shared}
theorem call_enumerate_tuple {l : Addr} {items : Array Value} {Q : Value → Shared → Prop} (hL : s.heap.IsTuple l items)
    (h : ∀ h', IsEnum h' (s.heap.objs.size + 1) s.heap.objs.size 0 .none → h'.IsTupleIter s.heap.objs.size l 0 → h'.objs.size = s.heap.objs.size + 2 →
      (∀ b o, s.heap.get? b = some o → h'.get? b = some o) → Q (.ref (s.heap.objs.size + 1)) { s with heap := h' }) :
    wpAny (model prog w) A (call (.type "enumerate") [.ref l]) Q E s := by
  obtain ⟨⟨c, dct, dt, sl⟩, hl, hc, n, hd⟩ := hL
  replace hc : c = .type "tuple" := hc
  replace hd : dt = .seq items n := hd
  subst hc hd
  refine callType_new F.called_enumerate (by decide) (F.typeCall_enumerate_1 _) (F.newCall_enumerate_1 _) (fun obj => F.args_object_init_2 obj _) F.entry_enumerate_new
    (meets_enumerate_newT l items n dct sl) ⟨hl, ?_⟩
  have hz : (s.heap.push { cls := .type "tuple_iterator", data := .fields #[.ref l, .int 0 0] }).objs.size = s.heap.objs.size + 1 := Heap.size_push ..
  show _ ∧ _
  rw [hz]
  have he : IsEnum ((s.heap.push { cls := .type "tuple_iterator", data := .fields #[.ref l, .int 0 0] }).push
      { cls := .type "enumerate", data := .fields #[.none, .bool false, .ref s.heap.objs.size, rawInt 0, .none, .none] }) (s.heap.objs.size + 1) s.heap.objs.size 0 .none := by
    have := Heap.get?_push_size (s.heap.push { cls := .type "tuple_iterator", data := .fields #[.ref l, .int 0 0] })
      (o := { cls := .type "enumerate", data := .fields #[.none, .bool false, .ref s.heap.objs.size, rawInt 0, .none, .none] }) rfl
    rw [hz] at this; exact this
  refine ⟨⟨_, he, rfl⟩, h _ he ⟨_, Heap.get?_push_of_some _ (Heap.get?_push_size _ rfl), rfl, rfl⟩ (by rw [Heap.size_push, hz]) fun b o x => Heap.get?_push_of_some _ (Heap.get?_push_of_some _ x)⟩
end
def IteT (a : Addr) : It :=
  ⟨fun i H => ∃ (xs : List V) (x : V), H a = some (.tup xs) ∧ xs[i]? = some x, fun i H v H' => ∃ T x, v = .ref T ∧ H T = none ∧ H' = upd H T (.tup [.int (i : Nat), x]) ∧ ∀ xs, H a = some (.tup xs) → xs[i]? = some x, fun i H => ∃ xs : List V, H a = some (.tup xs) ∧ xs.length ≤ i⟩
theorem turn_enumT {P : Program} {w : World} {K : PySem.W.Frag} {elts : List Expr} {kk : Nat} {tpos : Pos} (a e it : Addr) :
    Turn P w K (.Tuple elts kk tpos) (IteT a) [e, it] e (fun i h => (∃ old, IsEnum h e it ((i : Nat) : Int) old) ∧ h.IsTupleIter it a i ∧ e ≠ it) where
  mem := by simp
  obj := fun i h st b hb => by
    obtain ⟨⟨old, he⟩, ⟨o, ho, hc, hd⟩, _⟩ := st
    have e' : b = e ∨ b = it := by simpa using hb
    rcases e' with z | z
    · rw [z]; exact ⟨_, he, fun v q => nomatch q⟩
    · rw [z]; exact ⟨o, ho, fun v q => by rw [hd] at q; cases q⟩
  keep := fun i h h' st k => let ⟨⟨old, he⟩, hi, hne⟩ := st; ⟨⟨old, k e (by simp) _ he⟩, hi.at fun o q => k it (by simp) o q, hne⟩
  item := by
    intro X hP hw hK hc i pins s σ H E I hf st hg
    subst hP hw hK
    obtain ⟨⟨old, he⟩, hit, hne⟩ := st
    obtain ⟨xs, x, hq, hx⟩ := hg
    obtain ⟨its, rv, p, hz⟩ := I.tuple (SqT.of hq)
    obtain ⟨u, hu, ru⟩ := rv.get hx
    have hel : e < s.heap.objs.size := Heap.lt_size he
    have hil : it < s.heap.objs.size := by obtain ⟨_, q, _⟩ := hit; exact Heap.lt_size q
    have hea : e ≠ a := fun z => by have := (hf e (by simp)).1; rw [z, hq] at this; cases this
    have hia : a ≠ it := fun z => by have := (hf it (by simp)).1; rw [← z, hq] at this; cases this
    have hlt : i < its.length := (List.getElem?_eq_some_iff.mp hu).1
    refine wpAny_pyNext_enum_itemD (Draws.tuple (by show X.A.in1.handled = none; exact I.ok.hd hc) it a hia its.toArray) he ⟨hit, p⟩ (by simpa using hlt) hne (by simp [hne, hea]) fun y h' tk hy ho hst hT hsz hk => ?_
    have ey : y = u := by
      have := hy
      simp at this
      rw [hu] at this
      exact (Option.some.inj this).symm
    subst ey
    refine ⟨_, rfl, wpAny_letOwnedTupleGo_enum (s := { s with heap := h', toks := tk + 1 }) ho fun h'' he' sb => ?_⟩
    have hT2 : h''.get? s.heap.objs.size = some { cls := .type "tuple", data := .seq #[.int i tk, y] } := (sb.2 _ (Nat.ne_of_gt hel)).trans hT
    have new : ObjOk X.prog X.w (upd H s.heap.objs.size (.tup [.int (i : Nat), x])) h'' s.heap.objs.size (.tup [.int (i : Nat), x]) :=
      ⟨by show 2 ≤ sizeLine; decide, [.int i tk, y], .cons ⟨_, rfl⟩ (.cons ru .nil), ⟨_, hT2, rfl, _, rfl⟩⟩
    have I1 : Inv X pins σ (upd H s.heap.objs.size (.tup [.int (i : Nat), x])) { s with heap := h'', toks := tk + 1 } :=
      I.turnedNew (ch := [e, it]) (fun b ob hb q => (sb.2 b (fun z => hb (by simp [z]))).trans (hk b ob (fun z => hb (by simp [z])) (fun z => hb (by simp [z])) q)) hf (Nat.le_refl _) new
    refine ⟨.ref s.heap.objs.size, _, I1, rfl, ⟨_, x, rfl, I.hok.fresh (Nat.le_refl _), rfl, fun ys hy => by rw [hq] at hy; cases hy; exact hx⟩, ⟨⟨y, ?_⟩, hst.1.at fun o q => (sb.2 it (Ne.symm hne)).trans q, hne⟩, fun b hb => ?_⟩
    · have e1 : ((i + 1 : Nat) : Int) = (i : Int) + 1 := by omega
      rw [e1]; exact he'
    · have hb' : b < s.heap.objs.size := by
        have e' : b = e ∨ b = it := by simpa using hb
        rcases e' with z | z
        · rw [z]; exact hel
        · rw [z]; exact hil
      rw [upd_ne (Nat.ne_of_lt hb')]
      exact (hf b hb).1
  done := by
    intro X hP hw hK hc i pins s σ H E I hf st hg
    subst hP hw hK
    obtain ⟨⟨old, he⟩, hit, hne⟩ := st
    obtain ⟨xs, hq, hx⟩ := hg
    obtain ⟨its, rv, p, hz⟩ := I.tuple (SqT.of hq)
    obtain ⟨f0, f1, f2, f3, f4, f5⟩ := hf it (by simp)
    have hl := rv.length
    have hT : s.TypeIs (.ref e) "enumerate" := ⟨_, he, rfl⟩
    unfold pyNext
    refine wpAny_bind (wpAny_attempt (wpAny_callSpecial?_slot (name := Str.ofString "__next__") hT F.slot_enumerate_next
      (wpAny_call_entry F.slot_enumerate_next hT F.entry_enumerate_next ?_ (F.args_enumerate_next_1 _))))
    show wpAny _ _ (field (.ref e) 2 >>= _) _ _ _
    refine wpAny_bind (wpAny_field he rfl (x := .ref it) rfl ?_)
    refine wpAny_bind (wpAny_nextOf_tuple_end (by show X.A.in1.handled = none; exact I.ok.hd hc) hit p (by simp; omega) fun h' x he' hx' => ?_)
    obtain ⟨o, ho, hc⟩ := hx'
    refine wpAny_bind (wpAny_isInstance (T := "StopIteration") (b := true) ⟨o, ho, hc⟩ isSubtype_stop ?_)
    exact wpAny_pure ⟨rfl, I.turned (t' := s.toks) (fun b o hb q => he' b o hb q) f0 f1 f3 f4 f5⟩
  self := fun A i s Q E st h => let ⟨⟨_, he⟩, _⟩ := st; wpAny_pyIter_enum he h
def iEnumA (K : PySem.W.Frag) (ta : TE) : TI := fun σ H R => ta σ H fun v H1 => ∃ a, v = .ref a ∧ ((∃ xs, SqL K H1 a xs ∧ (xs.length ≤ sizeLine → R (Ite K a) H1)) ∨ ∃ xs, H1 a = some (.tup xs) ∧ (xs.length ≤ sizeLine → R (IteT a) H1))
theorem pi_enumA {X : Cx} {e : Expr} {ta : TE} {p pos tpos : Pos} {elts : List Expr} {kk : Nat} (hg : Gl X "enumerate") (hm : X.mg "enumerate" = none) (ha : PE X e ta) (hs : starEach [e] X.env = (false, eval e X.env) :: starEach [] X.env := by rfl) :
    PI X (.Tuple elts kk tpos) (.Call (.Name "enumerate" p) [e] [] pos) (iEnumA X.K ta) := by
  refine ⟨fun pins s σ H R I h => ?_⟩
  have h' : tCons ta tNil σ H (fun vs H1 => ∃ v, vs = [v] ∧ ∃ a, v = .ref a ∧ ((∃ xs, SqL X.K H1 a xs ∧ (xs.length ≤ sizeLine → R (Ite X.K a) H1)) ∨ ∃ xs, H1 a = some (.tup xs) ∧ (xs.length ≤ sizeLine → R (IteT a) H1))) := by
    show ta σ H fun x H1 => ∃ v, [x] = [v] ∧ _
    have : (fun (v : V) (H1 : Hp) => ∃ a, v = V.ref a ∧ ((∃ xs, SqL X.K H1 a xs ∧ (xs.length ≤ sizeLine → R (Ite X.K a) H1)) ∨ ∃ xs, H1 a = some (.tup xs) ∧ (xs.length ≤ sizeLine → R (IteT a) H1))) = (fun (x : V) (H1 : Hp) => ∃ v, [x] = [v] ∧ ∃ a, v = .ref a ∧ ((∃ xs, SqL X.K H1 a xs ∧ (xs.length ≤ sizeLine → R (Ite X.K a) H1)) ∨ ∃ xs, H1 a = some (.tup xs) ∧ (xs.length ≤ sizeLine → R (IteT a) H1))) := by
      funext x H1
      apply propext
      constructor
      · intro q; exact ⟨x, rfl, q⟩
      · rintro ⟨v, e0, q⟩; cases e0; exact q
    rw [← this]
    exact h
  refine Call_ (ld_blt I hg hm boot_enumerate (PyProof.Rows.callWith_type1 (thn ((pa_cons ha pa_nil hs).run pos pins s σ H _ I h') fun us s1 ⟨vs, H1, I1, r1, q1⟩ => ?_) (by rw [hs]) rfl))
  obtain ⟨v, ex, a, ex2, q⟩ := q1
  subst ex ex2
  cases r1 with
  | cons r rr =>
    cases rr
    cases r
    have fp : ∀ b ∈ [s1.heap.objs.size + 1, s1.heap.objs.size], FpOk X pins H1 b := fun b hb => by
      have e' : b = s1.heap.objs.size + 1 ∨ b = s1.heap.objs.size := by simpa using hb
      have hle : s1.heap.objs.size ≤ b := by
        rcases e' with z | z
        · rw [z]; exact Nat.le_add_right _ _
        · rw [z]; exact Nat.le_refl _
      exact I1.fpOk hle (I1.hok.fresh hle)
    rcases q with ⟨xs, hq, q⟩ | ⟨xs, hq, q⟩
    · obtain ⟨its, rv, p', hz⟩ := I1.list hq
      refine call_enumerate_list p'.isList fun h' he hit hsz hk => wpAny_pyIter_enum he ?_
      have I2 : Inv X pins σ H1 { s1 with heap := h' } := I1.kept (t' := s1.toks) hk
      exact ⟨s1.heap.objs.size + 1, [s1.heap.objs.size + 1, s1.heap.objs.size], _, _, H1, rfl, I2, turn_enum a (s1.heap.objs.size + 1) s1.heap.objs.size, ⟨⟨.none, he⟩, hit, Nat.succ_ne_self _⟩, fp, q hz⟩
    · obtain ⟨its, rv, p', hz⟩ := I1.tuple (SqT.of hq)
      refine call_enumerate_tuple p' fun h' he hit hsz hk => wpAny_pyIter_enum he ?_
      have I2 : Inv X pins σ H1 { s1 with heap := h' } := I1.kept (t' := s1.toks) hk
      exact ⟨s1.heap.objs.size + 1, [s1.heap.objs.size + 1, s1.heap.objs.size], _, _, H1, rfl, I2, turn_enumT a (s1.heap.objs.size + 1) s1.heap.objs.size, ⟨⟨.none, he⟩, hit, Nat.succ_ne_self _⟩, fp, q hz⟩
/-- a list or a tuple -/
def iSeq (K : PySem.W.Frag) (tl : TE) : TI := fun σ H R => tl σ H fun x H1 => ∃ a, x = .ref a ∧ ((∃ xs, SqL K H1 a xs ∧ (xs.length ≤ sizeLine → R (Itl K a) H1)) ∨ ∃ xs, SqT K H1 a xs ∧ (xs.length ≤ sizeLine → R (Itt K a) H1))
theorem pi_seq {X : Cx} {tg l : Expr} {tl : TE} (hl : PE X l tl) : PI X tg l (iSeq X.K tl) := by
  refine ⟨fun pins s σ H R I h => ?_⟩
  refine thn (hl.run pins s σ H _ I h) fun v s1 ⟨x, H1, I1, r1, q1⟩ => ?_
  obtain ⟨a, e, q⟩ := q1
  subst e
  cases r1
  rcases q with ⟨xs, hq, q⟩ | ⟨xs, hq, q⟩
  · obtain ⟨its, rv, p, hz⟩ := I1.list hq
    refine wpAny_pyIter_list p.isList ?_
    refine ⟨s1.heap.objs.size, [s1.heap.objs.size], _, _, H1, rfl, I1.kept (t' := s1.toks) fun b o e => Heap.get?_push_of_some _ e, turn_list a _, ⟨_, Heap.get?_push_size _ rfl, rfl, rfl⟩, fun b hb => ?_, q hz⟩
    have e : b = s1.heap.objs.size := by simpa using hb
    subst e
    exact I1.fpOk (Nat.le_refl _) (I1.hok.fresh (Nat.le_refl _))
  · obtain ⟨its, rv, p, hz⟩ := I1.tuple hq
    refine wpAny_pyIter_tuple (show s1.heap.IsTuple a its.toArray from p) ?_
    refine ⟨s1.heap.objs.size, [s1.heap.objs.size], _, _, H1, rfl, I1.kept (t' := s1.toks) fun b o e => Heap.get?_push_of_some _ e, turn_tuple a _, ⟨_, Heap.get?_push_size _ rfl, rfl, rfl⟩, fun b hb => ?_, q hz⟩
    have e : b = s1.heap.objs.size := by simpa using hb
    subst e
    exact I1.fpOk (Nat.le_refl _) (I1.hok.fresh (Nat.le_refl _))
end DL
end

section
set_option Elab.async false
set_option linter.all false
set_option maxRecDepth 100000
set_option maxHeartbeats 4000000
/-! DL8: what is walked; targets; comprehensions. -/
namespace DL
open PySem PySem.Spec PyProof.Rows L2

/-- J walks ds, as long as what is among S1 stays -/
structure ItOk (mg : Mg) (J : It) (H1 : Hp) (S1 : Addr → Prop) (ds : List D) : Prop where
  go : ∀ (i : Nat) (d : D) (H : Hp) (S : Addr → Prop), ds[i]? = some d → Ext S1 H1 H → (∀ a, S1 a → S a) → J.go i H
  stop : ∀ (i : Nat) (H : Hp) (S : Addr → Prop), ds.length ≤ i → Ext S1 H1 H → (∀ a, S1 a → S a) → J.stop i H
  yld : ∀ (i : Nat) (d : D) (H : Hp) (S : Addr → Prop) (x : V) (H' : Hp), ds[i]? = some d → Ext S1 H1 H → (∀ a, S1 a → S a) → J.yld i H x H' → Same H H' ∧ View mg H' S d x
  len : ds.length ≤ sizeLine
def tI (mg : Mg) (T : Ty) (items : Rho → Option (List D)) : TI := fun σ H R => ∃ ρ S F, EnvOk mg T ρ σ H S F ∧ ∃ ds, items ρ = some ds ∧ ∀ J H1 S1, Grow H S H1 S1 → ItOk mg J H1 S1 ds → R J H1
abbrev ID (X : Cx) (T : Ty) (tg iter : Expr) (items : Rho → Option (List D)) : Prop := PI X tg iter (tI X.mg T items)
theorem PI.imp {X : Cx} {tg e : Expr} {t t' : TI} (h : PI X tg e t) (i : ∀ σ H Q, t' σ H Q → t σ H Q) : PI X tg e t' := ⟨fun pins s σ H Q I q => h.run pins s σ H Q I (i σ H Q q)⟩
section
variable {X : Cx} {T : Ty} {tg a b c e : Expr} {pos : Pos} {m m1 m2 m3 md : Md} {p q r' : Rho → Option D} {mg : Mg} {H H' : Hp} {S S' : Addr → Prop} {ρ : Rho} {σ : St} {F G : List Addr} {Q : VK} {k : Nat}
def seqD : D → Option (List D)
  | .lst ds => some ds
  | .tup ds => some ds
  | .scr ns => some (ns.map D.int)
  | _ => none
def iItems (p : Rho → Option D) : Rho → Option (List D) := fun ρ => (p ρ).bind seqD
theorem itl_ok {K : PySem.W.Frag} {ad : Addr} {xs : List V} {ds : List D} (hl : xs.length ≤ sizeLine) (rd : ∀ H2, Ext S H H2 → SqL K H2 ad xs) (w : Views mg H S ds xs) : ItOk mg (Itl K ad) H S ds where
  go := fun i d H2 S2 hd e up => by
    obtain ⟨v, hv, _⟩ := w.get hd
    exact ⟨xs, v, rd H2 e, hv⟩
  stop := fun i H2 S2 hd e up => ⟨xs, rd H2 e, by rw [w.length]; exact hd⟩
  yld := fun i d H2 S2 x H' hd e up y => by
    obtain ⟨rfl, y⟩ := y
    obtain ⟨v, hv, wv⟩ := w.get hd
    have := y xs (rd _ e)
    rw [hv] at this
    cases this
    exact ⟨Same.refl _, wv.mono e up⟩
  len := by rw [← w.length]; exact hl
theorem itt_ok {K : PySem.W.Frag} {ad : Addr} {xs : List V} {ds : List D} (hl : xs.length ≤ sizeLine) (rd : ∀ H2, Ext S H H2 → SqT K H2 ad xs) (w : Views mg H S ds xs) : ItOk mg (Itt K ad) H S ds where
  go := fun i d H2 S2 hd e up => by
    obtain ⟨v, hv, _⟩ := w.get hd
    exact ⟨xs, v, rd H2 e, hv⟩
  stop := fun i H2 S2 hd e up => ⟨xs, rd H2 e, by rw [w.length]; exact hd⟩
  yld := fun i d H2 S2 x H' hd e up y => by
    obtain ⟨rfl, y⟩ := y
    obtain ⟨v, hv, wv⟩ := w.get hd
    have := y xs (rd _ e)
    rw [hv] at this
    cases this
    exact ⟨Same.refl _, wv.mono e up⟩
  len := by rw [← w.length]; exact hl
/-- where a sequence lies, with its items shared -/
theorem seq_at {d : D} {ds : List D} {v : V} {K : PySem.W.Frag} (hs : seqD d = some ds) (w : View mg H S d v) : ∃ a xs, v = .ref a ∧ Views mg H S ds xs ∧ ((∀ H2, Ext S H H2 → SqL K H2 a xs) ∨ (∀ H2, Ext S H H2 → H2 a = some (.tup xs))) := by
  unfold seqD at hs
  split at hs
  · cases hs
    simp only [View] at w
    obtain ⟨a, xs, rfl, s, r, q⟩ := w
    exact ⟨a, xs, rfl, q, .inl fun H2 e => SqL.of (e a _ r (.inl s))⟩
  · cases hs
    simp only [View] at w
    obtain ⟨a, xs, rfl, r, q⟩ := w
    exact ⟨a, xs, rfl, q, .inr fun H2 e => e a _ r (.inr rfl)⟩
  · cases hs
    simp only [View] at w
    obtain ⟨a, o, rfl, s, r⟩ := w
    exact ⟨a, _, rfl, views_ints _, .inl fun H2 e => .inl (.inr ⟨o, e a _ r (.inl s)⟩)⟩
  · cases hs
theorem Ext.rf : Ext S H H := fun _ _ h _ => h
theorem ow0_view {H0 : Hp} {d : D} {v : V} (h : RpM mg H0 F H S (.ow 0) d v G) : View mg H S d v := by
  have := h.1
  simp only [Rep] at this
  exact this.1
theorem i_seq (h : PD X T e m p) (hl : m.le (.ow 0) = true := by rfl) : ID X T tg e (iItems p) := by
  refine PI.imp (pi_seq (PD.le h hl)) fun σ H Q ⟨ρ, S, F, E, ds, hp, z⟩ => ?_
  simp only [iItems, Option.bind_eq_some_iff] at hp
  obtain ⟨x, hx, hs⟩ := hp
  refine ⟨ρ, S, F, E, x, hx, fun v H1 S1 G g r => ?_⟩
  obtain ⟨a, xs, rfl, q, rd⟩ := seq_at (K := X.K) hs (ow0_view r)
  rcases rd with rd | rd
  · exact ⟨a, rfl, .inl ⟨xs, rd H1 Ext.rf, fun hz => z _ H1 S1 g (itl_ok hz rd q)⟩⟩
  · exact ⟨a, rfl, .inr ⟨xs, SqT.of (rd H1 Ext.rf), fun hz => z _ H1 S1 g (itt_ok hz (fun H2 e => SqT.of (rd H2 e)) q)⟩⟩
/-- enumerate -/
def enumD (n : Nat) : List D → List D
  | [] => []
  | d :: ds => .tup [.int n, d] :: enumD (n + 1) ds
theorem enumD_get : ∀ {ds : List D} {n i : Nat}, (enumD n ds)[i]? = ds[i]?.map fun d => D.tup [.int ((n + i : Nat) : Int), d]
  | [], n, i => by simp [enumD]
  | d :: ds, n, 0 => by simp [enumD]
  | d :: ds, n, i + 1 => by
    simp only [enumD, List.getElem?_cons_succ]
    rw [enumD_get (ds := ds) (n := n + 1) (i := i)]
    have e : n + 1 + i = n + (i + 1) := by omega
    rw [e]
theorem enumD_length : ∀ {ds : List D} {n : Nat}, (enumD n ds).length = ds.length
  | [], n => rfl
  | d :: ds, n => by simp [enumD, enumD_length (ds := ds)]
def iEnumD (p : Rho → Option D) : Rho → Option (List D) := fun ρ => ((p ρ).bind seqD).map (enumD 0)
theorem pair_view {H2 : Hp} {Tp : Addr} {u v : V} {x y : D} (hT : H2 Tp = none) (hx : View mg H2 S x u) (hy : View mg H2 S y v) : View mg (upd H2 Tp (.tup [u, v])) S (.tup [x, y]) (.ref Tp) := by
  have g := Same.ext (S := S) (same_upd (o := .tup [u, v]) hT)
  simp only [View, Views]
  exact ⟨Tp, [u, v], rfl, upd_same, u, [v], rfl, hx.mono g (fun _ h => h), v, [], rfl, hy.mono g (fun _ h => h), rfl⟩
theorem ite_ok {K : PySem.W.Frag} {ad : Addr} {xs : List V} {ds : List D} (hl : xs.length ≤ sizeLine) (rd : ∀ H2, Ext S H H2 → SqL K H2 ad xs) (w : Views mg H S ds xs) : ItOk mg (Ite K ad) H S (enumD 0 ds) where
  go := fun i d H2 S2 hd e up => by
    rw [enumD_get, Option.map_eq_some_iff] at hd
    obtain ⟨d', hd, _⟩ := hd
    obtain ⟨v, hv, _⟩ := w.get hd
    exact ⟨xs, v, rd H2 e, hv⟩
  stop := fun i H2 S2 hd e up => ⟨xs, rd H2 e, by rw [w.length]; rwa [enumD_length] at hd⟩
  yld := fun i d H2 S2 x H' hd e up y => by
    rw [enumD_get, Option.map_eq_some_iff] at hd
    obtain ⟨d', hd, rfl⟩ := hd
    obtain ⟨Tp, x', rfl, hT, rfl, y⟩ := y
    obtain ⟨v, hv, wv⟩ := w.get hd
    have := y xs (rd _ e)
    rw [hv] at this
    cases this
    refine ⟨same_upd hT, pair_view hT ?_ (wv.mono e up)⟩
    simp only [View, Nat.zero_add]
  len := by rw [enumD_length, ← w.length]; exact hl
theorem iteT_ok {ad : Addr} {xs : List V} {ds : List D} (hl : xs.length ≤ sizeLine) (rd : ∀ H2, Ext S H H2 → H2 ad = some (.tup xs)) (w : Views mg H S ds xs) : ItOk mg (IteT ad) H S (enumD 0 ds) where
  go := fun i d H2 S2 hd e up => by
    rw [enumD_get, Option.map_eq_some_iff] at hd
    obtain ⟨d', hd, _⟩ := hd
    obtain ⟨v, hv, _⟩ := w.get hd
    exact ⟨xs, v, rd H2 e, hv⟩
  stop := fun i H2 S2 hd e up => ⟨xs, rd H2 e, by rw [w.length]; rwa [enumD_length] at hd⟩
  yld := fun i d H2 S2 x H' hd e up y => by
    rw [enumD_get, Option.map_eq_some_iff] at hd
    obtain ⟨d', hd, rfl⟩ := hd
    obtain ⟨Tp, x', rfl, hT, rfl, y⟩ := y
    obtain ⟨v, hv, wv⟩ := w.get hd
    have := y xs (rd _ e)
    rw [hv] at this
    cases this
    refine ⟨same_upd hT, pair_view hT ?_ (wv.mono e up)⟩
    simp only [View, Nat.zero_add]
  len := by rw [enumD_length, ← w.length]; exact hl
theorem i_enum {p' pos tpos : Pos} {elts : List Expr} {kk : Nat} (hg : Gl X "enumerate") (hm : X.mg "enumerate" = none) (h : PD X T e m p) (hl : m.le (.ow 0) = true := by rfl) (hs : starEach [e] X.env = (false, eval e X.env) :: starEach [] X.env := by rfl) :
    ID X T (.Tuple elts kk tpos) (.Call (.Name "enumerate" p') [e] [] pos) (iEnumD p) := by
  refine PI.imp (pi_enumA hg hm (PD.le h hl) hs) fun σ H Q ⟨ρ, S, F, E, ds, hp, z⟩ => ?_
  simp only [iEnumD, Option.map_eq_some_iff, Option.bind_eq_some_iff] at hp
  obtain ⟨es, ⟨x, hx, hs⟩, rfl⟩ := hp
  refine ⟨ρ, S, F, E, x, hx, fun v H1 S1 G g r => ?_⟩
  obtain ⟨a, xs, rfl, q, rd⟩ := seq_at (K := X.K) hs (ow0_view r)
  rcases rd with rd | rd
  · exact ⟨a, rfl, .inl ⟨xs, rd H1 Ext.rf, fun hz => z _ H1 S1 g (ite_ok hz rd q)⟩⟩
  · exact ⟨a, rfl, .inr ⟨xs, rd H1 Ext.rf, fun hz => z _ H1 S1 g (iteT_ok hz rd q)⟩⟩
/-- range -/
def iRg1 (p : Rho → Option D) : Rho → Option (List D) := fun ρ => (p ρ).bind fun d => match d with
  | .int j => if rgOk 0 j then some (rgD 0 j) else none
  | _ => none
def iRg2 (p q : Rho → Option D) : Rho → Option (List D) := fun ρ => (p ρ).bind fun d => (q ρ).bind fun d' => match d, d' with
  | .int i, .int j => if rgOk i j then some (rgD i j) else none
  | _, _ => none
theorem rgD_get {i j : Int} {n : Nat} {d : D} (h : (rgD i j)[n]? = some d) : n < (j - i).toNat ∧ d = .int (i + n) := by
  unfold rgD at h
  rw [List.getElem?_map, Option.map_eq_some_iff] at h
  obtain ⟨x, hx, rfl⟩ := h
  obtain ⟨h1, h2⟩ := List.getElem?_eq_some_iff.mp hx
  simp at h1 h2
  exact ⟨by omega, by rw [h2]⟩
theorem rgD_length {i j : Int} : (rgD i j).length = (j - i).toNat := by simp [rgD]
theorem itr_ok {i j : Int} (hl : (j - i).toNat ≤ sizeLine) : ItOk mg (Itr i (j - i).toNat) H S (rgD i j) where
  go := fun n d H2 S2 hd e up => (rgD_get hd).1
  stop := fun n H2 S2 hd e up => by rwa [rgD_length] at hd
  yld := fun n d H2 S2 x H' hd e up y => by
    obtain ⟨rfl, rfl⟩ := y
    refine ⟨Same.refl _, ?_⟩
    rw [(rgD_get hd).2]
    simp only [View]
  len := by rw [rgD_length]; exact hl
theorem i_range1 {p' pos : Pos} (hg : Gl X "range") (hm : X.mg "range" = none) (h : PD X T a m p) (hs : starEach [a] X.env = (false, eval a X.env) :: starEach [] X.env := by rfl) (hs2 : starEach [a] X.env = [(false, eval a X.env)] := by rfl) : ID X T tg (.Call (.Name "range" p') [a] [] pos) (iRg1 p) := by
  refine PI.imp (pi_range1 hg hm (pa_cons h pa_nil hs) hs2) fun σ H Q ⟨ρ, S, F, E, ds, hp, z⟩ => ?_
  simp only [iRg1, Option.bind_eq_some_iff] at hp
  obtain ⟨x, hx, hf⟩ := hp
  split at hf
  · split at hf
    · rename_i hc
      cases hf
      obtain ⟨_, _, b3, b4, b5⟩ := rgOk_ok hc
      refine ⟨ρ, S, F, E, _, hx, fun v H1 S1 G g r => ⟨_, by rw [r.int], b3, b4, ?_⟩⟩
      have := itr_ok (mg := X.mg) (H := H1) (S := S1) (i := 0) (j := _) (Nat.le_trans b5 (by rw [sizeLine_eq]; decide))
      simp only [Int.sub_zero] at this
      exact z _ H1 S1 g this
    · cases hf
  · cases hf
theorem i_range2 {p' pos : Pos} (hg : Gl X "range") (hm : X.mg "range" = none) (h : PD X T a m p) (h' : PD X T b m1 q) (hs : starEach [a, b] X.env = (false, eval a X.env) :: starEach [b] X.env := by rfl) (hs' : starEach [b] X.env = (false, eval b X.env) :: starEach [] X.env := by rfl)
    (hs1 : starEach [a, b] X.env = [(false, eval a X.env), (false, eval b X.env)] := by rfl) (hs2 : starEach [b] X.env = [(false, eval b X.env)] := by rfl) : ID X T tg (.Call (.Name "range" p') [a, b] [] pos) (iRg2 p q) := by
  refine PI.imp (pi_range2 hg hm (pa_cons h (pa_cons h' pa_nil hs') hs) hs1 hs2) fun σ H Q ⟨ρ, S, F, E, ds, hp, z⟩ => ?_
  simp only [iRg2, Option.bind_eq_some_iff] at hp
  obtain ⟨x, hx, y, hy, hf⟩ := hp
  split at hf
  · split at hf
    · rename_i hc
      cases hf
      obtain ⟨b1, b2, b3, b4, b5⟩ := rgOk_ok hc
      refine ⟨ρ, S, F, E, _, hx, fun v H1 S1 G g r => ⟨ρ, S1, F, E.grow g, _, hy, fun v2 H2 S2 G2 g2 r2 => ⟨_, _, by rw [r.int, r2.int], ⟨b1, b2, b3, b4⟩, ?_⟩⟩⟩
      exact z _ H2 S2 (g.trans g2) (itr_ok (Nat.le_trans b5 (by rw [sizeLine_eq]; decide)))
    · cases hf
  · cases hf
/-- zip -/
def zipD : List D → List D → List D
  | x :: xs, y :: ys => .tup [x, y] :: zipD xs ys
  | _, _ => []
theorem zipD_get : ∀ {xs ys : List D} {i : Nat} {d : D}, (zipD xs ys)[i]? = some d → ∃ x y, xs[i]? = some x ∧ ys[i]? = some y ∧ d = .tup [x, y]
  | [], _, _, _, h => by simp [zipD] at h
  | _ :: _, [], _, _, h => by simp [zipD] at h
  | x :: xs, y :: ys, 0, d, h => by
    simp [zipD] at h
    exact ⟨x, y, rfl, rfl, h.symm⟩
  | x :: xs, y :: ys, i + 1, d, h => by
    simp only [zipD, List.getElem?_cons_succ] at h ⊢
    exact zipD_get h
theorem zipD_length : ∀ {xs ys : List D}, (zipD xs ys).length = min xs.length ys.length
  | [], _ => by simp [zipD]
  | _ :: _, [] => by simp [zipD]
  | x :: xs, y :: ys => by
    simp only [zipD, List.length_cons, zipD_length (xs := xs) (ys := ys)]
    omega
def iZipD (p q : Rho → Option D) : Rho → Option (List D) := fun ρ => (p ρ).bind fun x => (q ρ).bind fun y => match x, y with
  | .lst xs, .lst ys => if xs.length ≤ cap then some (zipD xs ys) else none
  | _, _ => none
theorem i_zip {p' pos tpos : Pos} {elts : List Expr} {kk : Nat} (hg : Gl X "zip") (hm : X.mg "zip" = none) (h : PD X T a m p) (h' : PD X T b m1 q) (hl : m.le (.ow 0) = true := by rfl) (hl' : m1.le (.ow 0) = true := by rfl)
    (hs : starEach [a, b] X.env = (false, eval a X.env) :: starEach [b] X.env := by rfl) (hs' : starEach [b] X.env = (false, eval b X.env) :: starEach [] X.env := by rfl) (hpl : (backTo pos (starEach [b] X.env)).any (·.1) = false := by rfl) :
    ID X T (.Tuple elts kk tpos) (.Call (.Name "zip" p') [a, b] [] pos) (iZipD p q) := by
  refine PI.imp (pi_zip hg hm (pa_cons (PD.le h hl) (pa_cons (PD.le h' hl') pa_nil hs') hs) hs hpl) fun σ H Q ⟨ρ, S, F, E, ds, hp, z⟩ => ?_
  simp only [iZipD, Option.bind_eq_some_iff] at hp
  obtain ⟨x, hx, y, hy, hf⟩ := hp
  split at hf
  · split at hf
    · rename_i hc
      cases hf
      refine ⟨ρ, S, F, E, _, hx, fun v H1 S1 G g r => ⟨ρ, S1, F, E.grow g, _, hy, fun v2 H2 S2 G2 g2 r2 => ?_⟩⟩
      have w1 := ow0_view (r.grow g2)
      have w2 := ow0_view r2
      simp only [View] at w1 w2
      obtain ⟨a1, us, rfl, s1, e1, q1⟩ := w1
      obtain ⟨a2, ws, rfl, s2, e2, q2⟩ := w2
      refine ⟨a1, a2, us, ws, rfl, SqL.of e1, SqL.of e2, z _ H2 S2 (g.trans g2) ⟨fun i d H3 S3 hd e up => ?_, fun i H3 S3 hd e up => ?_, fun i d H3 S3 x H' hd e up yy => ?_, ?_⟩⟩
      · obtain ⟨dx, dy, hdx, hdy, _⟩ := zipD_get hd
        obtain ⟨u, hu, _⟩ := q1.get hdx
        obtain ⟨w, hw, _⟩ := q2.get hdy
        exact ⟨us, ws, u, w, SqL.of (e _ _ e1 (.inl s1)), SqL.of (e _ _ e2 (.inl s2)), hu, hw⟩
      · rw [zipD_length] at hd
        refine ⟨us, ws, SqL.of (e _ _ e1 (.inl s1)), SqL.of (e _ _ e2 (.inl s2)), ?_⟩
        rw [q1.length, q2.length]
        omega
      · obtain ⟨dx, dy, hdx, hdy, rfl⟩ := zipD_get hd
        obtain ⟨u, hu, wu⟩ := q1.get hdx
        obtain ⟨w, hw, ww⟩ := q2.get hdy
        obtain ⟨Tp, x', y', rfl, hT, rfl, y1, y2⟩ := yy
        have z1 := y1 us (SqL.of (e _ _ e1 (.inl s1)))
        have z2 := y2 ws (SqL.of (e _ _ e2 (.inl s2)))
        rw [hu] at z1; cases z1
        rw [hw] at z2; cases z2
        exact ⟨same_upd hT, pair_view hT (wu.mono e up) (ww.mono e up)⟩
      · rw [zipD_length]
        exact Nat.le_trans (Nat.min_le_left _ _) (cap_le hc)
    · cases hf
  · cases hf

/-! ### targets -/
/-- all slots but those at l are as they were -/
def Agree (l : List Nat) (σ σ' : St) : Prop := σ'.length = σ.length ∧ ∀ j, j ∉ l → σ'[j]? = σ[j]?
theorem Agree.rf {l : List Nat} : Agree l σ σ := ⟨rfl, fun _ _ => rfl⟩
theorem Agree.trans {l l' : List Nat} {σ1 σ2 : St} (h : Agree l σ σ1) (h' : Agree l' σ1 σ2) : Agree (l ++ l') σ σ2 := ⟨h'.1.trans h.1, fun j hj => by
  simp only [List.mem_append, not_or] at hj
  rw [h'.2 j hj.2, h.2 j hj.1]⟩
def tG (mg : Mg) (T : Ty) (l : List Nat) (bind : D → Rho → Option Rho) : TG := fun v σ H Q => ∃ ρ S F d ρ', EnvOk mg T ρ σ H S F ∧ View mg H S d v ∧ bind d ρ = some ρ' ∧ ∀ σ', EnvOk mg T ρ' σ' H S F → Agree l σ σ' → Q σ' H
def tGs (mg : Mg) (T : Ty) (l : List Nat) (bind : List D → Rho → Option Rho) : TGs := fun vs σ H Q => ∃ ρ S F ds ρ', EnvOk mg T ρ σ H S F ∧ Views mg H S ds vs ∧ bind ds ρ = some ρ' ∧ ∀ σ', EnvOk mg T ρ' σ' H S F → Agree l σ σ' → Q σ' H
abbrev GD (X : Cx) (T : Ty) (tg : Expr) (l : List Nat) (bind : D → Rho → Option Rho) : Prop := PG X tg (tG X.mg T l bind)
abbrev GDs (X : Cx) (T : Ty) (tgs : List Expr) (l : List Nat) (bind : List D → Rho → Option Rho) : Prop := PGs X tgs (tGs X.mg T l bind)
theorem PG.imp {X : Cx} {tg : Expr} {t t' : TG} (h : PG X tg t) (i : ∀ v σ H Q, t' v σ H Q → t v σ H Q) : PG X tg t' := ⟨fun pins s σ H v u Q I r q => h.run pins s σ H v u Q I r (i v σ H Q q)⟩
theorem PGs.imp {X : Cx} {tg : List Expr} {t t' : TGs} (h : PGs X tg t) (i : ∀ v σ H Q, t' v σ H Q → t v σ H Q) : PGs X tg t' := ⟨fun pins s σ H v u Q I r q => h.run pins s σ H v u Q I r (i v σ H Q q)⟩
/-- slot i is not among those that keep their value -/
def Ty.free (T : Ty) (i : Nat) : Bool := T.io.all fun p => p != i
theorem Ty.free_ne {T : Ty} {i : Nat} (h : T.free i = true) : ∀ p ∈ T.io, p ≠ i := fun p hp => by
  have := List.all_eq_true.mp h p hp
  simpa using this
theorem Slots.set0 : ∀ {ρ : Rho} {ks : List Nat} {σ : St} {F : List Addr} {i : Nat} {x : Option D} {o : Option V}, Slots mg H S ρ ks σ F → ks[i]? = some 0 → SlotOk mg H S x 0 o [] → Slots mg H S (ρ.set i x) ks (σ.set i o) F
  | [], _, _, _, _, _, _, h, _, _ => by
    simp only [Slots] at h
    obtain ⟨rfl, rfl⟩ := h
    simp [Slots]
  | _ :: _, [], _, _, _, _, _, h, _, _ => by simp only [Slots] at h
  | y :: r, k :: ks, σ, F, 0, x, o, h, e, z => by
    simp only [Slots] at h
    obtain ⟨o', q, G1, G2, rfl, rfl, h1, h2⟩ := h
    simp at e; subst e
    simp only [List.set_cons_zero, Slots]
    have e1 : G1 = [] := by
      cases y with
      | none => exact h1
      | some d =>
        obtain ⟨v, _, r⟩ := h1
        simp only [Rep] at r
        exact r.2
    subst e1
    exact ⟨o, q, [], G2, rfl, rfl, z, h2⟩
  | y :: r, k :: ks, σ, F, i + 1, x, o, h, e, z => by
    simp only [Slots] at h
    obtain ⟨o', q, G1, G2, rfl, rfl, h1, h2⟩ := h
    simp only [List.set_cons_succ, Slots]
    exact ⟨o', q.set i o, G1, G2, rfl, rfl, h1, Slots.set0 h2 (by simpa using e) z⟩
theorem EnvOk.set0 {i : Nat} {x : Option D} {o : Option V} (E : EnvOk mg T ρ σ H S F) (hk : T.ks[i]? = some 0) (hf : T.free i = true) (z : SlotOk mg H S x 0 o []) : EnvOk mg T (ρ.set i x) (σ.set i o) H S F :=
  ⟨E.slots.set0 hk z, E.nodup, E.apart, E.dom, fun p hp => by rw [List.getElem?_set_ne (Ne.symm (Ty.free_ne hf p hp))]; exact E.io p hp⟩
theorem slot0 {d : D} {v : V} (w : View mg H S d v) : SlotOk mg H S (some d) 0 (some v) [] := ⟨v, rfl, by simp only [Rep]; exact ⟨w, trivial⟩⟩
theorem agree_set {i : Nat} {o : Option V} : Agree [i] σ (σ.set i o) := ⟨by simp, fun j hj => by
  have : i ≠ j := fun e => hj (by simp [e])
  rw [List.getElem?_set_ne this]⟩
def bName (i : Nat) : D → Rho → Option Rho := fun d ρ => some (ρ.set i (some d))
theorem g_nm (i : Nat) {x : Str} {pos : Pos} (hN : X.N.Nodup) (hi : X.N[i]? = some x := by rfl) (hx : Loc X.env.scope x := by first | exact Or.inl rfl | exact Or.inr rfl) (hk : T.ks[i]? = some 0 := by rfl) (hf : T.free i = true := by rfl)
    (hfn : X.fn x = true ∨ X.env.scope.names.lookup x = some .local := by first | exact .inl rfl | exact .inr rfl) : GD X T (.Name x pos) [i] (bName i) := by
  refine PG.imp (pg_name hN hi hx hfn) fun v σ H Q ⟨ρ, S, F, d, ρ', E, w, hb, z⟩ => ?_
  cases hb
  exact z _ (E.set0 hk hf (slot0 w)) agree_set
def bsNil : List D → Rho → Option Rho := fun ds ρ => match ds with
  | [] => some ρ
  | _ => none
def bsCons (b : D → Rho → Option Rho) (bs : List D → Rho → Option Rho) : List D → Rho → Option Rho := fun ds ρ => match ds with
  | d :: ds => (b d ρ).bind (bs ds)
  | [] => none
def bTup (bs : List D → Rho → Option Rho) : D → Rho → Option Rho := fun d ρ => match d with
  | .tup ds => bs ds ρ
  | _ => none
theorem gs_nil : GDs X T [] [] bsNil := PGs.imp pgs_nil fun vs σ H Q ⟨ρ, S, F, ds, ρ', E, w, hb, z⟩ => by
  unfold bsNil at hb
  split at hb
  · cases hb
    simp only [Views] at w
    exact ⟨w, z σ E Agree.rf⟩
  · cases hb
theorem gs_cons {tgs : List Expr} {l l' : List Nat} {bd : D → Rho → Option Rho} {bs : List D → Rho → Option Rho} (h : GD X T e l bd) (hr : GDs X T tgs l' bs) (hs : (assignEach (e :: tgs) X.env).map (·.2) = assign e X.env :: (assignEach tgs X.env).map (·.2) := by rfl) : GDs X T (e :: tgs) (l ++ l') (bsCons bd bs) := by
  refine PGs.imp (pgs_cons h hr hs) fun vs σ H Q ⟨ρ, S, F, ds, ρ', E, w, hb, z⟩ => ?_
  unfold bsCons at hb
  split at hb
  · simp only [Option.bind_eq_some_iff] at hb
    obtain ⟨ρ1, h1, h2⟩ := hb
    simp only [Views] at w
    obtain ⟨v, r, rfl, w1, w2⟩ := w
    exact ⟨v, r, rfl, ρ, S, F, _, ρ1, E, w1, h1, fun σ1 E1 a1 => ⟨ρ1, S, F, _, ρ', E1, w2, h2, fun σ2 E2 a2 => z σ2 E2 (a1.trans a2)⟩⟩
  · cases hb
theorem g_tup {es : List Expr} {kk : Nat} {l : List Nat} {bs : List D → Rho → Option Rho} {n : Nat} (hc : X.calm = true) (h : GDs X T es l bs) (hlen : ∀ ds ρ ρ', bs ds ρ = some ρ' → ds.length = n) (hn : (assignEach es X.env).length = n := by rfl) (hst : (assignEach es X.env).findIdx? (·.1) = none := by rfl) :
    GD X T (.Tuple es kk pos) l (bTup bs) := by
  refine PG.imp (pg_tup hc h hn hst) fun v σ H Q ⟨ρ, S, F, d, ρ', E, w, hb, z⟩ => ?_
  unfold bTup at hb
  split at hb
  · simp only [View] at w
    obtain ⟨a, xs, rfl, r, q⟩ := w
    exact ⟨a, xs, rfl, SqT.of r, by rw [q.length]; exact hlen _ _ _ hb, ρ, S, F, _, ρ', E, q, hb, z⟩
  · cases hb
theorem bs_len0 : ∀ ds ρ ρ', bsNil ds ρ = some ρ' → ds.length = 0 := fun ds ρ ρ' h => by
  unfold bsNil at h
  split at h
  · rfl
  · cases h
theorem bs_lenS {bd : D → Rho → Option Rho} {bs : List D → Rho → Option Rho} {n : Nat} (h : ∀ ds ρ ρ', bs ds ρ = some ρ' → ds.length = n) : ∀ ds ρ ρ', bsCons bd bs ds ρ = some ρ' → ds.length = n + 1 := fun ds ρ ρ' hb => by
  unfold bsCons at hb
  split at hb
  · simp only [Option.bind_eq_some_iff] at hb
    obtain ⟨ρ1, h1, h2⟩ := hb
    rw [List.length_cons, h _ _ _ h2]
  · cases hb
end
end DL
end

section
set_option Elab.async false
set_option linter.all false
set_option maxRecDepth 100000
set_option maxHeartbeats 4000000
/-! DL9: comprehensions that change nothing. -/
namespace DL
open PySem PySem.Spec PyProof.Rows L2

def wipeR (ρ : Rho) : List Nat → Rho
  | [] => ρ
  | v :: vs => (wipeR ρ vs).set v none
/-- slots that own nothing and are free -/
def Ty.own0 (T : Ty) (ws : List Nat) : Bool := ws.all fun i => (T.ks[i]? == some 0) && T.free i
section
variable {X : Cx} {T : Ty} {tg a b c e elt iter : Expr} {pos : Pos} {m m1 m2 m3 md : Md} {p q r' : Rho → Option D} {mg : Mg} {H H' : Hp} {S S' : Addr → Prop} {ρ : Rho} {σ : St} {F G : List Addr} {Q : VK} {k : Nat}
theorem EnvOk.wipe (E : EnvOk mg T ρ σ H S F) : ∀ {ws : List Nat}, T.own0 ws = true → EnvOk mg T (wipeR ρ ws) (L2.wipe σ ws) H S F
  | [], _ => E
  | v :: vs, h => by
    simp only [Ty.own0, List.all_cons, Bool.and_eq_true] at h
    have ih := E.wipe (ws := vs) (by simpa [Ty.own0] using h.2)
    have hk : T.ks[v]? = some 0 := by simpa using h.1.1
    exact ih.set0 hk h.1.2 rfl
theorem agree_wipe {l : List Nat} {σ σ' : St} (h : Agree l σ σ') : ∀ {ws : List Nat}, (∀ j ∈ l, j ∈ ws) → L2.wipe σ' ws = L2.wipe σ ws := fun {ws} hs => by
  apply List.ext_getElem?
  intro j
  by_cases hj : j ∈ ws
  · have w : ∀ (τ : St) (vs : List Nat), j ∈ vs → j < τ.length → (L2.wipe τ vs)[j]? = some none := by
      intro τ vs
      induction vs with
      | nil => intro h; simp at h
      | cons v vs ih =>
        intro hv hl
        unfold L2.wipe
        by_cases e : v = j
        · subst e
          rw [List.getElem?_set_self (by rw [wipe_length]; exact hl)]
        · rw [List.getElem?_set_ne e]
          exact ih (by rcases List.mem_cons.mp hv with q | q; exact absurd q.symm e; exact q) hl
    by_cases hl : j < σ.length
    · rw [w σ' ws hj (by rw [h.1]; exact hl), w σ ws hj hl]
    · rw [List.getElem?_eq_none (by rw [wipe_length, h.1]; omega), List.getElem?_eq_none (by rw [wipe_length]; omega)]
  · have w : ∀ (τ : St) (vs : List Nat), j ∉ vs → (L2.wipe τ vs)[j]? = τ[j]? := by
      intro τ vs
      induction vs with
      | nil => intro _; rfl
      | cons v vs ih =>
        intro hv
        simp only [List.mem_cons, not_or] at hv
        unfold L2.wipe
        rw [List.getElem?_set_ne (Ne.symm hv.1)]
        exact ih hv.2
    rw [w σ' ws hj, w σ ws hj, h.2 j (fun z => hj (hs j z))]
theorem wipe_idem {ws : List Nat} : L2.wipe (L2.wipe σ ws) ws = L2.wipe σ ws := by
  apply List.ext_getElem?
  intro j
  have w1 : ∀ (τ : St) (vs : List Nat), j ∈ vs → j < τ.length → (L2.wipe τ vs)[j]? = some none := by
    intro τ vs
    induction vs with
    | nil => intro h; simp at h
    | cons v vs ih =>
      intro hv hl
      unfold L2.wipe
      by_cases e : v = j
      · subst e
        rw [List.getElem?_set_self (by rw [wipe_length]; exact hl)]
      · rw [List.getElem?_set_ne e]
        exact ih (by rcases List.mem_cons.mp hv with q | q; exact absurd q.symm e; exact q) hl
  have w2 : ∀ (τ : St) (vs : List Nat), j ∉ vs → (L2.wipe τ vs)[j]? = τ[j]? := by
    intro τ vs
    induction vs with
    | nil => intro _; rfl
    | cons v vs ih =>
      intro hv
      simp only [List.mem_cons, not_or] at hv
      unfold L2.wipe
      rw [List.getElem?_set_ne (Ne.symm hv.1)]
      exact ih hv.2
  by_cases hj : j ∈ ws
  · by_cases hl : j < σ.length
    · rw [w1 _ ws hj (by rw [wipe_length]; exact hl), w1 _ ws hj hl]
    · rw [List.getElem?_eq_none (by rw [wipe_length, wipe_length]; omega), List.getElem?_eq_none (by rw [wipe_length]; omega)]
  · rw [w2 _ ws hj]
def compL (f : D → Option (Option D)) : List D → Option (List D)
  | [] => some []
  | d :: ds => (f d).bind fun o => (compL f ds).map fun r => match o with
    | some x => x :: r
    | none => r
theorem compL_length {f : D → Option (Option D)} : ∀ {ds : List D} {r : List D}, compL f ds = some r → r.length ≤ ds.length
  | [], r, h => by simp [compL] at h; subst h; simp
  | d :: ds, r, h => by
    simp only [compL, Option.bind_eq_some_iff, Option.map_eq_some_iff] at h
    obtain ⟨o, _, r', h', rfl⟩ := h
    have := compL_length h'
    cases o <;> simp <;> omega
def tbY : Rho → Option Bool := fun _ => some true
/-- one turn of a comprehension -/
def compF (ρ : Rho) (ws : List Nat) (bind : D → Rho → Option Rho) (tb : Rho → Option Bool) (p : Rho → Option D) : D → Option (Option D) := fun d => (bind d (wipeR ρ ws)).bind fun ρ1 => (tb ρ1).bind fun b => if b = true then (p ρ1).map some else some none
def eComp (ws : List Nat) (items : Rho → Option (List D)) (bind : D → Rho → Option Rho) (tb : Rho → Option Bool) (p : Rho → Option D) : Rho → Option D := fun ρ => (items ρ).bind fun ds => (compL (compF ρ ws bind tb p) ds).map D.lst
abbrev TDs (X : Cx) (T : Ty) (ifs : List Expr) (tb : Rho → Option Bool) : Prop := PTs X ifs (tT X.mg T tb)
theorem PTs.imp {X : Cx} {ifs : List Expr} {t t' : TT} (h : PTs X ifs t) (i : ∀ σ H Q, t' σ H Q → t σ H Q) : PTs X ifs t' := ⟨fun pins s σ H Q I q => h.run pins s σ H Q I (i σ H Q q)⟩
theorem t_none : TDs X T [] tbY := PTs.imp pts_nil fun σ H Q ⟨ρ, S, F, E, b, hb, z⟩ => by cases hb; exact z H S E.rf
theorem t_one {tb : Rho → Option Bool} (h : TD X T c tb) : TDs X T [c] tb := pts_one h
theorem Grow.out {Dl : Addr} {o : HO} (g : Grow H S H' S') (e : H Dl = some o) (h : ¬ S Dl) : ¬ S' Dl := fun q => by
  rcases g.new _ q with q | q
  · exact h q
  · rw [e] at q
    exact nomatch q.1
theorem Grow.outs {ds : List D} {vs : List V} (g : Grow H S H' S') (r : Reps mg H S ds k vs G) {a : Addr} (ha : a ∈ G) (h : ¬ S a) : ¬ S' a := by
  obtain ⟨o, e, _⟩ := r.mo a ha
  exact g.out e h
theorem Grow.put {H0 : Hp} {S0 : Addr → Prop} {Dl : Addr} {o : HO} (g : Grow H0 S0 H S) (hn : H0 Dl = none) : Grow H0 S0 (upd H Dl o) S :=
  ⟨fun b x e => by rw [upd_ne (ne_of_none e hn)]; exact g.same b x e, g.up, fun a s => (g.new a s).imp id fun z => ⟨z.1, by
    by_cases e : a = Dl
    · subst e; rw [upd_same]; exact fun z => nomatch z
    · rw [upd_ne e]; exact z.2⟩, g.dom⟩
theorem ext_put {Dl : Addr} {o : HO} (h : ¬ S Dl) (hl : ∀ o', H Dl = some o' → isTup o' = false) : Ext S H (upd H Dl o) := fun a x e q => by
  by_cases ea : a = Dl
  · subst ea
    rcases q with q | q
    · exact absurd q h
    · rw [hl x e] at q; cases q
  · rw [upd_ne ea]; exact e
theorem EnvOk.put {Dl : Addr} {o : HO} {xs : List V} (E : EnvOk mg T ρ σ H S F) (hD : H Dl = some (.lst xs)) (hs : ¬ S Dl) (hf : Dl ∉ F) : EnvOk mg T ρ σ (upd H Dl o) S F :=
  ⟨E.slots.mono (fun _ h => h) (ext_put (fun z => z.elim hs hf) fun o' e => by rw [hD] at e; cases e; rfl), E.nodup, E.apart, fun a h => by
    by_cases e : a = Dl
    · subst e; exact absurd h hs
    · rw [upd_ne e]; exact E.dom a h, E.io⟩
theorem comp_rd {items : Rho → Option (List D)} {bind : D → Rho → Option Rho} {tb : Rho → Option Bool} {l ws : List Nat} (mg : Mg) (k : Nat) (hw : T.own0 ws = true) (hls : ∀ j ∈ l, j ∈ ws) : ∀ σ H Q, tP mg T (.ow (k + 1)) (eComp ws items bind tb p) σ H Q → tLc (tI mg T items) (tG mg T l bind) (tT mg T tb) (tP mg T (.ow k) p) ws σ H Q := by
  intro σ H Q ⟨ρ, S, F, E, d, hp, z⟩
  simp only [eComp, Option.bind_eq_some_iff, Option.map_eq_some_iff] at hp
  obtain ⟨ds, hds, total, hc, rfl⟩ := hp
  refine ⟨ρ, S, F, E, ds, hds, fun J H1 S1 g1 it Dl hD => ?_⟩
  have H0D : H Dl = none := g1.same.free hD
  refine ⟨fun i mm H2 => mm = ds.length - i ∧ i ≤ ds.length ∧ ∃ S2 G accD accV rest, Grow H1 S1 H2 S2 ∧ EnvOk mg T (wipeR ρ ws) (L2.wipe σ ws) H2 S2 F ∧ Reps mg H2 S2 accD k accV G ∧ G.Nodup ∧ (∀ a ∈ G, H a = none ∧ ¬ S2 a ∧ a ≠ Dl) ∧ ¬ S2 Dl ∧ Dl ∉ F ∧ H2 Dl = some (.lst accV) ∧
      compL (compF ρ ws bind tb p) (ds.drop i) = some rest ∧ accD ++ rest = total ∧ accD.length ≤ i, ⟨ds.length, by simp, Nat.zero_le _, S1, [], [], [], total, ?_, ?_, ?_, by simp, by simp, ?_, ?_, upd_same, by simpa using hc, rfl, Nat.le_refl _⟩, ?_⟩
  · exact (Grow.refl g1.dom').laid hD
  · exact ((E.grow g1).wipe hw).grow ((Grow.refl g1.dom').laid hD)
  · simp only [Reps]; exact ⟨trivial, trivial⟩
  · exact fun z => g1.dom' _ z hD
  · intro z
    obtain ⟨o, e, _⟩ := E.mo _ z
    rw [H0D] at e; cases e
  · rintro i mm H2 ⟨rfl, hi, S2, G, accD, accV, rest, g2, E2, r2, n2, f2, sD, fD, eD, hrest, htot, hal⟩
    have e12 : Ext S1 H1 H2 := Same.ext g2.same
    by_cases hlt : i < ds.length
    · have hd : ds[i]? = some ds[i] := List.getElem?_eq_getElem hlt
      have hdrop : ds.drop i = ds[i] :: ds.drop (i + 1) := List.drop_eq_getElem_cons hlt
      rw [hdrop] at hrest
      simp only [compL, Option.bind_eq_some_iff, Option.map_eq_some_iff] at hrest
      obtain ⟨o, ho, rest', hrest', hr⟩ := hrest
      refine .inr ⟨it.go i _ H2 S2 hd e12 g2.up, fun H' => ∃ S2 G accD accV rest, Grow H1 S1 H' S2 ∧ EnvOk mg T (wipeR ρ ws) (L2.wipe σ ws) H' S2 F ∧ Reps mg H' S2 accD k accV G ∧ G.Nodup ∧ (∀ a ∈ G, H a = none ∧ ¬ S2 a ∧ a ≠ Dl) ∧ ¬ S2 Dl ∧ Dl ∉ F ∧ H' Dl = some (.lst accV) ∧
        compL (compF ρ ws bind tb p) (ds.drop (i + 1)) = some rest ∧ accD ++ rest = total ∧ accD.length ≤ i + 1, fun H' h => ⟨ds.length - (i + 1), by omega, rfl, hlt, h⟩, fun x H3 y => ?_⟩
      obtain ⟨s23, wx⟩ := it.yld i _ H2 S2 x H3 hd e12 g2.up y
      have g23 : Grow H2 S2 H3 S2 := ⟨s23, fun _ h => h, fun _ h => .inl h, g2.dom'⟩
      simp only [compF, Option.bind_eq_some_iff] at ho
      obtain ⟨ρ1, hb, b, htb, ho⟩ := ho
      refine ⟨wipeR ρ ws, S2, F, ds[i], ρ1, E2.grow g23, wx, hb, fun σ1 E3 ag => ⟨?_, ρ1, S2, F, E3, b, htb, fun H4 S4 g34 => ?_⟩⟩
      · rw [agree_wipe ag hls, wipe_idem]
      · have g24 := g23.trans g34
        have E4 := (E2.grow g23).grow g34
        have r4 := r2.mono g24.up (Same.ext g24.same)
        have sD4 : ¬ S4 Dl := g24.out eD sD
        have f4 : ∀ a ∈ G, H a = none ∧ ¬ S4 a ∧ a ≠ Dl := fun a ha => ⟨(f2 a ha).1, g24.outs r2 ha (f2 a ha).2.1, (f2 a ha).2.2⟩
        have eD4 := g24.same _ _ eD
        cases b with
        | false =>
          have : o = none := by simpa using ho.symm
          subst this
          simp only [Bool.false_eq_true, if_false]
          exact ⟨S4, G, accD, accV, rest', g2.trans g24, E4, r4, n2, f4, sD4, fD, eD4, hrest', by rw [← htot, ← hr], by omega⟩
        | true =>
          simp only [if_true, Option.map_eq_some_iff] at ho
          obtain ⟨dx, hdx, rfl⟩ := ho
          simp only [if_true]
          refine ⟨ρ1, S4, F, E3.grow g34, dx, hdx, fun v H5 S5 G5 g45 r5 => ?_⟩
          have g25 := g24.trans g45
          have eD5 := g45.same _ _ eD4
          have sD5 : ¬ S5 Dl := g45.out eD4 sD4
          obtain ⟨q5, n5, f5⟩ := r5
          have r4' := r4.mono g45.up (Same.ext g45.same)
          have dis : ∀ a ∈ G, ∀ b ∈ G5, a ≠ b := fun a ha b hb e => by
            obtain ⟨o, eo, _⟩ := r4.mo a ha
            rw [e, (f5 b hb).1] at eo; cases eo
          have nD5 : Dl ∉ G5 := fun q => by rw [(f5 _ q).1] at eD4; cases eD4
          have nDG : Dl ∉ G := fun q => (f2 _ q).2.2 rfl
          have rr : Reps mg H5 S5 (accD ++ [dx]) k (accV ++ [v]) (G ++ G5) := r4'.append (by
            simp only [Reps]
            exact ⟨v, [], G5, [], rfl, by simp, q5, rfl, rfl⟩)
          refine ⟨accV, eD5, ?_, S5, G ++ G5, accD ++ [dx], accV ++ [v], rest', (g2.trans g25).put hD, (E4.grow g45).put eD5 sD5 fD, ?_, List.nodup_append.mpr ⟨n2, n5, dis⟩, fun a ha => ?_, sD5, fD, upd_same, hrest', ?_, ?_⟩
          · rw [r2.length]
            exact Nat.lt_of_le_of_lt hal (Nat.lt_of_lt_of_le hlt it.len)
          · refine rr.mono (fun _ h => h) (ext_put (fun q => ?_) fun o' e => by rw [eD5] at e; cases e; rfl)
            rcases q with q | q
            · exact sD5 q
            · rcases List.mem_append.mp q with q | q
              · exact nDG q
              · exact nD5 q
          · rcases List.mem_append.mp ha with ha | ha
            · exact ⟨(f4 a ha).1, g45.outs r4 ha (f4 a ha).2.1, (f4 a ha).2.2⟩
            · exact ⟨g1.same.free (g2.same.free (g24.same.free (f5 a ha).1)), (f5 a ha).2, fun e => nD5 (e ▸ ha)⟩
          · rw [← htot, ← hr, List.append_assoc]; rfl
          · rw [List.length_append]; simp; omega
    · have hi' : i = ds.length := by omega
      subst hi'
      simp only [List.drop_length, compL, Option.some.injEq] at hrest
      subst hrest
      simp only [List.append_nil] at htot
      subst htot
      refine .inl ⟨it.stop _ H2 S2 (Nat.le_refl _) e12 g2.up, z _ H2 S2 (Dl :: G) (g1.trans g2) ⟨?_, ?_, fun a ha => ?_⟩⟩
      · simp only [Rep]
        exact ⟨Dl, accV, G, rfl, eD, rfl, r2⟩
      · exact List.nodup_cons.mpr ⟨fun q => (f2 _ q).2.2 rfl, n2⟩
      · rcases List.mem_cons.mp ha with rfl | ha
        · exact ⟨H0D, sD⟩
        · exact ⟨(f2 a ha).1, (f2 a ha).2.1⟩
theorem d_comp {ifs : List Expr} {scope : Scope} {own : List (Str × Nat)} {items : Rho → Option (List D)} {bind : D → Rho → Option Rho} {tb : Rho → Option Bool} {l : List Nat} (k : Nat) (hc : X.calm = true) (hN : X.N.Nodup) (hi : ID X T tg iter items) (ok : BlkOk X.N X.env.scope scope own)
    (hg : ∀ (s : Shared) (H : Hp) (C : Addr) (cl : List (Str × Addr)) (fp : List Addr), GD (X.blk s H scope (compEnvC scope cl C X.env) fp) T tg l bind)
    (ht : ∀ (s : Shared) (H : Hp) (C : Addr) (cl : List (Str × Addr)) (fp : List Addr), TDs (X.blk s H scope (compEnvC scope cl C X.env) fp) T ifs tb)
    (he : ∀ (s : Shared) (H : Hp) (C : Addr) (cl : List (Str × Addr)) (fp : List Addr), PD (X.blk s H scope (compEnvC scope cl C X.env) fp) T elt m p)
    (hl : m.le (.ow k) = true := by rfl) (hw : T.own0 (own.map (·.2)) = true := by rfl) (hls : ∀ j ∈ l, j ∈ own.map (·.2) := by decide)
    (hs : ∀ x, foldedSetIterable iter X.env x = pure x := by intro _; rfl) :
    PD X T (.ListComp elt [⟨tg, iter, ifs, 0⟩] scope pos) (.ow (k + 1)) (eComp (own.map (·.2)) items bind tb p) := by
  refine PE.imp (pe_lc (g := tG X.mg T l bind) (tt := tT X.mg T tb) (te := tP X.mg T (.ow k) p) hc hN hi ok hg ht (fun s H C cl fp => PD.le (he s H C cl fp) hl) hs) (comp_rd X.mg k hw hls)
end
end DL
end

section
set_option Elab.async false
set_option linter.all false
set_option maxRecDepth 100000
set_option maxHeartbeats 4000000
/-! DL10: what changes slots: the effectful judgement; slots taken out and given back; parts of a slot. -/
namespace DL
open PySem PySem.Spec PyProof.Rows L2

/-- behind steps that may change what lies at F: F2 is what is owned then -/
structure Aft (H : Hp) (S : Addr → Prop) (F : List Addr) (H' : Hp) (S' : Addr → Prop) (F2 : List Addr) : Prop where
  kp : ∀ a o, H a = some o → a ∉ F → H' a = some o
  there : ∀ a, H a ≠ none → H' a ≠ none
  up : ∀ a, S a → S' a
  new : ∀ a, S' a → S a ∨ a ∈ F ∨ (H a = none ∧ H' a ≠ none)
  dom : ∀ a, S a → H a ≠ none
  sub : ∀ a, a ∈ F2 → a ∈ F ∨ H a = none
  own : ∀ a, a ∈ F2 → H' a ≠ none
section
variable {mg : Mg} {H H' H1 H2 : Hp} {S S' S1 S2 : Addr → Prop} {T : Ty} {ρ : Rho} {σ : St} {F F1 F2 F3 G : List Addr} {k : Nat} {d : D} {v : V}
theorem Aft.of_grow (g : Grow H S H' S') (hs : ∀ a, a ∈ F2 → a ∈ F ∨ H a = none) (ho : ∀ a, a ∈ F2 → H' a ≠ none) : Aft H S F H' S' F2 :=
  ⟨fun a o e _ => g.same a o e, fun a h => Same.some g.same h, g.up, fun a h => (g.new a h).imp id .inr, g.dom, hs, ho⟩
theorem Aft.back (A : Aft H S F H1 S1 F1) {a : Addr} (h : H1 a = none) : H a = none := by
  by_cases z : H a = none
  · exact z
  · exact absurd h (A.there a z)
theorem Aft.trans (A : Aft H S F H1 S1 F1) (B : Aft H1 S1 F1 H2 S2 F2) : Aft H S F H2 S2 F2 := by
  refine ⟨fun a o e n => B.kp a o (A.kp a o e n) fun z => ?_, fun a h => B.there a (A.there a h), fun a h => B.up a (A.up a h), fun a h => ?_, A.dom, fun a h => ?_, B.own⟩
  · rcases A.sub a z with q | q
    · exact n q
    · rw [e] at q; cases q
  · rcases B.new a h with h | h | h
    · rcases A.new a h with h | h | h
      · exact .inl h
      · exact .inr (.inl h)
      · exact .inr (.inr ⟨h.1, B.there a h.2⟩)
    · rcases A.sub a h with q | q
      · exact .inr (.inl q)
      · exact .inr (.inr ⟨q, B.there a (A.own a h)⟩)
    · exact .inr (.inr ⟨A.back h.1, h.2⟩)
  · rcases B.sub a h with h | h
    · exact A.sub a h
    · exact .inr (A.back h)
/-- more was owned, and wasn't touched -/
theorem Aft.frame (A : Aft H S F1 H1 S1 F2) (hp : ∀ a, a ∈ F1 → a ∈ F) (h3 : ∀ a, a ∈ F3 → a ∈ F2 ∨ a ∈ F) (hF : ∀ a, a ∈ F → H a ≠ none) : Aft H S F H1 S1 F3 :=
  ⟨fun a o e n => A.kp a o e fun z => n (hp a z), A.there, A.up, fun a h => by
    rcases A.new a h with h | h | h
    · exact .inl h
    · exact .inr (.inl (hp a h))
    · exact .inr (.inr h), A.dom, fun a h => by
    rcases h3 a h with h | h
    · exact (A.sub a h).imp (hp a) id
    · exact .inl h, fun a h => by
    rcases h3 a h with h | h
    · exact A.own a h
    · exact A.there a (hF a h)⟩
theorem EnvOk.own (E : EnvOk mg T ρ σ H S F) : ∀ a, a ∈ F → H a ≠ none := fun a h => by
  obtain ⟨o, e, _⟩ := E.mo a h
  rw [e]; exact fun z => nomatch z
theorem EnvOk.aft (E : EnvOk mg T ρ σ H S F) : Aft H S F H S F := Aft.of_grow E.rf (fun _ h => .inl h) E.own
theorem Rep.own (r : Rep mg H S d k v G) : ∀ a, a ∈ G → H a ≠ none := fun a h => by
  obtain ⟨o, e, _⟩ := r.mo a h
  rw [e]; exact fun z => nomatch z
theorem Reps.own {ds : List D} {vs : List V} (r : Reps mg H S ds k vs G) : ∀ a, a ∈ G → H a ≠ none := fun a h => by
  obtain ⟨o, e, _⟩ := r.mo a h
  rw [e]; exact fun z => nomatch z
/-- what lies beside F stays: an Ext -/
theorem Aft.ext (A : Aft H S F H1 S1 F1) (hm : ∀ a, a ∈ F → ∃ o, H a = some o ∧ Mo o = true) {P : Addr → Prop} (h : ∀ a, P a → a ∉ F) : Ext P H H1 := fun a o e q => by
  refine A.kp a o e fun z => ?_
  rcases q with q | q
  · exact h a q z
  · obtain ⟨o', e', m⟩ := hm a z
    rw [e] at e'; cases e'
    rw [not_tup_of_Mo m] at q; cases q
/-- what waits beside steps that change F -/
theorem Reps.wait {ds : List D} {vs : List V} (r : Reps mg H S ds k vs G) (A : Aft H S F H1 S1 F1) (hm : ∀ a, a ∈ F → ∃ o, H a = some o ∧ Mo o = true) (hs : ∀ a, a ∈ F → ¬ S a) (hG : ∀ a, a ∈ G → a ∉ F) : Reps mg H1 S1 ds k vs G :=
  r.mono A.up (A.ext hm fun a q => q.elim (fun q z => hs a z q) (hG a))
theorem Rep.wait (r : Rep mg H S d k v G) (A : Aft H S F H1 S1 F1) (hm : ∀ a, a ∈ F → ∃ o, H a = some o ∧ Mo o = true) (hs : ∀ a, a ∈ F → ¬ S a) (hG : ∀ a, a ∈ G → a ∉ F) : Rep mg H1 S1 d k v G :=
  r.mono A.up (A.ext hm fun a q => q.elim (fun q z => hs a z q) (hG a))
theorem Aft.outs (A : Aft H S F H1 S1 F1) {a : Addr} (h1 : H a ≠ none) (h2 : ¬ S a) (h3 : a ∉ F) : ¬ S1 a := fun q => by
  rcases A.new a q with q | q | q
  · exact h2 q
  · exact h3 q
  · exact h1 q.1

/-! ### a slot taken out, and given back -/
theorem Slots.length' : ∀ {ρ : Rho} {ks : List Nat} {σ : St} {F : List Addr}, Slots mg H S ρ ks σ F → ρ.length ≤ ks.length
  | [], _, _, _, _ => by simp
  | _ :: _, [], _, _, h => by simp only [Slots] at h
  | x :: r, k :: ks, σ, F, h => by
    simp only [Slots] at h
    obtain ⟨o, q, G1, G2, rfl, rfl, h1, h2⟩ := h
    simp [h2.length']
theorem EnvOk.take {i : Nat} (E : EnvOk mg T ρ σ H S F) (hx : ρ[i]? = some (some d)) : ∃ k v G F', T.ks[i]? = some k ∧ σ[i]? = some (some v) ∧ Rep mg H S d k v G ∧ EnvOk mg T (ρ.set i none) σ H S F' ∧ (G ++ F').Nodup ∧ ∀ a, a ∈ F ↔ a ∈ G ∨ a ∈ F' := by
  obtain ⟨k, o, A, B, C, ek, eo, rfl, ⟨v, rfl, r⟩, z⟩ := E.slots.focus hx
  have q := z H S none (some v) [] (fun _ h => h) (fun a o e _ => e) rfl
  have hl : i < σ.length := (List.getElem?_eq_some_iff.mp eo).1
  have es : σ.set i (some v) = σ := by
    apply List.ext_getElem?
    intro j
    by_cases e : i = j
    · subst e; rw [List.getElem?_set_self hl, eo]
    · rw [List.getElem?_set_ne e]
  rw [es] at q
  have nd := E.nodup
  simp only [List.nodup_append, List.mem_append] at nd
  refine ⟨k, v, B, A ++ ([] ++ C), ek, eo, r, ⟨q, ?_, fun a ha => ?_, E.dom, E.io⟩, ?_, fun a => ?_⟩
  · simp only [List.nil_append, List.nodup_append]
    exact ⟨nd.1, nd.2.1.2.1, fun a ha b hb => nd.2.2 a ha b (.inr hb)⟩
  · refine E.apart a ?_
    simp only [List.nil_append, List.mem_append] at ha ⊢
    exact ha.imp id .inr
  · simp only [List.nil_append, List.nodup_append, List.mem_append]
    refine ⟨nd.2.1.1, ⟨nd.1, nd.2.1.2.1, fun a ha b hb => nd.2.2 a ha b (.inr hb)⟩, fun a ha b hb => ?_⟩
    rcases hb with hb | hb
    · exact fun e => nd.2.2 b hb a (.inl ha) e.symm
    · exact nd.2.1.2.2 a ha b hb
  · simp only [List.nil_append, List.mem_append]
    constructor
    · rintro (h | h | h)
      · exact .inr (.inl h)
      · exact .inl h
      · exact .inr (.inr h)
    · rintro (h | h | h)
      · exact .inr (.inl h)
      · exact .inl h
      · exact .inr (.inr h)
theorem EnvOk.give {i : Nat} {x : D} (E : EnvOk mg T ρ σ H S F) (hx : ρ[i]? = some none) (hk : T.ks[i]? = some k) (hv : σ[i]? = some (some v)) (r : Rep mg H S x k v G) (nd : (G ++ F).Nodup) (ap : ∀ a, a ∈ G → ¬ S a) : ∃ F', EnvOk mg T (ρ.set i (some x)) σ H S F' ∧ ∀ a, a ∈ F' ↔ a ∈ G ∨ a ∈ F := by
  obtain ⟨k', o, A, B, C, ek, eo, rfl, e, z⟩ := E.slots.focus hx
  have e : B = [] := e
  subst e
  rw [hk] at ek; cases ek
  have q := z H S (some x) (some v) G (fun _ h => h) (fun a o e _ => e) ⟨v, rfl, r⟩
  have hl : i < σ.length := (List.getElem?_eq_some_iff.mp hv).1
  have es : σ.set i (some v) = σ := by
    apply List.ext_getElem?
    intro j
    by_cases e : i = j
    · subst e; rw [List.getElem?_set_self hl, hv]
    · rw [List.getElem?_set_ne e]
  rw [es] at q
  simp only [List.nil_append, List.nodup_append, List.mem_append] at nd
  refine ⟨A ++ (G ++ C), ⟨q, ?_, fun a ha => ?_, E.dom, E.io⟩, fun a => ?_⟩
  · simp only [List.nodup_append, List.mem_append]
    refine ⟨nd.2.1.1, ⟨nd.1, nd.2.1.2.1, fun a ha b hb => nd.2.2 a ha b (.inr hb)⟩, fun a ha b hb => ?_⟩
    rcases hb with hb | hb
    · exact fun e => nd.2.2 b hb a (.inl ha) e.symm
    · exact nd.2.1.2.2 a ha b hb
  · simp only [List.mem_append] at ha
    rcases ha with h | h | h
    · exact E.apart a (by simp [h])
    · exact ap a h
    · exact E.apart a (by simp [h])
  · simp only [List.nil_append, List.mem_append]
    constructor
    · rintro (h | h | h)
      · exact .inr (.inl h)
      · exact .inl h
      · exact .inr (.inr h)
    · rintro (h | h | h)
      · exact .inr (.inl h)
      · exact .inl h
      · exact .inr (.inr h)
/-- a slot's value by its place -/
theorem EnvOk.at {i : Nat} (E : EnvOk mg T ρ σ H S F) (hx : ρ[i]? = some (some d)) : ∃ k v G, T.ks[i]? = some k ∧ σ[i]? = some (some v) ∧ Rep mg H S d k v G ∧ ∀ a, a ∈ G → a ∈ F := by
  obtain ⟨k, v, G, F', h1, h2, h3, _, _, h4⟩ := E.take hx
  exact ⟨k, v, G, h1, h2, h3, fun a h => (h4 a).mpr (.inl h)⟩
theorem EnvOk.wait (E : EnvOk mg T ρ σ H S F) (A : Aft H S F1 H1 S1 F2) (hm : ∀ a, a ∈ F1 → ∃ o, H a = some o ∧ Mo o = true) (hs : ∀ a, a ∈ F1 → ¬ S a) (hF : ∀ a, a ∈ F → a ∉ F1) (hd : ∀ a, S1 a → H1 a ≠ none) : EnvOk mg T ρ σ H1 S1 F :=
  ⟨E.slots.mono A.up (A.ext hm fun a q => q.elim (fun q z => hs a z q) (hF a)), E.nodup, fun a ha => A.outs (E.own a ha) (E.apart a ha) (hF a ha), hd, E.io⟩
theorem Aft.dom' (A : Aft H S F H1 S1 F1) (hF : ∀ a, a ∈ F → H a ≠ none) : ∀ a, S1 a → H1 a ≠ none := fun a h => by
  rcases A.new a h with h | h | h
  · exact A.there a (A.dom a h)
  · exact A.there a (hF a h)
  · exact h.2

/-! ### values in a row, each owned to a depth of its own -/
def Args (mg : Mg) (H : Hp) (S : Addr → Prop) : List Nat → List D → List V → List Addr → Prop
  | [], [], vs, G => vs = [] ∧ G = []
  | k :: ks, d :: ds, vs, G => ∃ v r G1 G2, vs = v :: r ∧ G = G1 ++ G2 ∧ Rep mg H S d k v G1 ∧ Args mg H S ks ds r G2
  | _, _, _, _ => False
theorem Args.mo : ∀ {ks : List Nat} {ds : List D} {vs : List V} {G : List Addr}, Args mg H S ks ds vs G → ∀ a, a ∈ G → ∃ o, H a = some o ∧ Mo o = true
  | [], [], _, _, h => by simp only [Args] at h; obtain ⟨_, rfl⟩ := h; intro a ha; simp at ha
  | [], _ :: _, _, _, h => by simp only [Args] at h
  | _ :: _, [], _, _, h => by simp only [Args] at h
  | k :: ks, d :: ds, vs, G, h => by
    simp only [Args] at h
    obtain ⟨v, r, G1, G2, rfl, rfl, h1, h2⟩ := h
    intro a ha
    rcases List.mem_append.mp ha with ha | ha
    · exact h1.mo a ha
    · exact h2.mo a ha
theorem Args.own {ks : List Nat} {ds : List D} {vs : List V} (r : Args mg H S ks ds vs G) : ∀ a, a ∈ G → H a ≠ none := fun a h => by
  obtain ⟨o, e, _⟩ := r.mo a h
  rw [e]; exact fun z => nomatch z
theorem Args.mono (hs : ∀ a, S a → S' a) : ∀ {ks : List Nat} {ds : List D} {vs : List V} {G : List Addr}, Ext (fun a => S a ∨ a ∈ G) H H' → Args mg H S ks ds vs G → Args mg H' S' ks ds vs G
  | [], [], _, _, _, h => by simp only [Args] at h ⊢; exact h
  | [], _ :: _, _, _, _, h => by simp only [Args] at h
  | _ :: _, [], _, _, _, h => by simp only [Args] at h
  | k :: ks, d :: ds, vs, G, e, h => by
    simp only [Args] at h ⊢
    obtain ⟨v, r, G1, G2, rfl, rfl, h1, h2⟩ := h
    exact ⟨v, r, G1, G2, rfl, rfl, h1.mono hs (fun b o q z => e b o q (z.imp (Or.imp id (List.mem_append_left _)) id)), h2.mono hs (fun b o q z => e b o q (z.imp (Or.imp id (List.mem_append_right _)) id))⟩
theorem Args.reps : ∀ {ks : List Nat} {ds : List D} {vs : List V} {G : List Addr}, Args mg H S ks ds vs G → (ks.all (· == k)) = true → Reps mg H S ds k vs G
  | [], [], _, _, h, _ => by simp only [Args, Reps] at h ⊢; exact h
  | [], _ :: _, _, _, h, _ => by simp only [Args] at h
  | _ :: _, [], _, _, h, _ => by simp only [Args] at h
  | j :: ks, d :: ds, vs, G, h, q => by
    simp only [Args] at h
    obtain ⟨v, r, G1, G2, rfl, rfl, h1, h2⟩ := h
    simp only [List.all_cons, Bool.and_eq_true, beq_iff_eq] at q
    simp only [Reps]
    rw [q.1] at h1
    exact ⟨v, r, G1, G2, rfl, rfl, h1, h2.reps q.2⟩
theorem Reps.args : ∀ {ks : List Nat} {ds : List D} {vs : List V} {G : List Addr}, Reps mg H S ds k vs G → ks.length = ds.length → (ks.all (· == k)) = true → Args mg H S ks ds vs G
  | [], [], _, _, h, _, _ => by simp only [Args, Reps] at h ⊢; exact h
  | [], _ :: _, _, _, h, l, _ => by simp at l
  | _ :: _, [], _, _, h, l, _ => by simp at l
  | j :: ks, d :: ds, vs, G, h, l, q => by
    simp only [Reps] at h
    obtain ⟨v, r, G1, G2, rfl, rfl, h1, h2⟩ := h
    simp only [List.all_cons, Bool.and_eq_true, beq_iff_eq] at q
    simp only [Args]
    rw [q.1]
    exact ⟨v, r, G1, G2, rfl, rfl, h1, h2.args (by simpa using l) q.2⟩
theorem Args.len : ∀ {ks : List Nat} {ds : List D} {vs : List V} {G : List Addr}, Args mg H S ks ds vs G → ds.length = ks.length ∧ vs.length = ks.length
  | [], [], _, _, h => by simp only [Args] at h; rw [h.1]; simp
  | [], _ :: _, _, _, h => by simp only [Args] at h
  | _ :: _, [], _, _, h => by simp only [Args] at h
  | j :: ks, d :: ds, vs, G, h => by
    simp only [Args] at h
    obtain ⟨v, r, G1, G2, rfl, rfl, h1, h2⟩ := h
    have := h2.len
    simp [this.1, this.2]
theorem Args.wait {ks : List Nat} {ds : List D} {vs : List V} (r : Args mg H S ks ds vs G) (A : Aft H S F H1 S1 F1) (hm : ∀ a, a ∈ F → ∃ o, H a = some o ∧ Mo o = true) (hs : ∀ a, a ∈ F → ¬ S a) (hG : ∀ a, a ∈ G → a ∉ F) : Args mg H1 S1 ks ds vs G :=
  r.mono A.up (A.ext hm fun a q => q.elim (fun q z => hs a z q) (hG a))

/-! ### parts -/
def setPart : D → Nat → D → D
  | .lst ds, n, d => .lst (ds.set n d)
  | .tup ds, n, d => .tup (ds.set n d)
  | .dic ks ds, n, d => .dic ks (ds.set n d)
  | .dct ks ds, n, d => .dct ks (ds.set n d)
  | .ins c fs ds, n, d => .ins c fs (ds.set n d)
  | d', _, _ => d'
/-- the value along a path of places -/
def At (H : Hp) : V → List Nat → V → Prop
  | v0, [], v => v = v0
  | v0, n :: π, v => ∃ a o xs v1, v0 = .ref a ∧ H a = some o ∧ partsV o = some xs ∧ xs[n]? = some v1 ∧ At H v1 π v
theorem At.mono : ∀ {π : List Nat} {v0 v : V}, Same H H' → At H v0 π v → At H' v0 π v
  | [], _, _, _, h => h
  | n :: π, v0, v, e, h => by
    obtain ⟨a, o, xs, v1, e1, e2, e3, e4, h⟩ := h
    exact ⟨a, o, xs, v1, e1, e a o e2, e3, e4, h.mono e⟩
def getP : D → List Nat → Option D
  | d, [] => some d
  | d, n :: π => ((partAt d)[n]?).bind fun x => getP x π
def setP : D → List Nat → D → D
  | _, [], x => x
  | d, n :: π, x => match (partAt d)[n]? with
    | some y => setPart d n (setP y π x)
    | none => d
theorem set_self {α : Type} {xs : List α} {i : Nat} {x : α} (h : xs[i]? = some x) : xs.set i x = xs := by
  obtain ⟨hl, e⟩ := List.getElem?_eq_some_iff.mp h
  apply List.ext_getElem?
  intro j
  by_cases q : i = j
  · subst q; rw [List.getElem?_set_self hl, h]
  · rw [List.getElem?_set_ne q]
theorem zip_snd {α : Type} {ks : List α} {xs : List V} (h : ks.length = xs.length) : (ks.zip xs).map (·.2) = xs := by
  rw [List.map_snd_zip (by omega)]
/-- one step down owned data -/
theorem Rep.part {n : Nat} {y : D} (r : Rep mg H S d (k + 1) v G) (h : (partAt d)[n]? = some y) :
    ∃ a o xs w A B C, v = .ref a ∧ H a = some o ∧ partsV o = some xs ∧ xs[n]? = some w ∧ G = A ++ (B ++ C) ∧ Rep mg H S y k w B ∧
      ∀ (H' : Hp) (S' : Addr → Prop) (y' : D) (B' : List Addr), (∀ a, S a → S' a) → Ext (fun a => S a ∨ a ∈ A ∨ a ∈ C) H H' → Rep mg H' S' y' k w B' → Rep mg H' S' (setPart d n y') (k + 1) v (A ++ (B' ++ C)) := by
  cases d with
  | lst ds =>
    simp only [Rep] at r
    obtain ⟨a, xs, G', rfl, e, rfl, q⟩ := r
    obtain ⟨w, A, B, C, ew, rfl, qb, z⟩ := q.focus h
    refine ⟨a, _, xs, w, a :: A, B, C, rfl, e, rfl, ew, rfl, qb, fun H' S' y' B' hs ex r' => ?_⟩
    simp only [setPart, Rep]
    refine ⟨a, xs, A ++ (B' ++ C), rfl, ex a _ e (.inl (.inr (.inl (by simp)))), rfl, ?_⟩
    have := z H' S' y' w B' hs (fun b o e q => ex b o e (q.imp (Or.imp id (Or.imp (List.mem_cons_of_mem _) id)) id)) r'
    rwa [set_self ew] at this
  | tup ds =>
    simp only [Rep] at r
    obtain ⟨a, xs, rfl, e, q⟩ := r
    obtain ⟨w, A, B, C, ew, rfl, qb, z⟩ := q.focus h
    refine ⟨a, _, xs, w, A, B, C, rfl, e, rfl, ew, rfl, qb, fun H' S' y' B' hs ex r' => ?_⟩
    simp only [setPart, Rep]
    refine ⟨a, xs, rfl, ex a _ e (.inr rfl), ?_⟩
    have := z H' S' y' w B' hs ex r'
    rwa [set_self ew] at this
  | dic ks ds =>
    simp only [Rep] at r
    obtain ⟨a, xs, G', rfl, e, l, nd, rfl, q⟩ := r
    obtain ⟨w, A, B, C, ew, rfl, qb, z⟩ := q.focus h
    refine ⟨a, _, xs, w, a :: A, B, C, rfl, e, by simp only [partsV]; rw [zip_snd (by simp [l])], ew, rfl, qb, fun H' S' y' B' hs ex r' => ?_⟩
    simp only [setPart, Rep]
    refine ⟨a, xs, A ++ (B' ++ C), rfl, ex a _ e (.inl (.inr (.inl (by simp)))), l, nd, rfl, ?_⟩
    have := z H' S' y' w B' hs (fun b o e q => ex b o e (q.imp (Or.imp id (Or.imp (List.mem_cons_of_mem _) id)) id)) r'
    rwa [set_self ew] at this
  | dct ks ds =>
    simp only [Rep] at r
    obtain ⟨a, xs, G', rfl, e, l, nd, rfl, q⟩ := r
    obtain ⟨w, A, B, C, ew, rfl, qb, z⟩ := q.focus h
    refine ⟨a, _, xs, w, a :: A, B, C, rfl, e, by simp only [partsV]; rw [zip_snd (by simp [l])], ew, rfl, qb, fun H' S' y' B' hs ex r' => ?_⟩
    simp only [setPart, Rep]
    refine ⟨a, xs, A ++ (B' ++ C), rfl, ex a _ e (.inl (.inr (.inl (by simp)))), l, nd, rfl, ?_⟩
    have := z H' S' y' w B' hs (fun b o e q => ex b o e (q.imp (Or.imp id (Or.imp (List.mem_cons_of_mem _) id)) id)) r'
    rwa [set_self ew] at this
  | ins c fs ds =>
    simp only [Rep] at r
    obtain ⟨a, Cc, dx, xs, G', rfl, m, e, e2, l, rfl, q⟩ := r
    obtain ⟨w, A, B, C, ew, rfl, qb, z⟩ := q.focus h
    refine ⟨a, _, xs, w, a :: dx :: A, B, C, rfl, e, by simp only [partsV]; rw [zip_snd (by simp [l])], ew, rfl, qb, fun H' S' y' B' hs ex r' => ?_⟩
    simp only [setPart, Rep]
    refine ⟨a, Cc, dx, xs, A ++ (B' ++ C), rfl, m, ex a _ e (.inl (.inr (.inl (by simp)))), ex dx _ e2 (.inl (.inr (.inl (by simp)))), l, rfl, ?_⟩
    have := z H' S' y' w B' hs (fun b o e q => ex b o e (q.imp (Or.imp id (Or.imp (fun h => List.mem_cons_of_mem _ (List.mem_cons_of_mem _ h)) id)) id)) r'
    rwa [set_self ew] at this
  | non => simp [partAt] at h
  | bl _ => simp [partAt] at h
  | int _ => simp [partAt] at h
  | str _ => simp [partAt] at h
  | set _ => simp [partAt] at h
  | scr _ => simp [partAt] at h
/-- down a path -/
theorem Rep.path : ∀ {π : List Nat} {d x : D} {v : V} {G : List Addr} {k : Nat}, Rep mg H S d (k + π.length) v G → getP d π = some x →
    ∃ w A B C, At H v π w ∧ G = A ++ (B ++ C) ∧ Rep mg H S x k w B ∧
      ∀ (H' : Hp) (S' : Addr → Prop) (x' : D) (B' : List Addr), (∀ a, S a → S' a) → Ext (fun a => S a ∨ a ∈ A ∨ a ∈ C) H H' → Rep mg H' S' x' k w B' → Rep mg H' S' (setP d π x') (k + π.length) v (A ++ (B' ++ C))
  | [], d, x, v, G, k, r, h => by
    simp only [getP, Option.some.injEq] at h
    subst h
    refine ⟨v, [], G, [], rfl, by simp, r, fun H' S' x' B' hs ex r' => ?_⟩
    simp only [setP, List.nil_append, List.append_nil]
    exact r'
  | n :: π, d, x, v, G, k, r, h => by
    simp only [getP, Option.bind_eq_some_iff] at h
    obtain ⟨y, hy, h⟩ := h
    have e : k + (n :: π).length = (k + π.length) + 1 := by simp; omega
    rw [e] at r
    obtain ⟨a, o, xs, w, A, B, C, rfl, e1, e2, e3, rfl, rb, z⟩ := r.part hy
    obtain ⟨w2, A2, B2, C2, at2, rfl, rb2, z2⟩ := Rep.path rb h
    refine ⟨w2, A ++ A2, B2, C2 ++ C, ⟨a, o, xs, w, rfl, e1, e2, e3, at2⟩, by simp [List.append_assoc], rb2, fun H' S' x' B' hs ex r' => ?_⟩
    have q2 := z2 H' S' x' B' hs (fun b o e q => ex b o e (q.imp (Or.imp id (Or.imp (List.mem_append_right _) (List.mem_append_left _))) id)) r'
    have q := z H' S' _ _ hs (fun b o e q => ex b o e (q.imp (Or.imp id (Or.imp (List.mem_append_left _) (List.mem_append_right _))) id)) q2
    simp only [setP, hy]
    rw [e]
    have ea : A ++ A2 ++ (B' ++ (C2 ++ C)) = A ++ (A2 ++ (B' ++ C2) ++ C) := by simp [List.append_assoc]
    rw [ea]
    exact q
theorem At.inj : ∀ {π : List Nat} {v0 v w : V}, At H v0 π v → At H v0 π w → v = w
  | [], _, _, _, h, h' => by
    have h : _ = _ := h
    have h' : _ = _ := h'
    rw [h, h']
  | n :: π, v0, v, w, h, h' => by
    obtain ⟨a, o, xs, v1, rfl, e1, e2, e3, h⟩ := h
    obtain ⟨a', o', xs', v1', e, e1', e2', e3', h'⟩ := h'
    cases e
    rw [e1] at e1'; cases e1'
    rw [e2] at e2'; cases e2'
    rw [e3] at e3'; cases e3'
    exact h.inj h'
end
end DL
end

section
set_option Elab.async false
set_option linter.all false
set_option maxRecDepth 100000
set_option maxHeartbeats 4000000
/-! DL11: expressions that change slots. -/
namespace DL
open PySem PySem.Spec PyProof.Rows L2

/-- an error: its class, its own fields -/
structure Ex where
  cls : String
  fs : List String := []
  ds : List D := []
inductive Res (α : Type) where
  | ok (a : α) (ρ : Rho)
  | ex (x : Ex) (ρ : Rho)
abbrev M (α : Type) := Rho → Option (Res α)
def M.bind {α β : Type} (m : M α) (f : α → M β) : M β := fun ρ => match m ρ with
  | none => none
  | some (.ok a ρ') => f a ρ'
  | some (.ex x ρ') => some (.ex x ρ')
def M.lift {α : Type} (p : Rho → Option α) : M α := fun ρ => (p ρ).map fun a => .ok a ρ
def M.of {α : Type} (o : Option α) : M α := fun ρ => o.map fun a => .ok a ρ
def Md.isE : Md → Bool
  | .fl => true
  | .ow _ => true
  | _ => false
/-- how an error lies -/
def ExOk (mg : Mg) (x : Ex) (cls : Value) (dd : Option Addr) (H : Hp) : Prop :=
  (∃ C, mg (Str.ofString x.cls) = some (.ref C) ∧ cls = .ref C) ∧ flat.flats x.ds = true ∧ (x.fs = [] ∨ ∃ d vs, dd = some d ∧ H d = some (.xd ((x.fs.map Str.ofString).zip vs)) ∧ x.fs.length = vs.length ∧ Views mg H (fun _ => True) x.ds vs)
def RpE (mg : Mg) (H' : Hp) (S' : Addr → Prop) (F' : List Addr) : Md → D → V → List Addr → Prop
  | .fl, d, v, G => flat d = true ∧ View mg H' S' d v ∧ G = []
  | .ow k, d, v, G => Rep mg H' S' d k v G ∧ (G ++ F').Nodup ∧ ∀ a, a ∈ G → ¬ S' a
  | _, _, _, _ => False
def EndX (mg : Mg) (T : Ty) (W : WX) (σ : St) (H : Hp) (S : Addr → Prop) (F : List Addr) (x : Ex) (ρ' : Rho) : Prop :=
  ∀ cls dd H' S' F', Aft H S F H' S' F' → EnvOk mg T ρ' σ H' S' F' → ExOk mg x cls dd H' → W cls dd σ H'
def EndM (mg : Mg) (T : Ty) (W : WX) (md : Md) (σ : St) (H : Hp) (S : Addr → Prop) (F : List Addr) (o : Option (Res D)) (Q : VK) : Prop := match o with
  | none => False
  | some (.ok d ρ') => ∀ v H' S' F' G, Aft H S F H' S' (G ++ F') → EnvOk mg T ρ' σ H' S' F' → RpE mg H' S' F' md d v G → Q v H'
  | some (.ex x ρ') => EndX mg T W σ H S F x ρ'
def tM (mg : Mg) (T : Ty) (W : WX) (md : Md) (m : M D) : TE := fun σ H Q => ∃ ρ S F, EnvOk mg T ρ σ H S F ∧ EndM mg T W md σ H S F (m ρ) Q
abbrev MD (X : Cx) (T : Ty) (W : WX) (e : Expr) (md : Md) (m : M D) : Prop := PE X e (tM X.mg T W md m)
def EndB (mg : Mg) (T : Ty) (W : WX) (σ : St) (H : Hp) (S : Addr → Prop) (F : List Addr) (o : Option (Res Bool)) (Q : Bool → Hp → Prop) : Prop := match o with
  | none => False
  | some (.ok b ρ') => ∀ H' S' F', Aft H S F H' S' F' → EnvOk mg T ρ' σ H' S' F' → Q b H'
  | some (.ex x ρ') => EndX mg T W σ H S F x ρ'
def tMB (mg : Mg) (T : Ty) (W : WX) (m : M Bool) : TT := fun σ H Q => ∃ ρ S F, EnvOk mg T ρ σ H S F ∧ EndB mg T W σ H S F (m ρ) Q
abbrev MB (X : Cx) (T : Ty) (W : WX) (e : Expr) (m : M Bool) : Prop := PT X e (tMB X.mg T W m)
abbrev MW (X : Cx) (T : Ty) (W : WX) (e : Expr) (m : M Bool) : Prop := PW X e (tMB X.mg T W m)
def EndL (mg : Mg) (T : Ty) (W : WX) (ks : List Nat) (σ : St) (H : Hp) (S : Addr → Prop) (F : List Addr) (o : Option (Res (List D))) (Q : List V → Hp → Prop) : Prop := match o with
  | none => False
  | some (.ok ds ρ') => ∀ vs H' S' F' G, Aft H S F H' S' (G ++ F') → EnvOk mg T ρ' σ H' S' F' → Args mg H' S' ks ds vs G → (G ++ F').Nodup → (∀ a, a ∈ G → ¬ S' a) → Q vs H'
  | some (.ex x ρ') => EndX mg T W σ H S F x ρ'
def tML (mg : Mg) (T : Ty) (W : WX) (ks : List Nat) (m : M (List D)) : TA := fun σ H Q => ∃ ρ S F, EnvOk mg T ρ σ H S F ∧ EndL mg T W ks σ H S F (m ρ) Q
abbrev ML (X : Cx) (T : Ty) (W : WX) (es : List Expr) (ks : List Nat) (m : M (List D)) : Prop := PA X es (tML X.mg T W ks m)

section
variable {mg : Mg} {H H' H1 H2 : Hp} {S S' S1 S2 : Addr → Prop} {T : Ty} {W : WX} {ρ ρ' : Rho} {σ : St} {F F1 F2 F3 G : List Addr} {k : Nat} {d : D} {v : V} {Q : VK} {m m' md : Md}
/-- the end from a later state -/
theorem EndX.later {x : Ex} (h : EndX mg T W σ H S F x ρ') (A : Aft H S F H1 S1 F1) : EndX mg T W σ H1 S1 F1 x ρ' := fun cls dd H' S' F' B E q => h cls dd H' S' F' (A.trans B) E q
theorem EndX.later2 {x : Ex} {G1 : List Addr} (h : EndX mg T W σ H S F x ρ') (A : Aft H S F H1 S1 (G1 ++ F1)) (hF : ∀ a, a ∈ G1 ++ F1 → H1 a ≠ none) : EndX mg T W σ H1 S1 F1 x ρ' := fun cls dd H' S' F' B E q =>
  h cls dd H' S' F' (A.trans (B.frame (fun a h => by simp [h]) (fun a h => .inl h) hF)) E q
theorem EndM.later {o : Option (Res D)} (h : EndM mg T W md σ H S F o Q) (A : Aft H S F H1 S1 F1) : EndM mg T W md σ H1 S1 F1 o Q := by
  unfold EndM at h ⊢
  split at h
  · exact h
  · exact fun v H' S' F' G B E r => h v H' S' F' G (A.trans B) E r
  · exact h.later A
theorem EndB.later {o : Option (Res Bool)} {Qb : Bool → Hp → Prop} (h : EndB mg T W σ H S F o Qb) (A : Aft H S F H1 S1 F1) : EndB mg T W σ H1 S1 F1 o Qb := by
  unfold EndB at h ⊢
  split at h
  · exact h
  · exact fun H' S' F' B E => h H' S' F' (A.trans B) E
  · exact h.later A
/-- given up: shared from then on -/
theorem frz_env (A : Aft H S F H1 S1 (G ++ F1)) (E : EnvOk mg T ρ σ H1 S1 F1) (nd : (G ++ F1).Nodup) : Aft H S F H1 (fun a => S1 a ∨ a ∈ G) F1 ∧ EnvOk mg T ρ σ H1 (fun a => S1 a ∨ a ∈ G) F1 := by
  refine ⟨⟨A.kp, A.there, fun a h => .inl (A.up a h), fun a h => ?_, A.dom, fun a h => A.sub a (by simp [h]), fun a h => A.own a (by simp [h])⟩, ⟨E.slots.mono (fun _ h => .inl h) Ext.rf, E.nodup, fun a ha hs => ?_, fun a h => ?_, E.io⟩⟩
  · rcases h with h | h
    · exact A.new a h
    · rcases A.sub a (by simp [h]) with q | q
      · exact .inr (.inl q)
      · exact .inr (.inr ⟨q, A.own a (by simp [h])⟩)
  · rcases hs with hs | hs
    · exact E.apart a ha hs
    · exact (List.nodup_append.mp nd).2.2 a hs a ha rfl
  · rcases h with h | h
    · exact E.dom a h
    · exact A.own a (by simp [h])
theorem EndM.le {o : Option (Res D)} (h : EndM mg T W m' σ H S F o Q) (hl : m.le m' = true) (hm : m'.isE = true) : EndM mg T W m σ H S F o Q := by
  unfold EndM at h ⊢
  split at h
  · exact h
  · rename_i d ρ'
    intro v H' S' F' G A E r
    cases m with
    | vw => exact r.elim
    | br j => exact r.elim
    | fl =>
      obtain ⟨f, w, rfl⟩ := r
      cases m' with
      | fl => exact h v H' S' F' [] A E ⟨f, w, rfl⟩
      | ow k => exact h v H' S' F' [] A E ⟨w.flat f k S', by simpa using E.nodup, by simp⟩
      | br k => simp [Md.isE] at hm
      | vw => simp [Md.isE] at hm
    | ow j =>
      obtain ⟨r, nd, ap⟩ := r
      cases m' with
      | fl => simp [Md.le] at hl
      | br k => simp [Md.le] at hl
      | vw => simp [Md.isE] at hm
      | ow k =>
        by_cases e : j = k
        · subst e; exact h v H' S' F' G A E ⟨r, nd, ap⟩
        · have hk : k = 0 := by
            simp [Md.le, e] at hl
            exact hl
          subst hk
          obtain ⟨A2, E2⟩ := frz_env A E nd
          refine h v H' (fun a => S' a ∨ a ∈ G) F' [] A2 E2 ⟨?_, by simpa using E.nodup, by simp⟩
          simp only [Rep]
          exact ⟨r.freeze (fun _ h => .inl h) (fun _ h => .inr h), trivial⟩
  · exact h
theorem RpE.view {F' : List Addr} (r : RpE mg H' S' F' md d v G) : View mg H' (fun a => S' a ∨ a ∈ G) d v := by
  cases md with
  | fl => exact r.2.1.mono Ext.rf (fun _ h => .inl h)
  | ow k => exact r.1.freeze (fun _ h => .inl h) (fun _ h => .inr h)
  | br k => exact r.elim
  | vw => exact r.elim
end
section
variable {X : Cx} {T : Ty} {W : WX} {a b c e : Expr} {es : List Expr} {pos : Pos} {m m1 m2 md : Md} {p q : Rho → Option D} {ma mb : M D} {ml : M (List D)} {mg : Mg} {k : Nat}
theorem MD.le (h : MD X T W e m ma) (hl : m.le m2 = true := by rfl) (hm : m2.isE = true := by rfl) : MD X T W e m2 ma :=
  PE.imp h fun σ H Q ⟨ρ, S, F, E, z⟩ => ⟨ρ, S, F, E, z.le hl hm⟩
/-- what changes nothing -/
theorem m_of (h : PD X T e md p) (hm : md.isE = true := by rfl) : MD X T W e md (M.lift p) := by
  refine PE.imp h fun σ H Q ⟨ρ, S, F, E, z⟩ => ?_
  unfold EndM M.lift at z
  cases hp : p ρ with
  | none => rw [hp] at z; exact z.elim
  | some d =>
    rw [hp] at z
    refine ⟨ρ, S, F, E, d, hp, fun v H' S' G g r => ?_⟩
    have E' := E.grow g
    cases md with
    | fl =>
      obtain ⟨f, w, rfl⟩ := r
      exact z v H' S' F [] (Aft.of_grow g (fun a h => .inl h) E'.own) E' ⟨f, w, rfl⟩
    | ow k =>
      obtain ⟨r, n, f⟩ := r
      have nd : (G ++ F).Nodup := List.nodup_append.mpr ⟨n, E.nodup, fun a ha b hb e => by
        have := E.own b hb
        rw [← e] at this
        exact this (f a ha).1⟩
      refine z v H' S' F G (Aft.of_grow g (fun a h => ?_) fun a h => ?_) E' ⟨r, nd, fun a ha => (f a ha).2⟩
      · rcases List.mem_append.mp h with h | h
        · exact .inr (f a h).1
        · exact .inl h
      · rcases List.mem_append.mp h with h | h
        · exact r.own a h
        · exact E'.own a h
    | br k => simp [Md.isE] at hm
    | vw => simp [Md.isE] at hm
theorem mb_of {tb : Rho → Option Bool} (h : TD X T e tb) : MB X T W e (M.lift tb) := by
  refine PT.imp h fun σ H Q ⟨ρ, S, F, E, z⟩ => ?_
  unfold EndB M.lift at z
  cases hp : tb ρ with
  | none => rw [hp] at z; exact z.elim
  | some d =>
    rw [hp] at z
    exact ⟨ρ, S, F, E, d, hp, fun H' S' g => z H' S' F (Aft.of_grow g (fun a h => .inl h) (E.grow g).own) (E.grow g)⟩

/-! ### operations -/
def m1of (f : D → Option D) (ma : M D) : M D := ma.bind fun x => M.of (f x)
def m2of (f : D → D → Option D) (ma mb : M D) : M D := ma.bind fun x => mb.bind fun y => M.of (f x y)
theorem endM_of {T : Ty} {W : WX} {md : Md} {σ : St} {H : Hp} {S : Addr → Prop} {F : List Addr} {Q : VK} {ρ : Rho} {d : D} (E : EnvOk mg T ρ σ H S F) (hm : md.isE = true) (z : EndM mg T W md σ H S F (some (.ok d ρ)) Q) : EndP mg S F H md d Q := fun v H' S' G g r => by
  have E' := E.grow g
  cases md with
  | fl =>
    obtain ⟨f, w, rfl⟩ := r
    exact z v H' S' F [] (Aft.of_grow g (fun a h => .inl h) E'.own) E' ⟨f, w, rfl⟩
  | ow k =>
    obtain ⟨r, n, f⟩ := r
    have nd : (G ++ F).Nodup := List.nodup_append.mpr ⟨n, E.nodup, fun a ha b hb e => by
      have := E.own b hb
      rw [← e] at this
      exact this (f a ha).1⟩
    refine z v H' S' F G (Aft.of_grow g (fun a h => ?_) fun a h => ?_) E' ⟨r, nd, fun a ha => (f a ha).2⟩
    · rcases List.mem_append.mp h with h | h
      · exact .inr (f a h).1
      · exact .inl h
    · rcases List.mem_append.mp h with h | h
      · exact r.own a h
      · exact E'.own a h
  | br k => simp [Md.isE] at hm
  | vw => simp [Md.isE] at hm
theorem rp_of {H H0 : Hp} {S : Addr → Prop} {F F' G : List Addr} {d : D} {v : V} (r : RpE mg H S F' (.ow 0) d v G) : RpM mg H0 F H S (.ow 0) d v [] := by
  have h := r.1
  simp only [Rep] at h
  obtain ⟨h, rfl⟩ := h
  exact ⟨by simp only [Rep]; exact ⟨h, trivial⟩, by simp, by simp⟩
theorem g_nil {H : Hp} {S : Addr → Prop} {F' G : List Addr} {d : D} {v : V} (r : RpE mg H S F' (.ow 0) d v G) : G = [] := by
  have h := r.1
  simp only [Rep] at h
  exact h.2
theorem m_op1 {r : V → Hp → VK → Prop} {f : D → Option D} (ho : Op1 X r (.ow 0) md f) (h : PE X e (tUn r (tM X.mg T W (.ow 0) ma))) (hm : md.isE = true := by rfl) : MD X T W e md (m1of f ma) := by
  refine PE.imp h fun σ H Q ⟨ρ, S, F, E, z⟩ => ⟨ρ, S, F, E, ?_⟩
  unfold m1of M.bind at z
  unfold EndM
  split
  · rename_i hp; rw [hp] at z; exact z.elim
  · rename_i x ρ1 hp
    rw [hp] at z
    intro v H1 S1 F1 G1 A E1 r1
    have e := g_nil r1
    subst e
    simp only [M.of] at z
    cases hf : f x with
    | none => rw [hf] at z; exact z.elim
    | some d =>
      rw [hf] at z
      exact ho x d v H1 H1 S1 S1 F1 [] Q hf E1.rf (rp_of r1) (endM_of E1 hm (z.later A))
  · rename_i x ρ1 hp; rw [hp] at z; exact z
theorem m_op2 {r : R2} {f : D → D → Option D} (ho : Op2 X r (.ow 0) (.ow 0) md f) (h : PE X e (tOp r (tM X.mg T W (.ow 0) ma) (tM X.mg T W (.ow 0) mb))) (hm : md.isE = true := by rfl) : MD X T W e md (m2of f ma mb) := by
  refine PE.imp h fun σ H Q ⟨ρ, S, F, E, z⟩ => ⟨ρ, S, F, E, ?_⟩
  unfold m2of M.bind at z
  unfold EndM
  split
  · rename_i hp; rw [hp] at z; exact z.elim
  · rename_i x ρ1 hp
    rw [hp] at z
    intro v H1 S1 F1 G1 A E1 r1
    have e := g_nil r1
    subst e
    refine ⟨ρ1, S1, F1, E1, ?_⟩
    simp only at z
    unfold EndM
    split
    · rename_i hq; rw [hq] at z; exact z.elim
    · rename_i y ρ2 hq
      rw [hq] at z
      intro v2 H2 S2 F2 G2 A2 E2 r2
      have e := g_nil r2
      subst e
      simp only [M.of] at z
      cases hf : f x y with
      | none => rw [hf] at z; exact z.elim
      | some d =>
        rw [hf] at z
        have w1 : View X.mg H1 S1 x v := by have := r1.1; simp only [Rep] at this; exact this.1
        have w2 : View X.mg H2 S2 x v := w1.mono (A2.ext E1.mo fun a q z => E1.apart a z q) A2.up
        exact ho x y d v v2 H2 H2 S2 S2 F2 [] [] Q hf E2.rf ⟨by simp only [Rep]; exact ⟨w2, trivial⟩, by simp, by simp⟩ (rp_of r2) (endM_of E2 hm (z.later (A.trans A2)))
    · rename_i y ρ2 hq
      rw [hq] at z
      exact z.later A
  · rename_i x ρ1 hp; rw [hp] at z; exact z

/-! ### tests -/
def mToB (ma : M D) : M Bool := ma.bind fun d => M.of d.toB
def mNot (mb : M Bool) : M Bool := mb.bind fun b => M.of (some !b)
def mAnd (ma mb : M Bool) : M Bool := ma.bind fun b => if b = true then mb else M.of (some false)
def mOr (ma mb : M Bool) : M Bool := ma.bind fun b => if b = true then M.of (some true) else mb
theorem mb_val (h : MD X T W a md ma) (hm : md.isE = true := by rfl) (he : ∀ whole, isTrue a X.env whole = (do let v ← whole; standAt a.pos; holding [v] (truthy v)) := by intro _; rfl) : MB X T W a (mToB ma) := by
  refine PT.imp (pt_val h he) fun σ H Q ⟨ρ, S, F, E, z⟩ => ⟨ρ, S, F, E, ?_⟩
  unfold mToB M.bind at z
  unfold EndM
  split
  · rename_i hp; rw [hp] at z; exact z.elim
  · rename_i x ρ1 hp
    rw [hp] at z
    intro v H1 S1 F1 G1 A E1 r1
    simp only [M.of] at z
    cases hb : x.toB with
    | none => rw [hb] at z; exact z.elim
    | some c =>
      rw [hb] at z
      have := toB_some hb
      subst this
      have w := r1.view
      simp only [View] at w
      have hn : (G1 ++ F1).Nodup := by
        cases md with
        | fl => obtain ⟨_, _, rfl⟩ := r1; simpa using E1.nodup
        | ow k => exact r1.2.1
        | br k => exact r1.elim
        | vw => exact r1.elim
      obtain ⟨A2, E2⟩ := frz_env A E1 hn
      exact ⟨c, w, z H1 _ F1 A2 E2⟩
  · rename_i x ρ1 hp; rw [hp] at z; exact z
theorem mb_not {mt : M Bool} (h : MB X T W a mt) : MB X T W (.UnaryOp .Not a pos) (mNot mt) := by
  refine PT.imp (pt_not h) fun σ H Q ⟨ρ, S, F, E, z⟩ => ⟨ρ, S, F, E, ?_⟩
  unfold mNot M.bind at z
  unfold EndB
  split
  · rename_i hp; rw [hp] at z; exact z.elim
  · rename_i x ρ1 hp
    rw [hp] at z
    exact z
  · rename_i x ρ1 hp; rw [hp] at z; exact z
theorem mw_one {mt : M Bool} {op : BoolOp} (h : MB X T W a mt) : MW X T W (.BoolOp op [a] pos) mt := by
  cases op with
  | And => exact pw_and1 h
  | Or => exact pw_or1 h
theorem mw_and {mt mu : M Bool} {rest : List Expr} (ha : MB X T W a mt) (hb : MW X T W (.BoolOp .And (b :: rest) pos) mu) : MW X T W (.BoolOp .And (a :: b :: rest) pos) (mAnd mt mu) := by
  refine PW.imp (pw_and ha hb) fun σ H Q ⟨ρ, S, F, E, z⟩ => ⟨ρ, S, F, E, ?_⟩
  unfold mAnd M.bind at z
  unfold EndB
  split
  · rename_i hp; rw [hp] at z; exact z.elim
  · rename_i x ρ1 hp
    rw [hp] at z
    intro H1 S1 F1 A E1
    cases x with
    | true => exact ⟨ρ1, S1, F1, E1, z.later A⟩
    | false => exact z H1 S1 F1 A E1
  · rename_i x ρ1 hp; rw [hp] at z; exact z
theorem mw_or {mt mu : M Bool} {rest : List Expr} (ha : MB X T W a mt) (hb : MW X T W (.BoolOp .Or (b :: rest) pos) mu) : MW X T W (.BoolOp .Or (a :: b :: rest) pos) (mOr mt mu) := by
  refine PW.imp (pw_or ha hb) fun σ H Q ⟨ρ, S, F, E, z⟩ => ⟨ρ, S, F, E, ?_⟩
  unfold mOr M.bind at z
  unfold EndB
  split
  · rename_i hp; rw [hp] at z; exact z.elim
  · rename_i x ρ1 hp
    rw [hp] at z
    intro H1 S1 F1 A E1
    cases x with
    | false => exact ⟨ρ1, S1, F1, E1, z.later A⟩
    | true => exact z H1 S1 F1 A E1
  · rename_i x ρ1 hp; rw [hp] at z; exact z
theorem MW.of {mt : M Bool} (h : MW X T W a mt) : MB X T W a mt := PW.pt h
theorem mb_cmp {op : CmpOp} {r : R2} {f : D → D → Option D} (hr : OpR X (compareOp op) r) (ho : Op2 X r (.ow 0) (.ow 0) .fl f) (ha : MD X T W a (.ow 0) ma) (hb : MD X T W b (.ow 0) mb) (hm : behindInMarks op b = false := by first | exact nomark _ | rfl) : MB X T W (.Compare a [op] [b] pos) (mToB (m2of f ma mb)) := by
  refine PT.imp (pt_cmpR hr ha hb hm) fun σ H Q ⟨ρ, S, F, E, z⟩ => ⟨ρ, S, F, E, ?_⟩
  unfold mToB m2of M.bind at z
  unfold EndM
  simp only [M.bind] at z
  split
  · rename_i hp; rw [hp] at z; exact z.elim
  · rename_i x ρ1 hp
    rw [hp] at z
    intro v H1 S1 F1 G1 A E1 r1
    have e := g_nil r1
    subst e
    refine ⟨ρ1, S1, F1, E1, ?_⟩
    simp only at z
    unfold EndM
    split
    · rename_i hq; rw [hq] at z; exact z.elim
    · rename_i y ρ2 hq
      rw [hq] at z
      intro v2 H2 S2 F2 G2 A2 E2 r2
      have e := g_nil r2
      subst e
      simp only [M.of] at z
      cases hf : f x y with
      | none => rw [hf] at z; exact z.elim
      | some d =>
        rw [hf] at z
        simp only [Option.map_some] at z
        cases hb : d.toB with
        | none => rw [hb] at z; exact z.elim
        | some c =>
          rw [hb] at z
          have := toB_some hb
          subst this
          have w1 : View X.mg H1 S1 x v := by have := r1.1; simp only [Rep] at this; exact this.1
          have w2 : View X.mg H2 S2 x v := w1.mono (A2.ext E1.mo fun a q z => E1.apart a z q) A2.up
          refine ho x y _ v v2 H2 H2 S2 S2 F2 [] [] _ hf E2.rf ⟨by simp only [Rep]; exact ⟨w2, trivial⟩, by simp, by simp⟩ (rp_of r2) fun u H3 S3 G3 g r3 => ⟨c, r3.bl, ?_⟩
          have E3 := E2.grow g
          exact z H3 S3 F2 ((A.trans A2).trans (Aft.of_grow g (fun a h => .inl h) E3.own)) E3
    · rename_i y ρ2 hq
      rw [hq] at z
      exact z.later A
  · rename_i x ρ1 hp; rw [hp] at z; exact z
/-- a if t else b -/
def mIf (mt : M Bool) (ma mb : M D) : M D := mt.bind fun b => if b = true then ma else mb
theorem m_if {mt : M Bool} (hc : MB X T W c mt) (ha : MD X T W a md ma) (hb : MD X T W b md mb) : MD X T W (.IfExp c a b pos) md (mIf mt ma mb) := by
  refine PE.imp (pe_ifExp hc ha hb) fun σ H Q ⟨ρ, S, F, E, z⟩ => ⟨ρ, S, F, E, ?_⟩
  unfold mIf M.bind at z
  unfold EndB
  split
  · rename_i hp; rw [hp] at z; exact z.elim
  · rename_i x ρ1 hp
    rw [hp] at z
    intro H1 S1 F1 A E1
    cases x with
    | true => exact ⟨ρ1, S1, F1, E1, z.later A⟩
    | false => exact ⟨ρ1, S1, F1, E1, z.later A⟩
  · rename_i x ρ1 hp; rw [hp] at z; exact z

/-! ### arguments, displays -/
def lNil : M (List D) := M.of (some [])
def lCons (ma : M D) (ml : M (List D)) : M (List D) := ma.bind fun d => ml.bind fun ds => M.of (some (d :: ds))
theorem ml_nil : ML X T W [] [] lNil := PA.imp pa_nil fun σ H Q ⟨ρ, S, F, E, z⟩ => z [] H S F [] E.aft E (by simp only [Args]; exact ⟨trivial, trivial⟩) (by simpa using E.nodup) (by simp)
theorem ml_cons {ks : List Nat} (k : Nat) (h : MD X T W e m ma) (hr : ML X T W es ks ml) (hl : m.le (.ow k) = true := by rfl) (hs : starEach (e :: es) X.env = (false, eval e X.env) :: starEach es X.env := by rfl) : ML X T W (e :: es) (k :: ks) (lCons ma ml) := by
  refine PA.imp (pa_cons (MD.le h hl) hr hs) fun σ H Q ⟨ρ, S, F, E, z⟩ => ⟨ρ, S, F, E, ?_⟩
  unfold lCons M.bind at z
  unfold EndM
  split
  · rename_i hp; rw [hp] at z; exact z.elim
  · rename_i x ρ1 hp
    rw [hp] at z
    intro v H1 S1 F1 G1 A E1 r1
    obtain ⟨q1, n1, f1⟩ := r1
    have hF1 : ∀ a, a ∈ G1 ++ F1 → H1 a ≠ none := fun a h => by
      rcases List.mem_append.mp h with h | h
      · exact q1.own a h
      · exact E1.own a h
    refine ⟨ρ1, S1, F1, E1, ?_⟩
    simp only at z
    unfold EndL
    split
    · rename_i hq; rw [hq] at z; exact z.elim
    · rename_i y ρ2 hq
      rw [hq] at z
      intro vs H2 S2 F2 G2 A2 E2 r2 n2 f2
      have n1' := List.nodup_append.mp n1
      have G1F1 : ∀ a, a ∈ G1 → a ∉ F1 := fun a h1 h2 => n1'.2.2 a h1 a h2 rfl
      have q1' := q1.wait A2 E1.mo E1.apart G1F1
      have dis : ∀ a, a ∈ G1 → a ∉ G2 ++ F2 := fun a h1 h2 => by
        rcases A2.sub a h2 with q | q
        · exact G1F1 a h1 q
        · exact q1.own a h1 q
      refine z (v :: vs) H2 S2 F2 (G1 ++ G2) ?_ E2 ?_ ?_ fun a h => ?_
      · refine A.trans (A2.frame (fun a h => by simp [h]) (fun a h => ?_) hF1)
        simp only [List.mem_append] at h ⊢
        rcases h with (h | h) | h
        · exact .inr (.inl h)
        · exact .inl (.inl h)
        · exact .inl (.inr h)
      · simp only [Args]
        exact ⟨v, vs, G1, G2, rfl, rfl, q1', r2⟩
      · rw [List.append_assoc]
        exact List.nodup_append.mpr ⟨n1'.1, n2, fun a ha b hb e => dis a ha (e ▸ hb)⟩
      · rcases List.mem_append.mp h with h | h
        · exact A2.outs (q1.own a h) (f1 a h) (G1F1 a h)
        · exact f2 a h
    · rename_i y ρ2 hq
      rw [hq] at z
      exact z.later2 A hF1
  · rename_i x ρ1 hp; rw [hp] at z; exact z
def mL (ml : M (List D)) : M D := ml.bind fun ds => M.of (if ds.length ≤ cap then some (.lst ds) else none)
def mT (ml : M (List D)) : M D := ml.bind fun ds => M.of (if ds.length ≤ cap then some (.tup ds) else none)
theorem aft_laid {H H1 : Hp} {S S1 : Addr → Prop} {F F1 G : List Addr} {p : Addr} {o : HO} (A : Aft H S F H1 S1 (G ++ F1)) (hp : H1 p = none) : Aft H S F (upd H1 p o) S1 (p :: G ++ F1) := by
  have hs := same_upd (o := o) hp
  refine ⟨fun a o' e n => hs a o' (A.kp a o' e n), fun a h => Same.some hs (A.there a h), A.up, fun a h => ?_, A.dom, fun a h => ?_, fun a h => ?_⟩
  · rcases A.new a h with h | h | h
    · exact .inl h
    · exact .inr (.inl h)
    · exact .inr (.inr ⟨h.1, Same.some hs h.2⟩)
  · rcases List.mem_cons.mp h with rfl | h
    · exact .inr (A.back hp)
    · exact A.sub a h
  · rcases List.mem_cons.mp h with rfl | h
    · rw [upd_same]; exact fun z => nomatch z
    · exact Same.some hs (A.own a h)
theorem env_laid {T : Ty} {ρ : Rho} {σ : St} {H : Hp} {S : Addr → Prop} {F : List Addr} {p : Addr} {o : HO} (E : EnvOk mg T ρ σ H S F) (hp : H p = none) : EnvOk mg T ρ σ (upd H p o) S F := E.grow (E.rf.laid hp)
theorem m_lst {ks : List Nat} (k : Nat) (h : ML X T W es ks ml) (hk : (ks.all (· == k)) = true := by rfl) : MD X T W (.List es pos) (.ow (k + 1)) (mL ml) := by
  refine PE.imp (pe_lst h) fun σ H Q ⟨ρ, S, F, E, z⟩ => ⟨ρ, S, F, E, ?_⟩
  unfold mL M.bind at z
  unfold EndL
  split
  · rename_i hp; rw [hp] at z; exact z.elim
  · rename_i ds ρ1 hp
    rw [hp] at z
    intro vs H1 S1 F1 G1 A E1 r n f
    have r := r.reps hk
    simp only [M.of] at z
    split at z
    · rename_i hc
      refine ⟨by rw [r.length]; exact cap_le hc, fun p hp => z (.ref p) _ S1 F1 (p :: G1) (aft_laid A hp) (env_laid E1 hp) ⟨?_, ?_, fun a h => ?_⟩⟩
      · simp only [Rep]
        exact ⟨p, vs, G1, rfl, upd_same, rfl, r.mono (fun _ h => h) (Same.ext (same_upd hp))⟩
      · exact List.nodup_cons.mpr ⟨fun h => A.own p h hp, n⟩
      · rcases List.mem_cons.mp h with rfl | h
        · exact fun q => E1.dom _ q hp
        · exact f a h
    · exact z.elim
  · rename_i x ρ1 hp; rw [hp] at z; exact z
theorem m_tup {x1} {ks : List Nat} (k : Nat) (h : ML X T W es ks ml) (hk : (ks.all (· == k)) = true := by rfl) : MD X T W (.Tuple es x1 pos) (.ow (k + 1)) (mT ml) := by
  refine PE.imp (pe_tup h) fun σ H Q ⟨ρ, S, F, E, z⟩ => ⟨ρ, S, F, E, ?_⟩
  unfold mT M.bind at z
  unfold EndL
  split
  · rename_i hp; rw [hp] at z; exact z.elim
  · rename_i ds ρ1 hp
    rw [hp] at z
    intro vs H1 S1 F1 G1 A E1 r n f
    have r := r.reps hk
    simp only [M.of] at z
    split at z
    · rename_i hc
      refine ⟨by rw [r.length]; exact cap_le hc, fun p hp => ?_⟩
      have A2 := aft_laid (o := .tup vs) A hp
      refine z (.ref p) _ S1 F1 G1 ⟨A2.kp, A2.there, A2.up, A2.new, A2.dom, fun a h => A2.sub a (by simp only [List.mem_append, List.cons_append, List.mem_cons] at h ⊢; exact .inr h), fun a h => A2.own a (by simp only [List.mem_append, List.cons_append, List.mem_cons] at h ⊢; exact .inr h)⟩ (env_laid E1 hp) ⟨?_, n, f⟩
      simp only [Rep]
      exact ⟨p, vs, rfl, upd_same, r.mono (fun _ h => h) (Same.ext (same_upd hp))⟩
    · exact z.elim
  · rename_i x ρ1 hp; rw [hp] at z; exact z
end
end DL
end

section
set_option Elab.async false
set_option linter.all false
set_option maxRecDepth 100000
set_option maxHeartbeats 4000000
/-! DL12: places; what changes a part of a slot. -/
namespace DL
open PySem PySem.Spec PyProof.Rows L2

section
variable {mg : Mg} {H H' H1 H2 : Hp} {S S' S1 S2 : Addr → Prop} {T : Ty} {ρ : Rho} {σ : St} {F F1 F2 F3 G : List Addr} {k : Nat} {d : D} {v : V}
theorem At.snoc : ∀ {π : List Nat} {v0 v : V} {a : Addr} {o : HO} {xs : List V} {n : Nat} {w : V}, At H v0 π v → v = .ref a → H a = some o → partsV o = some xs → xs[n]? = some w → At H v0 (π ++ [n]) w
  | [], v0, v, a, o, xs, n, w, h, e1, e2, e3, e4 => by
    have h : v = v0 := h
    subst h
    exact ⟨a, o, xs, w, e1, e2, e3, e4, rfl⟩
  | m :: π, v0, v, a, o, xs, n, w, h, e1, e2, e3, e4 => by
    obtain ⟨a', o', xs', v1, f1, f2, f3, f4, h⟩ := h
    exact ⟨a', o', xs', v1, f1, f2, f3, f4, At.snoc h e1 e2 e3 e4⟩
theorem getP_snoc : ∀ {π : List Nat} {d x y : D} {n : Nat}, getP d π = some x → (partAt x)[n]? = some y → getP d (π ++ [n]) = some y
  | [], d, x, y, n, h, h2 => by
    simp only [getP, Option.some.injEq] at h
    subst h
    simp [getP, h2]
  | m :: π, d, x, y, n, h, h2 => by
    simp only [getP, Option.bind_eq_some_iff, List.cons_append] at h ⊢
    obtain ⟨z, hz, h⟩ := h
    exact ⟨z, hz, getP_snoc h h2⟩
/-- a part of a slot, and what a change of it leaves -/
theorem mut_env {i : Nat} {π : List Nat} {x : D} {v0 : V} (E : EnvOk mg T ρ σ H S F) (hx : ρ[i]? = some (some d)) (hk : T.ks[i]? = some (k + π.length)) (hv : σ[i]? = some (some v0)) (hp : getP d π = some x) :
    ∃ w B, At H v0 π w ∧ Rep mg H S x k w B ∧ (∀ a, a ∈ B → a ∈ F) ∧ B.Nodup ∧ ∀ (H' : Hp) (S' : Addr → Prop) (x' : D) (B' : List Addr), (∀ a, S a → S' a) → Ext (fun a => S a ∨ (a ∈ F ∧ a ∉ B)) H H' → Rep mg H' S' x' k w B' → B'.Nodup →
      (∀ a, a ∈ B' → a ∈ B ∨ a ∉ F) → (∀ a, a ∈ B' → ¬ S' a) → (∀ a, a ∈ F → a ∉ B → ¬ S' a) → (∀ a, S' a → H' a ≠ none) → ∃ F', EnvOk mg T (ρ.set i (some (setP d π x'))) σ H' S' F' ∧ ∀ a, a ∈ F' ↔ a ∈ B' ∨ (a ∈ F ∧ a ∉ B) := by
  obtain ⟨k0, o, A, B0, C, ek, eo, eF, ⟨v, rfl, r⟩, z⟩ := E.slots.focus hx
  rw [hk] at ek; cases ek
  rw [hv] at eo; cases eo
  obtain ⟨w, A2, B, C2, hat, rfl, rb, z2⟩ := r.path hp
  have nd := E.nodup
  subst eF
  simp only [List.nodup_append, List.mem_append, List.append_assoc] at nd
  obtain ⟨n1, ⟨n2, ⟨n3, ⟨n4, n5, d45⟩, d3⟩, d2⟩, d1⟩ := nd
  have out : ∀ a, (a ∈ A ∨ a ∈ A2 ∨ a ∈ C2 ∨ a ∈ C) ↔ (a ∈ A ++ ((A2 ++ (B ++ C2)) ++ C) ∧ a ∉ B) := fun a => by
    simp only [List.mem_append]
    constructor
    · rintro (h | h | h | h)
      · exact ⟨.inl h, fun hb => d1 a h a (.inr (.inl hb)) rfl⟩
      · exact ⟨.inr (.inl (.inl h)), fun hb => d2 a h a (.inl hb) rfl⟩
      · exact ⟨.inr (.inl (.inr (.inr h))), fun hb => d3 a hb a (.inl h) rfl⟩
      · exact ⟨.inr (.inr h), fun hb => d3 a hb a (.inr h) rfl⟩
    · rintro ⟨h | (h | h | h) | h, hb⟩
      · exact .inl h
      · exact .inr (.inl h)
      · exact absurd h hb
      · exact .inr (.inr (.inl h))
      · exact .inr (.inr (.inr h))
  refine ⟨w, B, hat, rb, fun a h => by simp [h], n3, fun H' S' x' B' hs ex rx nb hb hb2 hf hd => ?_⟩
  have q2 := z2 H' S' x' B' hs (fun b o e q => ex b o e (q.imp (Or.imp id fun q => (out b).mp (q.elim (fun q => .inr (.inl q)) fun q => .inr (.inr (.inl q)))) id)) rx
  have q := z H' S' (some (setP d π x')) (some v0) (A2 ++ (B' ++ C2)) hs (fun b o e q => ex b o e (q.imp (Or.imp id fun q => (out b).mp (q.elim .inl fun q => .inr (.inr (.inr q)))) id)) ⟨v0, rfl, q2⟩
  have hl : i < σ.length := (List.getElem?_eq_some_iff.mp hv).1
  have es : σ.set i (some v0) = σ := set_self hv
  rw [es] at q
  refine ⟨A ++ ((A2 ++ (B' ++ C2)) ++ C), ⟨q, ?_, fun a ha => ?_, hd, E.io⟩, fun a => ?_⟩
  · have nb' : ∀ a, a ∈ B' → ∀ b, (b ∈ A ∨ b ∈ A2 ∨ b ∈ C2 ∨ b ∈ C) → a ≠ b := fun a ha b hb1 e => by
      subst e
      have := (out a).mp hb1
      rcases hb a ha with h | h
      · exact this.2 h
      · exact h this.1
    simp only [List.nodup_append, List.mem_append, List.append_assoc]
    refine ⟨n1, ⟨n2, ⟨nb, ⟨n4, n5, d45⟩, fun a ha b hb1 => nb' a ha b (.inr (.inr hb1))⟩, fun a ha b hb1 => ?_⟩, fun a ha b hb1 => ?_⟩
    · rcases hb1 with h | h
      · exact (nb' b h a (.inr (.inl ha))).symm
      · exact d2 a ha b (.inr h)
    · rcases hb1 with h | h | h
      · exact d1 a ha b (.inl h)
      · exact (nb' b h a (.inl ha)).symm
      · exact d1 a ha b (.inr (.inr h))
  · simp only [List.mem_append] at ha
    rcases ha with h | (h | h | h) | h
    · have := (out a).mp (.inl h); exact hf a this.1 this.2
    · have := (out a).mp (.inr (.inl h)); exact hf a this.1 this.2
    · exact hb2 a h
    · have := (out a).mp (.inr (.inr (.inl h))); exact hf a this.1 this.2
    · have := (out a).mp (.inr (.inr (.inr h))); exact hf a this.1 this.2
  · rw [← out a]
    simp only [List.mem_append]
    constructor
    · rintro (h | (h | h | h) | h)
      · exact .inr (.inl h)
      · exact .inr (.inr (.inl h))
      · exact .inl h
      · exact .inr (.inr (.inr (.inl h)))
      · exact .inr (.inr (.inr (.inr h)))
    · rintro (h | h | h | h | h)
      · exact .inr (.inl (.inr (.inl h)))
      · exact .inl h
      · exact .inr (.inl (.inl h))
      · exact .inr (.inl (.inr (.inr h)))
      · exact .inr (.inr h)
end

/-! ### places -/
def slotD (ρ : Rho) (i : Nat) : Option D := (ρ[i]?).join
theorem slotD_some {ρ : Rho} {i : Nat} {d : D} (h : slotD ρ i = some d) : ρ[i]? = some (some d) := by
  unfold slotD at h
  cases e : ρ[i]? with
  | none => simp [e] at h
  | some x => simp [e] at h; rw [h]
def tPl (mg : Mg) (T : Ty) (i n : Nat) (p : Rho → Option (List Nat)) : TE := fun σ H Q => ∃ ρ S F, EnvOk mg T ρ σ H S F ∧ ∃ π d x, p ρ = some π ∧ π.length = n ∧ ρ[i]? = some (some d) ∧ getP d π = some x ∧
  ∀ v0 v H' S', σ[i]? = some (some v0) → Grow H S H' S' → At H' v0 π v → Q v H'
/-- paths of that length -/
def PlN (n : Nat) (p : Rho → Option (List Nat)) : Prop := ∀ ρ π, p ρ = some π → π.length = n
structure PL (X : Cx) (T : Ty) (e : Expr) (i n : Nat) (p : Rho → Option (List Nat)) : Prop where
  pe : PE X e (tPl X.mg T i n p)
  len : PlN n p
section
variable {X : Cx} {T : Ty} {W : WX} {a b c e o : Expr} {es : List Expr} {pos : Pos} {m m1 m2 md : Md} {p q : Rho → Option D} {pl : Rho → Option (List Nat)} {ma mb : M D} {ml : M (List D)} {mg : Mg} {i n k : Nat}
def plVar : Rho → Option (List Nat) := fun _ => some []
theorem pl_var (i : Nat) {x : Str} (hN : X.N[i]? = some x := by rfl) (hv : Vis X.env.scope x := by first | exact Or.inl rfl | exact Or.inr (Or.inl rfl) | exact Or.inr (Or.inr rfl)) (hd : (x == ("__debug__" : Str)) = false := by decide)
    (hcd : (x == ("__classdict__" : Str)) = false := by decide) : PL X T (.Name x pos) i 0 plVar := by
  refine ⟨PE.imp (pe_var hN hv hd hcd) fun σ H Q ⟨ρ, S, F, E, π, d, x, hp, hl, hx, hg, z⟩ => ?_, fun _ _ h => by cases h; rfl⟩
  cases hp
  obtain ⟨k, v, G, ek, ev, r, hG⟩ := E.at hx
  exact ⟨v, ev, z v v H S ev E.rf rfl⟩
def plIx (i : Nat) (pl : Rho → Option (List Nat)) (q : Rho → Option D) : Rho → Option (List Nat) := fun ρ => (pl ρ).bind fun π => (slotD ρ i).bind fun d => (getP d π).bind fun x => (q ρ).bind fun y => (ixD x y).bind fun _ => (ixP x y).map fun j => π ++ [j]
theorem pl_ix (k : Nat) (ho : PL X T o i n pl) (hi : PD X T e m q) (hu : X.A.units + 1 < cLine) (hk : T.ks[i]? = some (k + 1 + n) := by rfl) (hs : PlainIx e := by intro _ _; rfl) : PL X T (.Subscript o e pos) i (n + 1) (plIx i pl q) := by
  have hln : PlN (n + 1) (plIx i pl q) := fun ρ π h => by
    simp only [plIx, Option.bind_eq_some_iff, Option.map_eq_some_iff] at h
    obtain ⟨π', h, d, hd, x, hx, y, hy, w, hw, j, hj, rfl⟩ := h
    simp [ho.len ρ π' h]
  refine ⟨PE.imp (pe_ix (r_ix hu) ho.pe hi hs) fun σ H Q ⟨ρ, S, F, E, π', d, x', hp, hl, hx, hg, z⟩ => ?_, hln⟩
  simp only [plIx, Option.bind_eq_some_iff, Option.map_eq_some_iff] at hp
  obtain ⟨π, hπ, d', hd', x, hx', y, hy, w, hw, j, hj, rfl⟩ := hp
  have e1 := slotD_some hd'
  rw [hx] at e1; cases e1
  have hl' : π.length = n := by simpa using hl
  refine ⟨ρ, S, F, E, π, d, x, hπ, hl', hx, hx', fun v0 v H1 S1 hv0 g1 at1 => ⟨ρ, S1, F, E.grow g1, y, hy, fun v2 H2 S2 G2 g2 r2 => ?_⟩⟩
  have E2 := (E.grow g1).grow g2
  obtain ⟨w', B, at', rb, _, _, _⟩ := mut_env (k := k + 1) E2 hx (by rw [hl']; exact hk) hv0 hx'
  have ew := (at1.mono g2.same).inj at'
  subst ew
  have vw : View X.mg H2 (fun a => S2 a ∨ a ∈ B) x v := rb.freeze (fun _ h => .inl h) (fun _ h => .inr h)
  obtain ⟨xs, j', u, hp', hj', hu', _, q, ⟨a, o, ea, eo, ep⟩, fin⟩ := ix_core (X := X) (S' := S2) hw vw r2.view
  rw [hj] at hp'; cases hp'
  exact fin Q (z v0 u H2 S2 hv0 (g1.trans g2) (at'.snoc ea eo ep hu'))
/-- a field of an instance at a place -/
def plFld (i : Nat) (c f : String) (pl : Rho → Option (List Nat)) : Rho → Option (List Nat) := fun ρ => (pl ρ).bind fun π => (slotD ρ i).bind fun d => (getP d π).bind fun x => (fldOf c f x).bind fun _ => (fldP c f x).map fun j => π ++ [j]
theorem pl_fld (k : Nat) {c f : String} (ok : FldOk X c f) (ho : PL X T o i n pl) (hk : T.ks[i]? = some (k + 1 + n) := by rfl) (hb : attributeBase o (Str.ofString f) X.env (eval o X.env) = eval o X.env := by rfl) : PL X T (.Attribute o (Str.ofString f) pos) i (n + 1) (plFld i c f pl) := by
  have hln : PlN (n + 1) (plFld i c f pl) := fun ρ π h => by
    simp only [plFld, Option.bind_eq_some_iff, Option.map_eq_some_iff] at h
    obtain ⟨π', h, d, hd, x, hx, w, hw, j, hj, rfl⟩ := h
    simp [ho.len ρ π' h]
  refine ⟨PE.imp (pe_fld ho.pe hb) fun σ H Q ⟨ρ, S, F, E, π', d, x', hp, hl, hx, hg, z⟩ => ?_, hln⟩
  simp only [plFld, Option.bind_eq_some_iff, Option.map_eq_some_iff] at hp
  obtain ⟨π, hπ, d', hd', x, hx', w, hw, j, hj, rfl⟩ := hp
  have e1 := slotD_some hd'
  rw [hx] at e1; cases e1
  have hl' : π.length = n := by simpa using hl
  refine ⟨ρ, S, F, E, π, d, x, hπ, hl', hx, hx', fun v0 v H1 S1 hv0 g1 at1 => ?_⟩
  obtain ⟨w', B, at', rb, _, _, _⟩ := mut_env (k := k + 1) (E.grow g1) hx (by rw [hl']; exact hk) hv0 hx'
  have ew := at1.inj at'
  subst ew
  have vw : View X.mg H1 (fun a => S1 a ∨ a ∈ B) x v := rb.freeze (fun _ h => .inl h) (fun _ h => .inr h)
  obtain ⟨xs, j', u, a, C, dx, fs, hp', hj', hu', _, q, rfl, hm, eo, hlk, ep⟩ := fld_core (S' := S1) hw vw
  rw [hj] at hp'; cases hp'
  obtain ⟨c1, c2⟩ := ok C hm
  exact ⟨a, C, dx, fs, u, rfl, eo, c1, c2, hlk, z v0 u H1 S1 hv0 g1 (at'.snoc rfl eo ep hu')⟩
end
end DL
end

section
set_option Elab.async false
set_option linter.all false
set_option maxRecDepth 100000
set_option maxHeartbeats 4000000
/-! DL13: what changes a part of a slot. -/
namespace DL
open PySem PySem.Spec PyProof.Rows L2

def OpMu (X : Cx) (r : V → List V → Hp → VK → Prop) (k : Nat) (ks : List Nat) (kd : Nat) (f : D → List D → Option (D × D)) : Prop :=
  ∀ (x x' d : D) (ds : List D) (w : V) (vs : List V) (H : Hp) (S : Addr → Prop) (B G : List Addr) (Q : VK), f x ds = some (x', d) → Rep X.mg H S x (k + 1) w B → Args X.mg H S ks ds vs G → (B ++ G).Nodup → (∀ a, a ∈ B → ¬ S a) → (∀ a, a ∈ G → ¬ S a) →
    (∀ v H' B' Gr, (∀ a, a ∉ B → H' a = H a) → (∀ a, H a ≠ none → H' a ≠ none) → Rep X.mg H' S x' (k + 1) w B' → Rep X.mg H' S d kd v Gr → (Gr ++ B').Nodup → (∀ a, a ∈ Gr ++ B' → a ∈ B ∨ a ∈ G) → Q v H') → r w vs H Q

section
variable {X : Cx} {mg : Mg} {H H' H1 H2 : Hp} {S S' S1 S2 : Addr → Prop} {T : Ty} {ρ : Rho} {σ : St} {F F1 F2 F3 G : List Addr} {k : Nat} {d : D} {v : V}
theorem mut_fin {r : V → List V → Hp → VK → Prop} {ks : List Nat} {kd : Nat} {f : D → List D → Option (D × D)} {i : Nat} {π : List Nat} {x x' y : D} {ds : List D} {v0 w : V} {vs : List V} {Q : VK} (op : OpMu X r k ks kd f) (E : EnvOk X.mg T ρ σ H S F) (hx : ρ[i]? = some (some d)) (hk : T.ks[i]? = some (k + 1 + π.length)) (hv : σ[i]? = some (some v0)) (hp : getP d π = some x)
    (hat : At H v0 π w) (hf : f x ds = some (x', y)) (ra : Args X.mg H S ks ds vs G) (n2 : (G ++ F).Nodup) (f2 : ∀ a, a ∈ G → ¬ S a)
    (z : ∀ v H' F' Gr, Aft H S (G ++ F) H' S (Gr ++ F') → EnvOk X.mg T (ρ.set i (some (setP d π x'))) σ H' S F' → RpE X.mg H' S F' (.ow kd) y v Gr → Q v H') : r w vs H Q := by
  obtain ⟨w', B, at', rb, hB, nB, fin⟩ := mut_env (k := k + 1) E hx hk hv hp
  have ew := hat.inj at'
  subst ew
  have n2' := List.nodup_append.mp n2
  have GF : ∀ a, a ∈ G → a ∉ F := fun a h1 h2 => n2'.2.2 a h1 a h2 rfl
  refine op x x' y ds w vs H S B G Q hf rb ra (List.nodup_append.mpr ⟨nB, n2'.1, fun a ha b hb e => GF b hb (e ▸ hB a ha)⟩) (fun a h => E.apart a (hB a h)) f2 fun v H' B' Gr hk1 hk2 r1 r2 nd hs => ?_
  have nd' := List.nodup_append.mp nd
  have ext : ∀ {P : Addr → Prop}, (∀ a, P a → a ∉ B) → Ext P H H' := fun hP a o e q => by
    rcases q with q | q
    · rw [hk1 a (hP a q)]; exact e
    · by_cases ha : a ∈ B
      · obtain ⟨o', e', m⟩ := rb.mo a ha
        rw [e] at e'; cases e'
        rw [not_tup_of_Mo m] at q; cases q
      · rw [hk1 a ha]; exact e
  have sB : ∀ a, a ∈ Gr ++ B' → ¬ S a := fun a h => (hs a h).elim (fun h => E.apart a (hB a h)) (f2 a)
  obtain ⟨F', E', hF'⟩ := fin H' S x' B' (fun _ h => h) (ext fun a h hb => h.elim (fun h => E.apart a (hB a hb) h) fun h => h.2 hb) r1 nd'.2.1 (fun a h => (hs a (by simp [h])).imp id (GF a)) (fun a h => sB a (by simp [h])) (fun a h1 _ => E.apart a h1) (fun a h => hk2 a (E.dom a h))
  have gr : ∀ a, a ∈ Gr → a ∉ F' := fun a h1 h2 => by
    rcases (hF' a).mp h2 with h | h
    · exact nd'.2.2 a h1 a h rfl
    · rcases hs a (by simp [h1]) with q | q
      · exact h.2 q
      · exact GF a q h.1
  refine z v H' F' Gr ⟨fun a o e n => ?_, hk2, fun _ h => h, fun _ h => .inl h, E.dom, fun a h => ?_, fun a h => ?_⟩ E' ⟨r2, List.nodup_append.mpr ⟨nd'.1, E'.nodup, fun a ha b hb e => gr a ha (e ▸ hb)⟩, fun a h => sB a (by simp [h])⟩
  · rw [hk1 a fun h => n (by simp [hB a h])]; exact e
  · refine .inl ?_
    rcases List.mem_append.mp h with h | h
    · rcases hs a (by simp [h]) with q | q
      · simp [hB a q]
      · simp [q]
    · rcases (hF' a).mp h with h | h
      · rcases hs a (by simp [h]) with q | q
        · simp [hB a q]
        · simp [q]
      · simp [h.1]
  · rcases List.mem_append.mp h with h | h
    · exact r2.own a h
    · exact E'.own a h

/-! ### lists -/
theorem ext_upd {P : Addr → Prop} {a : Addr} {o o' : HO} (h : ∀ b, P b → b ≠ a) (e : H a = some o) (ht : isTup o = false) : Ext P H (upd H a o') := fun b ob eb q => by
  by_cases z : b = a
  · subst z
    rcases q with q | q
    · exact absurd rfl (h _ q)
    · rw [e] at eb; cases eb
      rw [ht] at q; cases q
  · unfold upd; rw [if_neg z]; exact eb
theorem upd_ne {a b : Addr} {o : HO} (h : b ≠ a) : upd H a o b = H b := by unfold upd; rw [if_neg h]
/-- the end of a change of a list -/
theorem mu_lst {a : Addr} {xs ys : List V} {ds ds' : List D} {y : D} {v : V} {G' G G2 Gr : List Addr} {kd : Nat} {Q : VK} (e : H a = some (.lst xs)) (q : Reps mg H S ds k xs G') (nd : ((a :: G') ++ G).Nodup) (ap : ∀ b, b ∈ a :: G' → ¬ S b) (ap2 : ∀ b, b ∈ G → ¬ S b)
    (r1 : Reps mg H S ds' k ys G2) (r2 : Rep mg H S y kd v Gr) (n2 : (Gr ++ G2).Nodup) (hs : ∀ b, b ∈ Gr ++ G2 → b ∈ G' ∨ b ∈ G)
    (z : ∀ v H' B' Gr, (∀ b, b ∉ a :: G' → H' b = H b) → (∀ b, H b ≠ none → H' b ≠ none) → Rep mg H' S (.lst ds') (k + 1) (.ref a) B' → Rep mg H' S y kd v Gr → (Gr ++ B').Nodup → (∀ b, b ∈ Gr ++ B' → b ∈ a :: G' ∨ b ∈ G) → Q v H') : Q v (upd H a (.lst ys)) := by
  have na : ∀ b, b ∈ G' ∨ b ∈ G → b ≠ a := fun b h e => by
    subst e
    rw [List.cons_append, List.nodup_cons] at nd
    exact nd.1 (by simpa using h)
  have n2' := List.nodup_append.mp n2
  refine z v _ (a :: G2) Gr (fun b h => upd_ne fun e => h (by simp [e])) (fun b h => ?_) ?_ (r2.mono (fun _ h => h) (ext_upd (fun b h => ?_) e rfl)) ?_ fun b h => ?_
  · by_cases z : b = a
    · subst z; rw [upd_same]; exact fun z => nomatch z
    · rw [upd_ne z]; exact h
  · simp only [Rep]
    refine ⟨a, ys, G2, rfl, upd_same, rfl, r1.mono (fun _ h => h) (ext_upd (fun b h => ?_) e rfl)⟩
    rcases h with h | h
    · exact fun e => ap a (by simp) (e ▸ h)
    · exact na b (hs b (by simp [h]))
  · rcases h with h | h
    · exact fun e => ap a (by simp) (e ▸ h)
    · exact na b (hs b (by simp [h]))
  · refine List.nodup_append.mpr ⟨n2'.1, List.nodup_cons.mpr ⟨fun h => na a (hs a (by simp [h])) rfl, n2'.2.1⟩, fun b hb c hc e => ?_⟩
    subst e
    rcases List.mem_cons.mp hc with h | h
    · exact na b (hs b (by simp [hb])) h
    · exact n2'.2.2 b hb b h rfl
  · rcases List.mem_append.mp h with h | h
    · exact (hs b (by simp [h])).imp (by simp +contextual) id
    · rcases List.mem_cons.mp h with h | h
      · exact .inl (by simp [h])
      · exact (hs b (by simp [h])).imp (by simp +contextual) id
theorem Rep.lst_inv {ds : List D} {w : V} {B : List Addr} (r : Rep mg H S (.lst ds) (k + 1) w B) : ∃ a xs G', w = .ref a ∧ H a = some (.lst xs) ∧ B = a :: G' ∧ Reps mg H S ds k xs G' := by
  simpa only [Rep] using r
theorem args_one {ds : List D} {vs : List V} {k : Nat} (r : Args mg H S [k] ds vs G) : ∃ d v, ds = [d] ∧ vs = [v] ∧ Rep mg H S d k v G := by
  cases ds with
  | nil => simp only [Args] at r
  | cons d ds =>
    simp only [Args] at r
    obtain ⟨v, r0, G1, G2, rfl, rfl, h1, h2⟩ := r
    cases ds with
    | nil =>
      simp only [Args] at h2
      obtain ⟨rfl, rfl⟩ := h2
      exact ⟨d, v, rfl, rfl, by simpa using h1⟩
    | cons _ _ => simp only [Args] at h2
theorem args_two {ds : List D} {vs : List V} {k j : Nat} (r : Args mg H S [k, j] ds vs G) : ∃ d e v w G1 G2, ds = [d, e] ∧ vs = [v, w] ∧ G = G1 ++ G2 ∧ Rep mg H S d k v G1 ∧ Rep mg H S e j w G2 := by
  cases ds with
  | nil => simp only [Args] at r
  | cons d ds =>
    rw [Args] at r
    obtain ⟨v, r0, G1, G2, rfl, rfl, h1, h2⟩ := r
    obtain ⟨e, w, rfl, rfl, h3⟩ := args_one h2
    exact ⟨d, e, v, w, G1, G2, rfl, rfl, rfl, h1, h3⟩
theorem rep_non : Rep mg H S .non k .non [] := by
  cases k <;> simp [Rep, View]
def appD : D → List D → Option (D × D)
  | .lst ds, [d] => if ds.length < cap then some (.lst (ds ++ [d]), .non) else none
  | _, _ => none
theorem u_append : OpMu X rAppend k [k] 0 appD := by
  intro x x' y ds w vs H S B G Q hf r ra nd sb sg z
  unfold appD at hf
  split at hf
  · rename_i es d
    split at hf
    · rename_i hc
      cases hf
      obtain ⟨a, xs, G', rfl, e, rfl, q⟩ := r.lst_inv
      obtain ⟨d', v, e1, rfl, rd⟩ := args_one ra
      cases e1
      refine ⟨a, xs, v, rfl, rfl, e, by rw [q.length]; exact cap_lt hc, ?_⟩
      have n3 : (G' ++ G).Nodup := by rw [List.cons_append, List.nodup_cons] at nd; exact nd.2
      exact mu_lst e q nd sb sg (q.append (show Reps X.mg H S [d] k [v] G by simp only [Reps]; exact ⟨v, [], G, [], rfl, by simp, rd, rfl, rfl⟩)) rep_non (by simpa using n3) (by simp) z
    · cases hf
  · cases hf
theorem Reps.erase : ∀ {ds : List D} {k : Nat} {vs : List V} {G : List Addr} {i : Nat} {d : D}, Reps mg H S ds k vs G → ds[i]? = some d →
    ∃ v A B C, vs[i]? = some v ∧ G = A ++ (B ++ C) ∧ Rep mg H S d k v B ∧ Reps mg H S (ds.eraseIdx i) k (vs.eraseIdx i) (A ++ C)
  | [], _, _, _, _, _, _, e => by simp at e
  | d :: ds, k, vs, G, 0, d', h, e => by
    simp only [Reps] at h
    obtain ⟨v, r, G1, G2, rfl, rfl, h1, h2⟩ := h
    simp at e; subst e
    exact ⟨v, [], G1, G2, rfl, rfl, h1, h2⟩
  | d :: ds, k, vs, G, i + 1, d', h, e => by
    simp only [Reps] at h
    obtain ⟨v, r, G1, G2, rfl, rfl, h1, h2⟩ := h
    obtain ⟨v', A, B, C, ev, rfl, q, z⟩ := Reps.erase (i := i) h2 (by simpa using e)
    refine ⟨v', G1 ++ A, B, C, by simpa using ev, by simp [List.append_assoc], q, ?_⟩
    simp only [List.eraseIdx_cons_succ, Reps]
    exact ⟨v, _, G1, A ++ C, rfl, by simp [List.append_assoc], h1, z⟩
theorem Reps.cut2 : ∀ (n : Nat) {ds : List D} {k : Nat} {vs : List V} {G : List Addr}, Reps mg H S ds k vs G → ∃ G1 G2, G = G1 ++ G2 ∧ Reps mg H S (ds.take n) k (vs.take n) G1 ∧ Reps mg H S (ds.drop n) k (vs.drop n) G2
  | 0, ds, k, vs, G, h => ⟨[], G, rfl, by simp [Reps], by simpa using h⟩
  | n + 1, [], k, vs, G, h => by
    simp only [Reps] at h
    obtain ⟨rfl, rfl⟩ := h
    exact ⟨[], [], rfl, by simp [Reps], by simp [Reps]⟩
  | n + 1, d :: ds, k, vs, G, h => by
    simp only [Reps] at h
    obtain ⟨v, r, G1, G2, rfl, rfl, h1, h2⟩ := h
    obtain ⟨A, B, rfl, q1, q2⟩ := Reps.cut2 n h2
    refine ⟨G1 ++ A, B, by simp [List.append_assoc], ?_, by simpa using q2⟩
    simp only [List.take_succ_cons, Reps]
    exact ⟨v, _, G1, A, rfl, rfl, h1, q1⟩
def popD : D → List D → Option (D × D)
  | .lst ds, [] => (ds[ds.length - 1]?).map fun d => (.lst ds.dropLast, d)
  | _, _ => none
theorem erase_last {α : Type} (xs : List α) : xs.eraseIdx (xs.length - 1) = xs.dropLast := by
  cases xs with
  | nil => rfl
  | cons a xs =>
    rw [List.dropLast_eq_take, List.eraseIdx_eq_take_drop_succ]
    simp
theorem pop_fin {a : Addr} {xs : List V} {ds : List D} {j : Nat} {y : D} {G' G : List Addr} {Q : VK} (e : H a = some (.lst xs)) (q : Reps mg H S ds k xs G') (nd : ((a :: G') ++ G).Nodup) (ap : ∀ b, b ∈ a :: G' → ¬ S b) (ap2 : ∀ b, b ∈ G → ¬ S b) (hj : ds[j]? = some y)
    (z : ∀ v H' B' Gr, (∀ b, b ∉ a :: G' → H' b = H b) → (∀ b, H b ≠ none → H' b ≠ none) → Rep mg H' S (.lst (ds.eraseIdx j)) (k + 1) (.ref a) B' → Rep mg H' S y k v Gr → (Gr ++ B').Nodup → (∀ b, b ∈ Gr ++ B' → b ∈ a :: G' ∨ b ∈ G) → Q v H') : ∃ v, xs[j]? = some v ∧ Q v (upd H a (.lst (xs.eraseIdx j))) := by
  obtain ⟨v, A, B, C, ev, rfl, rb, re⟩ := q.erase hj
  refine ⟨v, ev, mu_lst e q nd ap ap2 re rb ?_ (fun b h => .inl ?_) z⟩
  · rw [List.cons_append, List.nodup_cons] at nd
    have := (List.nodup_append.mp nd.2).1
    simp only [List.nodup_append, List.mem_append] at this ⊢
    refine ⟨this.2.1.1, ⟨this.1, this.2.1.2.1, fun a ha b hb => this.2.2 a ha b (.inr hb)⟩, fun a ha b hb => ?_⟩
    rcases hb with hb | hb
    · exact fun e => this.2.2 b hb a (.inl ha) e.symm
    · exact this.2.1.2.2 a ha b hb
  · simp only [List.mem_append] at h ⊢
    rcases h with h | h | h
    · exact .inr (.inl h)
    · exact .inl h
    · exact .inr (.inr h)
theorem u_pop : OpMu X rPop k [] k popD := by
  intro x x' y ds w vs H S B G Q hf r ra nd sb sg z
  unfold popD at hf
  split at hf
  · rename_i es
    simp only [Option.map_eq_some_iff, Prod.mk.injEq] at hf
    obtain ⟨d, hd, rfl, rfl⟩ := hf
    obtain ⟨a, xs, G', rfl, e, rfl, q⟩ := r.lst_inv
    have hl := q.length
    simp only [Args] at ra
    obtain ⟨rfl, rfl⟩ := ra
    obtain ⟨v, hv, hq⟩ := pop_fin (Q := Q) e q nd sb sg hd (by rw [erase_last]; exact z)
    rw [← hl] at hv hq
    rw [erase_last] at hq
    exact ⟨a, xs, v, rfl, rfl, e, hv, hq⟩
  · cases hf
def popAtD : D → List D → Option (D × D)
  | .lst ds, [.int i] => if -(2 ^ 63) ≤ i ∧ i < 2 ^ 63 then (ixN ds.length i).bind fun j => (ds[j]?).map fun d => (.lst (ds.eraseIdx j), d) else none
  | _, _ => none
theorem Rep.int {i : Int} {v : V} {k : Nat} (r : Rep mg H S (.int i) k v G) : v = .int i := by
  cases k <;> simp only [Rep, View] at r <;> exact r.1
theorem u_popAt : OpMu X rPopAt k [0] k popAtD := by
  intro x x' y ds w vs H S B G Q hf r ra nd sb sg z
  unfold popAtD at hf
  split at hf
  · rename_i es i
    split at hf
    · rename_i hi
      simp only [Option.bind_eq_some_iff, Option.map_eq_some_iff, Prod.mk.injEq] at hf
      obtain ⟨j, hj, d, hd, rfl, rfl⟩ := hf
      obtain ⟨a, xs, G', rfl, e, rfl, q⟩ := r.lst_inv
      obtain ⟨_, u, e1, rfl, ru⟩ := args_one ra
      cases e1
      have := ru.int
      subst this
      obtain ⟨v, hv, hq⟩ := pop_fin (Q := Q) e q nd sb sg hd z
      exact ⟨a, xs, i, j, v, rfl, rfl, e, hi.1, hi.2, by rw [q.length]; exact (ixN_seq hj).1, hv, hq⟩
    · cases hf
  · cases hf
def clrD : D → List D → Option (D × D)
  | .lst _, [] => some (.lst [], .non)
  | _, _ => none
theorem u_clear : OpMu X rClear k [] 0 clrD := by
  intro x x' y ds w vs H S B G Q hf r ra nd sb sg z
  unfold clrD at hf
  split at hf
  · cases hf
    obtain ⟨a, xs, G', rfl, e, rfl, q⟩ := r.lst_inv
    simp only [Args] at ra
    obtain ⟨rfl, rfl⟩ := ra
    exact ⟨a, xs, rfl, rfl, e, mu_lst e q nd sb sg (by simp only [Reps]; exact ⟨trivial, rfl⟩) rep_non (by simp) (by simp) z⟩
  · cases hf
def insD : D → List D → Option (D × D)
  | .lst ds, [.int i, d] => if ds.length < cap ∧ 0 ≤ i ∧ i < 2 ^ 63 then some (.lst (ds.take i.toNat ++ [d] ++ ds.drop i.toNat), .non) else none
  | _, _ => none
def rInsert : V → List V → Hp → VK → Prop := fun x vs H Q => ∃ (l : Addr) (xs : List V) (i : Int) (y : V), x = .ref l ∧ vs = [.int i, y] ∧ H l = some (.lst xs) ∧ xs.length < sizeLine ∧ 0 ≤ i ∧ i < 2 ^ 63 ∧
    Q .non (upd H l (.lst (xs.take i.toNat ++ [y] ++ xs.drop i.toNat)))
theorem Rep.flatG {y : D} {v : V} {k : Nat} (r : Rep mg H S y k v G) (f : flat y = true) : G = [] := (r.flat_nil f).1
theorem u_insert : OpMu X rInsert k [0, k] 0 insD := by
  intro x x' y ds w vs H S B G Q hf r ra nd sb sg z
  unfold insD at hf
  split at hf
  · rename_i es i d
    split at hf
    · rename_i hc
      cases hf
      obtain ⟨a, xs, G', rfl, e, rfl, q⟩ := r.lst_inv
      obtain ⟨_, _, u, v, G1, G2, e1, rfl, rfl, ru, rv⟩ := args_two ra
      cases e1
      have := ru.int
      subst this
      have hG := ru.flatG rfl
      subst hG
      obtain ⟨A, C, rfl, q1, q2⟩ := q.cut2 i.toNat
      refine ⟨a, xs, i, v, rfl, rfl, e, by rw [q.length]; exact cap_lt hc.1, hc.2.1, hc.2.2, ?_⟩
      refine mu_lst (G2 := A ++ G2 ++ C) e q nd sb sg ((q1.append (show Reps X.mg H S [d] k [v] G2 by simp only [Reps]; exact ⟨v, [], G2, [], rfl, by simp, rv, rfl, rfl⟩)).append q2) rep_non ?_ ?_ z
      · rw [List.cons_append, List.nodup_cons] at nd
        have := nd.2
        simp only [List.nil_append, List.nodup_append, List.mem_append] at this ⊢
        refine ⟨⟨this.1.1, this.2.1, fun a ha b hb => this.2.2 a (.inl ha) b hb⟩, this.1.2.1, fun a ha b hb => ?_⟩
        rcases ha with ha | ha
        · exact this.1.2.2 a ha b hb
        · exact fun e => this.2.2 b (.inr hb) a ha e.symm
      · intro b h
        simp only [List.nil_append, List.mem_append] at h ⊢
        rcases h with (h | h) | h
        · exact .inl (.inl h)
        · exact .inr h
        · exact .inl (.inr h)
    · cases hf
  · cases hf
/-- the first one out, of whole numbers -/
def remD : D → List D → Option (D × D)
  | .lst ds, [.int n] => (intsOf ds).bind fun ns => (posG ns n).map fun j => (.lst (ds.eraseIdx j), .non)
  | _, _ => none
theorem posG_get {α : Type} [DecidableEq α] {k : α} : ∀ {ks : List α} {j : Nat}, posG ks k = some j → ks[j]? = some k ∧ ∀ m, m < j → ks[m]? ≠ some k
  | [], j, h => by simp [posG] at h
  | a :: ks, j, h => by
    simp only [posG] at h
    split at h
    · rename_i e
      cases h
      exact ⟨by simp [e], fun m hm => absurd hm (Nat.not_lt_zero _)⟩
    · rename_i e
      simp only [Option.map_eq_some_iff] at h
      obtain ⟨i, hi, rfl⟩ := h
      obtain ⟨h1, h2⟩ := posG_get hi
      refine ⟨by simpa using h1, fun m hm => ?_⟩
      cases m with
      | zero => simp [e]
      | succ m => simpa using h2 m (by omega)
theorem u_remove : OpMu X rRemI k [0] 0 remD := by
  intro x x' y ds w vs H S B G Q hf r ra nd sb sg z
  unfold remD at hf
  split at hf
  · rename_i es n
    simp only [Option.bind_eq_some_iff, Option.map_eq_some_iff, Prod.mk.injEq] at hf
    obtain ⟨ns, hns, j, hj, rfl, rfl⟩ := hf
    obtain ⟨a, xs, G', rfl, e, rfl, q⟩ := r.lst_inv
    obtain ⟨_, u, e1, rfl, ru⟩ := args_one ra
    cases e1
    have := ru.int
    subst this
    have vw : Views X.mg H (fun _ => True) es xs := q.freeze (fun _ _ => trivial) (fun _ _ => trivial)
    have ex := intsOf_views hns vw
    obtain ⟨h1, h2⟩ := posG_get hj
    have hl : j < es.length := by
      have := (List.getElem?_eq_some_iff.mp h1).1
      rw [← q.length, ex, List.length_map]; exact this
    obtain ⟨v, A, B, C, ev, rfl, rb, re⟩ := q.erase (List.getElem?_eq_getElem hl)
    refine ⟨a, ns, n, j, rfl, rfl, by rw [e, ex], h1, h2, ?_⟩
    rw [← erase_mapI, ← ex]
    refine mu_lst (G2 := A ++ C) e q nd sb sg re rep_non ?_ ?_ z
    · rw [List.cons_append, List.nodup_cons] at nd
      have := (List.nodup_append.mp nd.2).1
      simp only [List.nil_append, List.nodup_append, List.mem_append] at this ⊢
      exact ⟨this.1, this.2.1.2.1, fun a ha b hb => this.2.2 a ha b (.inr hb)⟩
    · intro b h
      simp only [List.nil_append, List.mem_append] at h ⊢
      rcases h with h | h
      · exact .inl (.inl h)
      · exact .inl (.inr (.inr h))
  · cases hf
/-- o[i] = v as a change with i, v for arguments -/
def rSt (t : TSet) : V → List V → Hp → VK → Prop := fun x vs H Q => ∃ i v, vs = [i, v] ∧ t x i v H fun H' => Q .non H'
def setD : D → List D → Option (D × D)
  | .lst ds, [.int i, d] => (ixN ds.length i).map fun j => (.lst (ds.set j d), .non)
  | _, _ => none
theorem u_set : OpMu X (rSt rSetL) k [0, k] 0 setD := by
  intro x x' y ds w vs H S B G Q hf r ra nd sb sg z
  unfold setD at hf
  split at hf
  · rename_i es i d
    simp only [Option.map_eq_some_iff, Prod.mk.injEq] at hf
    obtain ⟨j, hj, rfl, rfl⟩ := hf
    obtain ⟨a, xs, G', rfl, e, rfl, q⟩ := r.lst_inv
    obtain ⟨_, _, u, v, G1, G2, e1, rfl, rfl, ru, rv⟩ := args_two ra
    cases e1
    have := ru.int
    subst this
    have hG := ru.flatG rfl
    subst hG
    have hl : j < es.length := (ixN_seq hj).2.1
    obtain ⟨v0, A, B, C, ev, rfl, rb, re⟩ := q.focus (List.getElem?_eq_getElem hl)
    refine ⟨_, v, rfl, a, xs, i, j, rfl, rfl, e, by rw [q.length]; exact hj, ?_⟩
    refine mu_lst (G2 := A ++ (G2 ++ C)) e q nd sb sg (re H S d v G2 (fun _ h => h) Ext.rf rv) rep_non ?_ ?_ z
    · rw [List.cons_append, List.nodup_cons] at nd
      have := nd.2
      simp only [List.nil_append, List.nodup_append, List.mem_append] at this ⊢
      obtain ⟨⟨n1, ⟨n2, n3, d23⟩, d1⟩, n4, d4⟩ := this
      refine ⟨n1, ⟨n4, n3, fun a ha b hb e => d4 b (.inr (.inr hb)) a ha e.symm⟩, fun a ha b hb => ?_⟩
      rcases hb with hb | hb
      · exact d4 a (.inl ha) b hb
      · exact d1 a ha b (.inr hb)
    · intro b h
      simp only [List.nil_append, List.mem_append] at h ⊢
      rcases h with h | h | h
      · exact .inl (.inl h)
      · exact .inr h
      · exact .inl (.inr (.inr h))
  · cases hf
end

/-! ### pure arguments, each to its depth -/
def tPA (mg : Mg) (T : Ty) (ks : List Nat) (ps : Rho → Option (List D)) : TA := fun σ H Q => ∃ ρ S F, EnvOk mg T ρ σ H S F ∧ ∃ ds, ps ρ = some ds ∧ ∀ vs H' S' G, Grow H S H' S' → Args mg H' S' ks ds vs G → G.Nodup → (∀ a ∈ G, H a = none ∧ ¬ S' a) → Q vs H'
abbrev PAs (X : Cx) (T : Ty) (es : List Expr) (ks : List Nat) (ps : Rho → Option (List D)) : Prop := PA X es (tPA X.mg T ks ps)
section
variable {X : Cx} {T : Ty} {W : WX} {a b c e o : Expr} {es : List Expr} {pos apos cpos : Pos} {m m1 m2 md : Md} {p q : Rho → Option D} {ps : Rho → Option (List D)} {pl : Rho → Option (List Nat)} {ma mb : M D} {ml : M (List D)} {mg : Mg} {i n k kd : Nat} {ks : List Nat}
theorem as_nil : PAs X T [] [] sNil := PA.imp pa_nil fun σ H Q ⟨ρ, S, F, E, d, hp, z⟩ => by
  cases hp
  exact z [] H S [] E.rf (by simp only [Args]; exact ⟨trivial, trivial⟩) (by simp) (by simp)
theorem as_cons (k : Nat) (h : PD X T e m p) (hr : PAs X T es ks ps) (hl : m.le (.ow k) = true := by rfl) (hs : starEach (e :: es) X.env = (false, eval e X.env) :: starEach es X.env := by rfl) : PAs X T (e :: es) (k :: ks) (sCons p ps) := by
  refine PA.imp (pa_cons (PD.le h hl) hr hs) fun σ H Q ⟨ρ, S, F, E, ds, hp, z⟩ => ?_
  simp only [sCons, Option.bind_eq_some_iff, Option.map_eq_some_iff] at hp
  obtain ⟨x, hx, xs, hxs, rfl⟩ := hp
  refine ⟨ρ, S, F, E, x, hx, fun v H1 S1 G1 g1 r1 => ⟨ρ, S1, F, E.grow g1, xs, hxs, fun vs H2 S2 G2 g2 r2 n2 f2 => ?_⟩⟩
  obtain ⟨q1, n1, f1⟩ := r1.grow g2
  have dis : ∀ a ∈ G1, ∀ b ∈ G2, a ≠ b := fun a ha b hb e => by
    obtain ⟨o, eo, _⟩ := r1.1.mo a ha
    rw [e, (f2 b hb).1] at eo; cases eo
  refine z (v :: vs) H2 S2 (G1 ++ G2) (g1.trans g2) ?_ (List.nodup_append.mpr ⟨n1, n2, dis⟩) fun a ha => ?_
  · simp only [Args]
    exact ⟨v, vs, G1, G2, rfl, rfl, q1, r2⟩
  · rcases List.mem_append.mp ha with ha | ha
    · exact f1 a ha
    · exact ⟨g1.same.free (f2 a ha).1, (f2 a ha).2⟩
theorem ml_as (h : PAs X T es ks ps) : ML X T W es ks (M.lift ps) := by
  refine PA.imp h fun σ H Q ⟨ρ, S, F, E, z⟩ => ?_
  unfold EndL M.lift at z
  cases hp : ps ρ with
  | none => rw [hp] at z; exact z.elim
  | some d =>
    rw [hp] at z
    refine ⟨ρ, S, F, E, d, hp, fun vs H' S' G g r n f => ?_⟩
    have E' := E.grow g
    refine z vs H' S' F G (Aft.of_grow g (fun a h => ?_) fun a h => ?_) E' r (List.nodup_append.mpr ⟨n, E.nodup, fun a ha b hb e => ?_⟩) fun a ha => (f a ha).2
    · rcases List.mem_append.mp h with h | h
      · exact .inr (f a h).1
      · exact .inl h
    · rcases List.mem_append.mp h with h | h
      · exact r.own a h
      · exact E'.own a h
    · have := E.own b hb
      rw [← e] at this
      exact this (f a ha).1

/-! ### methods of lists -/
def isLst : D → Bool
  | .lst _ => true
  | _ => false
theorem ty_lst {H : Hp} {S : Addr → Prop} {d : D} {v : V} {B : List Addr} (h : isLst d = true) (r : Rep mg H S d (k + 1) v B) (K : PySem.W.Frag) : tyV K "list" v H := by
  cases d <;> simp [isLst] at h
  obtain ⟨a, xs, G', rfl, e, _, _⟩ := r.lst_inv
  exact .inl ⟨rfl, xs, SqL.of e⟩
/-- a method of the list that slot i is -/
def mMu (i : Nat) (f : D → List D → Option (D × D)) (ml : M (List D)) : M D := fun ρ => (slotD ρ i).bind fun d => if isLst d = true then (ml.bind fun ds => fun ρ' => (slotD ρ' i).bind fun x => (f x ds).map fun r => .ok r.2 (ρ'.set i (some r.1))) ρ else none
section
variable {nm id : String} {name : Str} {r : V → List V → Hp → VK → Prop} {f : D → List D → Option (D × D)}
theorem m_mu (hm : MtR X id r) (op : OpMu X r k ks kd f) (slot : Slot "list" name id) (hty : typeOf (.builtin id) = pure (.type "method_descriptor")) (ho : PL X T o i 0 plVar) (ha : ML X T W (e :: es) ks ml) (hk : T.ks[i]? = some (k + 1) := by rfl)
    (hbase : attributeBase o name X.env (eval o X.env) = eval o X.env := by rfl)
    (hfew : ((backTo cpos (starEach (e :: es) X.env)).all (fun x => !x.1) && (backToKw cpos (keywordEach [] X.env)).all (fun x => x.1.isSome)
      && decide ((e :: es).length + ([] : List Keyword).length + (if ([] : List Keyword).isEmpty then 0 else 1) < 30)) = true := by rfl)
    (hline : (apos.endLine == cpos.line) = true := by rfl) (hs : starEach (e :: es) X.env = (false, eval e X.env) :: starEach es X.env := by rfl) (hplain : (backTo cpos (starEach es X.env)).any (·.1) = false := by rfl) :
    MD X T W (.Call (.Attribute o name apos) (e :: es) [] cpos) (.ow kd) (mMu i f ml) := by
  refine PE.imp (pe_bm F.plainAttrs_list slot hty hm ho.pe ha hbase hfew hline hs hplain) fun σ H Q ⟨ρ, S, F, E, z⟩ => ?_
  unfold mMu at z
  cases hd : slotD ρ i with
  | none => rw [hd] at z; exact z.elim
  | some d =>
    rw [hd] at z
    simp only [Option.bind_some] at z
    split at z
    · rename_i hl
      have hx := slotD_some hd
      refine ⟨ρ, S, F, E, [], d, d, rfl, rfl, hx, rfl, fun v0 v H1 S1 hv0 g1 at1 => ?_⟩
      have E1 := E.grow g1
      obtain ⟨w', B, at', rb, _⟩ := mut_env (k := k + 1) (π := []) E1 hx hk hv0 rfl
      have ew := at1.inj at'
      subst ew
      refine ⟨ty_lst hl rb X.K, ρ, S1, F, E1, ?_⟩
      have ev : v = v0 := at1
      subst ev
      unfold M.bind at z
      unfold EndL
      split
      · rename_i hp; rw [hp] at z; exact z.elim
      · rename_i ds ρ1 hp
        rw [hp] at z
        intro vs H2 S2 F2 G2 A E2 ra n2 f2
        simp only at z
        cases hd2 : slotD ρ1 i with
        | none => rw [hd2] at z; exact z.elim
        | some x =>
          rw [hd2] at z
          simp only [Option.bind_some] at z
          cases hf : f x ds with
          | none => rw [hf] at z; exact z.elim
          | some y =>
            rw [hf] at z
            obtain ⟨x', y⟩ := y
            refine mut_fin (π := []) op E2 (slotD_some hd2) hk hv0 rfl rfl hf ra n2 f2 fun v H' F' Gr A2 E3 r3 => ?_
            exact z v H' S2 F' Gr (((Aft.of_grow g1 (fun a h => .inl h) E1.own).trans A).trans A2) E3 r3
      · rename_i x ρ1 hp
        rw [hp] at z
        exact z.later (Aft.of_grow g1 (fun a h => .inl h) E1.own)
    · exact z.elim
theorem m_mu0 (hm : MtR X id r) (op : OpMu X r k [] kd f) (slot : Slot "list" name id) (hty : typeOf (.builtin id) = pure (.type "method_descriptor")) (ho : PL X T o i 0 plVar) (hk : T.ks[i]? = some (k + 1) := by rfl)
    (hbase : attributeBase o name X.env (eval o X.env) = eval o X.env := by rfl) (hline : (apos.endLine == cpos.line) = true := by rfl) :
    MD X T W (.Call (.Attribute o name apos) [] [] cpos) (.ow kd) (mMu i f lNil) := by
  refine PE.imp (pe_bm0 F.plainAttrs_list slot hty hm ho.pe hbase hline) fun σ H Q ⟨ρ, S, F, E, z⟩ => ?_
  unfold mMu at z
  cases hd : slotD ρ i with
  | none => rw [hd] at z; exact z.elim
  | some d =>
    rw [hd] at z
    simp only [Option.bind_some] at z
    split at z
    · rename_i hl
      have hx := slotD_some hd
      refine ⟨ρ, S, F, E, [], d, d, rfl, rfl, hx, rfl, fun v0 v H1 S1 hv0 g1 at1 => ?_⟩
      have E1 := E.grow g1
      obtain ⟨w', B, at', rb, _⟩ := mut_env (k := k + 1) (π := []) E1 hx hk hv0 rfl
      have ew := at1.inj at'
      subst ew
      refine ⟨ty_lst hl rb X.K, ?_⟩
      simp only [M.bind, lNil, M.of, Option.map_some, hd, Option.bind_some] at z
      cases hf : f d [] with
      | none => rw [hf] at z; exact z.elim
      | some y =>
        rw [hf] at z
        obtain ⟨x', y⟩ := y
        refine mut_fin (π := []) (G := []) op E1 hx hk hv0 rfl at1 hf (by simp only [Args]; exact ⟨trivial, trivial⟩) (by simpa using E1.nodup) (by simp) fun v H' F' Gr A2 E3 r3 => ?_
        exact z v H' S1 F' Gr ((Aft.of_grow g1 (fun a h => .inl h) E1.own).trans A2) E3 r3
    · exact z.elim
/-- a method of the list at a place -/
def mMuP (i : Nat) (pl : Rho → Option (List Nat)) (f : D → List D → Option (D × D)) (ps : Rho → Option (List D)) : M D := fun ρ => (pl ρ).bind fun π => (slotD ρ i).bind fun d => (getP d π).bind fun x => if isLst x = true then (ps ρ).bind fun ds => (f x ds).map fun r => .ok r.2 (ρ.set i (some (setP d π r.1))) else none
theorem mMuP_some {ρ : Rho} {o : Res D} {ps : Rho → Option (List D)} (h : mMuP i pl f ps ρ = some o) : ∃ π d x ds x' y, pl ρ = some π ∧ ρ[i]? = some (some d) ∧ getP d π = some x ∧ isLst x = true ∧ ps ρ = some ds ∧ f x ds = some (x', y) ∧ o = .ok y (ρ.set i (some (setP d π x'))) := by
  unfold mMuP at h
  simp only [Option.bind_eq_some_iff] at h
  obtain ⟨π, hπ, d, hd, x, hx, h⟩ := h
  split at h
  · rename_i hl
    simp only [Option.bind_eq_some_iff, Option.map_eq_some_iff] at h
    obtain ⟨ds, hds, ⟨x', y⟩, hf, rfl⟩ := h
    exact ⟨π, d, x, ds, x', y, hπ, slotD_some hd, hx, hl, hds, hf, rfl⟩
  · cases h
theorem m_muP (hm : MtR X id r) (op : OpMu X r k ks kd f) (slot : Slot "list" name id) (hty : typeOf (.builtin id) = pure (.type "method_descriptor")) (ho : PL X T o i n pl) (ha : PAs X T (e :: es) ks ps) (hk : T.ks[i]? = some (k + 1 + n) := by rfl)
    (hbase : attributeBase o name X.env (eval o X.env) = eval o X.env := by rfl)
    (hfew : ((backTo cpos (starEach (e :: es) X.env)).all (fun x => !x.1) && (backToKw cpos (keywordEach [] X.env)).all (fun x => x.1.isSome)
      && decide ((e :: es).length + ([] : List Keyword).length + (if ([] : List Keyword).isEmpty then 0 else 1) < 30)) = true := by rfl)
    (hline : (apos.endLine == cpos.line) = true := by rfl) (hs : starEach (e :: es) X.env = (false, eval e X.env) :: starEach es X.env := by rfl) (hplain : (backTo cpos (starEach es X.env)).any (·.1) = false := by rfl) :
    MD X T W (.Call (.Attribute o name apos) (e :: es) [] cpos) (.ow kd) (mMuP i pl f ps) := by
  refine PE.imp (pe_bm F.plainAttrs_list slot hty hm ho.pe ha hbase hfew hline hs hplain) fun σ H Q ⟨ρ, S, F, E, z⟩ => ?_
  cases hz : mMuP i pl f ps ρ with
  | none => rw [hz] at z; exact z.elim
  | some oo =>
    rw [hz] at z
    obtain ⟨π, d, x, ds, x', y, hπ, hx, hg, hl, hds, hf, rfl⟩ := mMuP_some hz
    have hn := ho.len ρ π hπ
    refine ⟨ρ, S, F, E, π, d, x, hπ, hn, hx, hg, fun v0 v H1 S1 hv0 g1 at1 => ?_⟩
    have E1 := E.grow g1
    obtain ⟨w', B, at', rb, _⟩ := mut_env (k := k + 1) E1 hx (by rw [hn]; exact hk) hv0 hg
    have ew := at1.inj at'
    subst ew
    refine ⟨ty_lst hl rb X.K, ρ, S1, F, E1, ds, hds, fun vs H2 S2 G2 g2 ra n2 f2 => ?_⟩
    have E2 := E1.grow g2
    have nd : (G2 ++ F).Nodup := List.nodup_append.mpr ⟨n2, E.nodup, fun a ha b hb e => by
      have := E1.own b hb
      rw [← e] at this
      exact this (f2 a ha).1⟩
    refine mut_fin op E2 hx (by rw [hn]; exact hk) hv0 hg (at1.mono g2.same) hf ra nd (fun a h => (f2 a h).2) fun v H' F' Gr A2 E3 r3 => ?_
    refine z v H' S2 F' Gr (((Aft.of_grow g1 (fun a h => .inl h) E1.own).trans (Aft.of_grow g2 (fun a h => ?_) fun a h => ?_)).trans A2) E3 r3
    · rcases List.mem_append.mp h with h | h
      · exact .inr (f2 a h).1
      · exact .inl h
    · rcases List.mem_append.mp h with h | h
      · exact ra.own a h
      · exact E2.own a h
theorem m_muP0 (hm : MtR X id r) (op : OpMu X r k [] kd f) (slot : Slot "list" name id) (hty : typeOf (.builtin id) = pure (.type "method_descriptor")) (ho : PL X T o i n pl) (hk : T.ks[i]? = some (k + 1 + n) := by rfl)
    (hbase : attributeBase o name X.env (eval o X.env) = eval o X.env := by rfl) (hline : (apos.endLine == cpos.line) = true := by rfl) :
    MD X T W (.Call (.Attribute o name apos) [] [] cpos) (.ow kd) (mMuP i pl f sNil) := by
  refine PE.imp (pe_bm0 F.plainAttrs_list slot hty hm ho.pe hbase hline) fun σ H Q ⟨ρ, S, F, E, z⟩ => ?_
  cases hz : mMuP i pl f sNil ρ with
  | none => rw [hz] at z; exact z.elim
  | some oo =>
    rw [hz] at z
    obtain ⟨π, d, x, ds, x', y, hπ, hx, hg, hl, hds, hf, rfl⟩ := mMuP_some hz
    cases hds
    have hn := ho.len ρ π hπ
    refine ⟨ρ, S, F, E, π, d, x, hπ, hn, hx, hg, fun v0 v H1 S1 hv0 g1 at1 => ?_⟩
    have E1 := E.grow g1
    obtain ⟨w', B, at', rb, _⟩ := mut_env (k := k + 1) E1 hx (by rw [hn]; exact hk) hv0 hg
    have ew := at1.inj at'
    subst ew
    refine ⟨ty_lst hl rb X.K, ?_⟩
    refine mut_fin (G := []) op E1 hx (by rw [hn]; exact hk) hv0 hg at1 hf (by simp only [Args]; exact ⟨trivial, trivial⟩) (by simpa using E1.nodup) (by simp) fun v H' F' Gr A2 E3 r3 => ?_
    exact z v H' S1 F' Gr ((Aft.of_grow g1 (fun a h => .inl h) E1.own).trans A2) E3 r3
/-- the methods by name -/
theorem m_append (ho : PL X T o i 0 plVar) (ha : ML X T W [e] [k] ml) (hk : T.ks[i]? = some (k + 1) := by rfl) (hbase : attributeBase o "append" X.env (eval o X.env) = eval o X.env := by rfl)
    (hfew : ((backTo cpos (starEach [e] X.env)).all (fun x => !x.1) && (backToKw cpos (keywordEach [] X.env)).all (fun x => x.1.isSome)
      && decide (([e]).length + ([] : List Keyword).length + (if ([] : List Keyword).isEmpty then 0 else 1) < 30)) = true := by rfl)
    (hline : (apos.endLine == cpos.line) = true := by rfl) (hs : starEach [e] X.env = (false, eval e X.env) :: starEach [] X.env := by rfl) :
    MD X T W (.Call (.Attribute o "append" apos) [e] [] cpos) (.ow 0) (mMu i appD ml) := m_mu mt_append u_append F.slot_list_append F.type_list_append ho ha hk hbase hfew hline hs
theorem m_appendP (ho : PL X T o i n pl) (ha : PAs X T [e] [k] ps) (hk : T.ks[i]? = some (k + 1 + n) := by rfl) (hbase : attributeBase o "append" X.env (eval o X.env) = eval o X.env := by rfl)
    (hfew : ((backTo cpos (starEach [e] X.env)).all (fun x => !x.1) && (backToKw cpos (keywordEach [] X.env)).all (fun x => x.1.isSome)
      && decide (([e]).length + ([] : List Keyword).length + (if ([] : List Keyword).isEmpty then 0 else 1) < 30)) = true := by rfl)
    (hline : (apos.endLine == cpos.line) = true := by rfl) (hs : starEach [e] X.env = (false, eval e X.env) :: starEach [] X.env := by rfl) :
    MD X T W (.Call (.Attribute o "append" apos) [e] [] cpos) (.ow 0) (mMuP i pl appD ps) := m_muP mt_append u_append F.slot_list_append F.type_list_append ho ha hk hbase hfew hline hs
theorem m_clearP (k : Nat) (ho : PL X T o i n pl) (hk : T.ks[i]? = some (k + 1 + n) := by rfl) (hbase : attributeBase o "clear" X.env (eval o X.env) = eval o X.env := by rfl) (hline : (apos.endLine == cpos.line) = true := by rfl) :
    MD X T W (.Call (.Attribute o "clear" apos) [] [] cpos) (.ow 0) (mMuP i pl clrD sNil) := m_muP0 mt_clear u_clear F.slot_list_clear F.type_list_clear ho hk hbase hline
theorem m_pop (k : Nat) (ho : PL X T o i 0 plVar) (hk : T.ks[i]? = some (k + 1) := by rfl) (hbase : attributeBase o "pop" X.env (eval o X.env) = eval o X.env := by rfl) (hline : (apos.endLine == cpos.line) = true := by rfl) :
    MD X T W (.Call (.Attribute o "pop" apos) [] [] cpos) (.ow k) (mMu i popD lNil) := m_mu0 mt_pop u_pop F.slot_list_pop F.type_list_pop ho hk hbase hline
theorem m_popAt (k : Nat) (ho : PL X T o i 0 plVar) (ha : ML X T W [e] [0] ml) (hk : T.ks[i]? = some (k + 1) := by rfl) (hbase : attributeBase o "pop" X.env (eval o X.env) = eval o X.env := by rfl)
    (hfew : ((backTo cpos (starEach [e] X.env)).all (fun x => !x.1) && (backToKw cpos (keywordEach [] X.env)).all (fun x => x.1.isSome)
      && decide (([e]).length + ([] : List Keyword).length + (if ([] : List Keyword).isEmpty then 0 else 1) < 30)) = true := by rfl)
    (hline : (apos.endLine == cpos.line) = true := by rfl) (hs : starEach [e] X.env = (false, eval e X.env) :: starEach [] X.env := by rfl) :
    MD X T W (.Call (.Attribute o "pop" apos) [e] [] cpos) (.ow k) (mMu i popAtD ml) := m_mu mt_popAt u_popAt F.slot_list_pop F.type_list_pop ho ha hk hbase hfew hline hs
theorem m_popAtP (k : Nat) (ho : PL X T o i n pl) (ha : PAs X T [e] [0] ps) (hk : T.ks[i]? = some (k + 1 + n) := by rfl) (hbase : attributeBase o "pop" X.env (eval o X.env) = eval o X.env := by rfl)
    (hfew : ((backTo cpos (starEach [e] X.env)).all (fun x => !x.1) && (backToKw cpos (keywordEach [] X.env)).all (fun x => x.1.isSome)
      && decide (([e]).length + ([] : List Keyword).length + (if ([] : List Keyword).isEmpty then 0 else 1) < 30)) = true := by rfl)
    (hline : (apos.endLine == cpos.line) = true := by rfl) (hs : starEach [e] X.env = (false, eval e X.env) :: starEach [] X.env := by rfl) :
    MD X T W (.Call (.Attribute o "pop" apos) [e] [] cpos) (.ow k) (mMuP i pl popAtD ps) := m_muP mt_popAt u_popAt F.slot_list_pop F.type_list_pop ho ha hk hbase hfew hline hs
theorem m_insertP (k : Nat) {e2 : Expr} (ho : PL X T o i n pl) (ha : PAs X T [e, e2] [0, k] ps) (hk : T.ks[i]? = some (k + 1 + n) := by rfl) (hbase : attributeBase o "insert" X.env (eval o X.env) = eval o X.env := by rfl)
    (hfew : ((backTo cpos (starEach [e, e2] X.env)).all (fun x => !x.1) && (backToKw cpos (keywordEach [] X.env)).all (fun x => x.1.isSome)
      && decide (([e, e2]).length + ([] : List Keyword).length + (if ([] : List Keyword).isEmpty then 0 else 1) < 30)) = true := by rfl)
    (hline : (apos.endLine == cpos.line) = true := by rfl) (hs : starEach [e, e2] X.env = (false, eval e X.env) :: starEach [e2] X.env := by rfl) (hplain : (backTo cpos (starEach [e2] X.env)).any (·.1) = false := by rfl) :
    MD X T W (.Call (.Attribute o "insert" apos) [e, e2] [] cpos) (.ow 0) (mMuP i pl insD ps) := m_muP mt_insert u_insert F.slot_list_insert F.type_list_insert ho ha hk hbase hfew hline hs hplain
theorem m_removeP (k : Nat) (ho : PL X T o i n pl) (ha : PAs X T [e] [0] ps) (hk : T.ks[i]? = some (k + 1 + n) := by rfl) (hbase : attributeBase o "remove" X.env (eval o X.env) = eval o X.env := by rfl)
    (hfew : ((backTo cpos (starEach [e] X.env)).all (fun x => !x.1) && (backToKw cpos (keywordEach [] X.env)).all (fun x => x.1.isSome)
      && decide (([e]).length + ([] : List Keyword).length + (if ([] : List Keyword).isEmpty then 0 else 1) < 30)) = true := by rfl)
    (hline : (apos.endLine == cpos.line) = true := by rfl) (hs : starEach [e] X.env = (false, eval e X.env) :: starEach [] X.env := by rfl) :
    MD X T W (.Call (.Attribute o "remove" apos) [e] [] cpos) (.ow 0) (mMuP i pl remD ps) := m_muP mt_remove u_remove F.slot_list_remove F.type_list_remove ho ha hk hbase hfew hline hs
end
end
end DL
end

section
set_option Elab.async false
set_option linter.all false
set_option maxRecDepth 100000
set_option maxHeartbeats 4000000
/-! DL14: statements. -/
namespace DL
open PySem PySem.Spec PyProof.Rows L2

inductive SR where
  | nx (ρ : Rho) | rt (d : D) (ρ : Rho) | bk (ρ : Rho) | ct (ρ : Rho) | ex (x : Ex) (ρ : Rho)
abbrev SM := Rho → Option SR
def EndS (mg : Mg) (T : Ty) (W : WX) (kr : Nat) (N : Ends) (H : Hp) (S : Addr → Prop) (F : List Addr) (o : Option SR) : Prop := match o with
  | none => False
  | some (.nx ρ') => ∀ σ' H' S' F', Aft H S F H' S' F' → EnvOk mg T ρ' σ' H' S' F' → N.nx σ' H'
  | some (.bk ρ') => ∀ σ' H' S' F', Aft H S F H' S' F' → EnvOk mg T ρ' σ' H' S' F' → N.bk σ' H'
  | some (.ct ρ') => ∀ σ' H' S' F', Aft H S F H' S' F' → EnvOk mg T ρ' σ' H' S' F' → N.ct σ' H'
  | some (.rt d ρ') => ∀ v σ' H' S' F' G, Aft H S F H' S' (G ++ F') → EnvOk mg T ρ' σ' H' S' F' → RpE mg H' S' F' (.ow kr) d v G → N.rt v H'
  | some (.ex x ρ') => ∀ σ' cls dd H' S' F', Aft H S F H' S' F' → EnvOk mg T ρ' σ' H' S' F' → ExOk mg x cls dd H' → W cls dd σ' H'
def tS (mg : Mg) (T : Ty) (W : WX) (kr : Nat) (m : SM) : TS := fun N σ H => ∃ ρ S F, EnvOk mg T ρ σ H S F ∧ EndS mg T W kr N H S F (m ρ)
abbrev SD (X : Cx) (T : Ty) (W : WX) (kr : Nat) (st : Stmt) (m : SM) : Prop := PS X st (tS X.mg T W kr m)
abbrev SDs (X : Cx) (T : Ty) (W : WX) (kr : Nat) (sts : List Stmt) (m : SM) : Prop := PSs X sts (tS X.mg T W kr m)
def M.run {α : Type} (m : M α) (f : α → SM) : SM := fun ρ => match m ρ with
  | none => none
  | some (.ok a ρ') => f a ρ'
  | some (.ex x ρ') => some (.ex x ρ')
def sNx : SM := fun ρ => some (.nx ρ)
def sBk : SM := fun ρ => some (.bk ρ)
def sCt : SM := fun ρ => some (.ct ρ)
def sSeq (a b : SM) : SM := fun ρ => match a ρ with
  | some (.nx ρ') => b ρ'
  | o => o
def sIf (t : M Bool) (a b : SM) : SM := t.run fun c => if c = true then a else b
def sRet (m : M D) : SM := m.run fun d ρ => some (.rt d ρ)
def sExp (m : M D) : SM := m.run fun _ => sNx
def sSet (i : Nat) (m : M D) : SM := m.run fun d ρ => some (.nx (ρ.set i (some d)))

section
variable {mg : Mg} {H H' H1 H2 : Hp} {S S' S1 S2 : Addr → Prop} {T : Ty} {W : WX} {ρ ρ' : Rho} {σ : St} {F F1 F2 F3 G : List Addr} {k kr : Nat} {d : D} {v : V} {Q : VK} {m m' md : Md} {N : Ends}
theorem EndS.later {o : Option SR} (h : EndS mg T W kr N H S F o) (A : Aft H S F H1 S1 F1) : EndS mg T W kr N H1 S1 F1 o := by
  unfold EndS at h ⊢
  split at h
  · exact h
  · exact fun σ' H' S' F' B E => h σ' H' S' F' (A.trans B) E
  · exact fun σ' H' S' F' B E => h σ' H' S' F' (A.trans B) E
  · exact fun σ' H' S' F' B E => h σ' H' S' F' (A.trans B) E
  · exact fun v σ' H' S' F' G B E r => h v σ' H' S' F' G (A.trans B) E r
  · exact fun σ' cls dd H' S' F' B E r => h σ' cls dd H' S' F' (A.trans B) E r
/-- what is owned no more -/
theorem Aft.drop (A : Aft H S F H1 S1 (G ++ F1)) : Aft H S F H1 S1 F1 := ⟨A.kp, A.there, A.up, A.new, A.dom, fun a h => A.sub a (by simp [h]), fun a h => A.own a (by simp [h])⟩
theorem EndS.x {x : Ex} (h : EndS mg T W kr N H S F (some (.ex x ρ'))) : EndX mg T W σ H S F x ρ' := fun cls dd H' S' F' A E q => h σ cls dd H' S' F' A E q
theorem run_M {ma : M D} {f : D → SM} (z : EndS mg T W kr N H S F (ma.run f ρ)) (h : ∀ d ρ' v H' S' F' G, EndS mg T W kr N H S F (f d ρ') → Aft H S F H' S' (G ++ F') → EnvOk mg T ρ' σ H' S' F' → RpE mg H' S' F' md d v G → Q v H') : EndM mg T W md σ H S F (ma ρ) Q := by
  unfold M.run at z
  unfold EndM
  split
  · rename_i hp; rw [hp] at z; exact z
  · rename_i d ρ' hp
    rw [hp] at z
    exact fun v H' S' F' G A E r => h d ρ' v H' S' F' G z A E r
  · rename_i x ρ' hp
    rw [hp] at z
    exact z.x
theorem run_B {mt : M Bool} {f : Bool → SM} {Qb : Bool → Hp → Prop} (z : EndS mg T W kr N H S F (mt.run f ρ)) (h : ∀ d ρ' H' S' F', EndS mg T W kr N H S F (f d ρ') → Aft H S F H' S' F' → EnvOk mg T ρ' σ H' S' F' → Qb d H') : EndB mg T W σ H S F (mt ρ) Qb := by
  unfold M.run at z
  unfold EndB
  split
  · rename_i hp; rw [hp] at z; exact z
  · rename_i d ρ' hp
    rw [hp] at z
    exact fun H' S' F' A E => h d ρ' H' S' F' z A E
  · rename_i x ρ' hp
    rw [hp] at z
    exact z.x
/-- a slot gets a value of its own -/
theorem EnvOk.store {i : Nat} {x : D} (E : EnvOk mg T ρ σ H S F) (hk : T.ks[i]? = some k) (hf : T.free i = true) (r : Rep mg H S x k v G) (nd : (G ++ F).Nodup) (ap : ∀ a, a ∈ G → ¬ S a) :
    ∃ F', EnvOk mg T (ρ.set i (some x)) (σ.set i (some v)) H S F' ∧ ∀ a, a ∈ F' → a ∈ G ∨ a ∈ F := by
  by_cases hi : i < ρ.length
  case neg =>
    have h1 : ρ.set i (some x) = ρ := List.set_eq_of_length_le (by omega)
    have h2 : σ.set i (some v) = σ := List.set_eq_of_length_le (by rw [E.slots.length]; omega)
    rw [h1, h2]
    exact ⟨F, E, fun a h => .inr h⟩
  obtain ⟨k', o, A, B, C, ek, eo, rfl, e, z⟩ := E.slots.focus (List.getElem?_eq_getElem hi)
  rw [hk] at ek; cases ek
  have q := z H S (some x) (some v) G (fun _ h => h) (fun a o e _ => e) ⟨v, rfl, r⟩
  simp only [List.nodup_append, List.mem_append] at nd
  obtain ⟨n1, ⟨n2, ⟨n3, n4, d4⟩, d3⟩, d1⟩ := nd
  refine ⟨A ++ (G ++ C), ⟨q, ?_, fun a ha => ?_, E.dom, fun p hp => by rw [List.getElem?_set_ne (Ne.symm (Ty.free_ne hf p hp))]; exact E.io p hp⟩, fun a h => ?_⟩
  · simp only [List.nodup_append, List.mem_append]
    refine ⟨n2, ⟨n1, n4, fun a ha b hb => d1 a ha b (.inr (.inr hb))⟩, fun a ha b hb => ?_⟩
    rcases hb with hb | hb
    · exact fun e => d1 b hb a (.inl ha) e.symm
    · exact d3 a ha b (.inr hb)
  · simp only [List.mem_append] at ha
    rcases ha with h | h | h
    · exact E.apart a (by simp [h])
    · exact ap a h
    · exact E.apart a (by simp [h])
  · simp only [List.mem_append] at h ⊢
    rcases h with h | h | h
    · exact .inr (.inl h)
    · exact .inl h
    · exact .inr (.inr (.inr h))
theorem Aft.keep (A : Aft H S F H1 S1 (G ++ F1)) (h : ∀ a, a ∈ F2 → a ∈ G ∨ a ∈ F1) : Aft H S F H1 S1 F2 := ⟨A.kp, A.there, A.up, A.new, A.dom, fun a q => A.sub a (by simpa using h a q), fun a q => A.own a (by simpa using h a q)⟩
end
section
variable {X : Cx} {T : Ty} {W : WX} {a b c e tg iter : Expr} {es : List Expr} {pos : Pos} {m m1 m2 md : Md} {p q : Rho → Option D} {ma mb : M D} {mt : M Bool} {ml : M (List D)} {k kr i : Nat} {st : Stmt} {sts body : List Stmt} {s1 s2 s3 : SM}
theorem s_nil : SDs X T W kr [] sNx := PSs.imp pss_nil fun N σ H ⟨ρ, S, F, E, z⟩ => z σ H S F E.aft E
theorem s_cons (h : SD X T W kr st s1) (hr : SDs X T W kr sts s2) : SDs X T W kr (st :: sts) (sSeq s1 s2) := by
  refine PSs.imp (pss_cons h hr) fun N σ H ⟨ρ, S, F, E, z⟩ => ⟨ρ, S, F, E, ?_⟩
  unfold sSeq at z
  split at z
  · rename_i ρ' hp
    rw [hp]
    exact fun σ' H' S' F' A E' => ⟨ρ', S', F', E', z.later A⟩
  · rename_i hn
    cases hp : s1 ρ with
    | none => rw [hp] at z; exact z
    | some o =>
      rw [hp] at z
      cases o with
      | nx ρ' => exact absurd hp (hn ρ')
      | bk _ => exact z
      | ct _ => exact z
      | rt _ _ => exact z
      | ex _ _ => exact z
theorem s_one (h : SD X T W kr st s1) : SDs X T W kr [st] s1 := pss_one h
theorem s_pass : SD X T W kr (.Pass pos) sNx := PS.imp ps_pass fun N σ H ⟨ρ, S, F, E, z⟩ => z σ H S F E.aft E
theorem s_break : SD X T W kr (.Break pos) sBk := PS.imp ps_break fun N σ H ⟨ρ, S, F, E, z⟩ => z σ H S F E.aft E
theorem s_continue : SD X T W kr (.Continue pos) sCt := PS.imp ps_continue fun N σ H ⟨ρ, S, F, E, z⟩ => z σ H S F E.aft E
theorem s_expr (he : MD X T W e md ma) (hs : swapsWith e none pos.line X.env = pure false := by rfl) : SD X T W kr (.Expr e pos) (sExp ma) := by
  refine PS.imp (ps_expr he hs) fun N σ H ⟨ρ, S, F, E, z⟩ => ⟨ρ, S, F, E, run_M z fun d ρ' v H' S' F' G z A E' r => ?_⟩
  exact z σ H' S' F' A.drop E'
theorem s_ret (he : MD X T W e (.ow kr) ma) : SD X T W kr (.Return (some e) pos) (sRet ma) := by
  refine PS.imp (ps_ret he) fun N σ H ⟨ρ, S, F, E, z⟩ => ⟨ρ, S, F, E, run_M z fun d ρ' v H' S' F' G z A E' r => ?_⟩
  exact z v σ H' S' F' G A E' r
theorem s_if {p q : List Stmt} (hc : MB X T W c mt) (ha : SDs X T W kr p s1) (hb : SDs X T W kr q s2) : SD X T W kr (.If c p q pos) (sIf mt s1 s2) := by
  refine PS.imp (ps_if hc ha hb) fun N σ H ⟨ρ, S, F, E, z⟩ => ⟨ρ, S, F, E, run_B z fun b ρ' H' S' F' z A E' => ?_⟩
  cases b with
  | true => exact ⟨ρ', S', F', E', z.later A⟩
  | false => exact ⟨ρ', S', F', E', z.later A⟩
theorem set_rd {te : TE} (i k : Nat) (hk : T.ks[i]? = some k) (hf : T.free i = true) (h : ∀ σ H Q, tM X.mg T W (.ow k) ma σ H Q → te σ H Q) : ∀ N σ H, tS X.mg T W kr (sSet i ma) N σ H → tAsg te (gName i) N σ H := fun N σ H ⟨ρ, S, F, E, z⟩ => by
  refine h σ H _ ⟨ρ, S, F, E, run_M z fun d ρ' v H' S' F' G z A E' r => ?_⟩
  obtain ⟨r, nd, ap⟩ := r
  obtain ⟨F2, E2, hF⟩ := E'.store hk hf r nd ap
  exact z _ H' S' F2 (A.keep hF) E2
theorem s_set (i k : Nat) {x : Str} {pos' : Pos} (hN : X.N.Nodup) (he : MD X T W e m ma) (hl : m.le (.ow k) = true := by rfl) (hi : X.N[i]? = some x := by rfl) (hx : Loc X.env.scope x := by first | exact Or.inl rfl | exact Or.inr rfl) (hk : T.ks[i]? = some k := by rfl) (hf : T.free i = true := by rfl)
    (hs : swapsWith e (some (.Name x pos')) pos.line X.env = pure false := by rfl) (hfn : X.fn x = true ∨ X.env.scope.names.lookup x = some .local := by first | exact .inl rfl | exact .inr rfl) : SD X T W kr (.Assign [.Name x pos'] e pos) (sSet i ma) :=
  PS.imp (ps_set hN hi hx (MD.le he hl) hs hfn) (set_rd i k hk hf fun _ _ _ h => h)
theorem m_of_rd {te : TE} (h : ∀ σ H Q, tP X.mg T md p σ H Q → te σ H Q) (hm : md.isE = true) : ∀ σ H Q, tM X.mg T W md (M.lift p) σ H Q → te σ H Q := fun σ H Q ⟨ρ, S, F, E, z⟩ => by
  refine h σ H Q ⟨ρ, S, F, E, ?_⟩
  unfold M.lift at z
  cases hp : p ρ with
  | none => rw [hp] at z; exact z.elim
  | some d =>
    rw [hp] at z
    exact ⟨d, rfl, endM_of E hm z⟩
/-- name = [..] on one line, the name a local -/
theorem s_setLc {elt : Expr} {ifs : List Expr} {scope : Scope} {own : List (Str × Nat)} {items : Rho → Option (List D)} {bind : D → Rho → Option Rho} {tb : Rho → Option Bool} {l : List Nat} {y : Str} {py spos : Pos} (i k : Nat) (hc : X.calm = true) (hN : X.N.Nodup) (hi : ID X T tg iter items) (ok : BlkOk X.N X.env.scope scope own)
    (hg : ∀ (s : Shared) (H : Hp) (C : Addr) (cl : List (Str × Addr)) (fp : List Addr), GD (X.blk s H scope (compEnvC scope cl C X.env) fp) T tg l bind)
    (ht : ∀ (s : Shared) (H : Hp) (C : Addr) (cl : List (Str × Addr)) (fp : List Addr), TDs (X.blk s H scope (compEnvC scope cl C X.env) fp) T ifs tb)
    (he : ∀ (s : Shared) (H : Hp) (C : Addr) (cl : List (Str × Addr)) (fp : List Addr), PD (X.blk s H scope (compEnvC scope cl C X.env) fp) T elt m p)
    (hl : m.le (.ow k) = true := by rfl) (hw : T.own0 (own.map (·.2)) = true := by rfl) (hls : ∀ j ∈ l, j ∈ own.map (·.2) := by decide)
    (hy : X.N[i]? = some y := by rfl) (hyl : X.env.scope.names.lookup y = some .local := by rfl) (hk : T.ks[i]? = some (k + 1) := by rfl) (hf : T.free i = true := by rfl)
    (hsw : swapsWith (.ListComp elt [⟨tg, iter, ifs, 0⟩] scope pos) (some (.Name y py)) spos.line X.env = pure true := by rfl)
    (hs : ∀ x, foldedSetIterable iter X.env x = pure x := by intro _; rfl) :
    SD X T W kr (.Assign [.Name y py] (.ListComp elt [⟨tg, iter, ifs, 0⟩] scope pos) spos) (sSet i (M.lift (eComp (own.map (·.2)) items bind tb p))) :=
  PS.imp (ps_setLc (g := tG X.mg T l bind) (tt := tT X.mg T tb) (te := tP X.mg T (.ow k) p) hc hN hy hyl hsw hi ok hg ht (fun s H C cl fp => PD.le (he s H C cl fp) hl) hs)
    (set_rd i (k + 1) hk hf (m_of_rd (comp_rd X.mg k hw hls) rfl))
/-- what is given up at once: the list goes into a slot that owns nothing -/
theorem m0_rd {te : TE} (h : ∀ σ H Q, tM X.mg T W m ma σ H Q → te σ H Q) (hl : m.le m2 = true) (hm : m2.isE = true) : ∀ σ H Q, tM X.mg T W m2 ma σ H Q → te σ H Q := fun σ H Q ⟨ρ, S, F, E, z⟩ => h σ H Q ⟨ρ, S, F, E, z.le hl hm⟩
theorem s_setLc0 {elt : Expr} {ifs : List Expr} {scope : Scope} {own : List (Str × Nat)} {items : Rho → Option (List D)} {bind : D → Rho → Option Rho} {tb : Rho → Option Bool} {l : List Nat} {y : Str} {py spos : Pos} (i k : Nat) (hc : X.calm = true) (hN : X.N.Nodup) (hi : ID X T tg iter items) (ok : BlkOk X.N X.env.scope scope own)
    (hg : ∀ (s : Shared) (H : Hp) (C : Addr) (cl : List (Str × Addr)) (fp : List Addr), GD (X.blk s H scope (compEnvC scope cl C X.env) fp) T tg l bind)
    (ht : ∀ (s : Shared) (H : Hp) (C : Addr) (cl : List (Str × Addr)) (fp : List Addr), TDs (X.blk s H scope (compEnvC scope cl C X.env) fp) T ifs tb)
    (he : ∀ (s : Shared) (H : Hp) (C : Addr) (cl : List (Str × Addr)) (fp : List Addr), PD (X.blk s H scope (compEnvC scope cl C X.env) fp) T elt m p)
    (hl : m.le (.ow k) = true := by rfl) (hw : T.own0 (own.map (·.2)) = true := by rfl) (hls : ∀ j ∈ l, j ∈ own.map (·.2) := by decide)
    (hy : X.N[i]? = some y := by rfl) (hyl : X.env.scope.names.lookup y = some .local := by rfl) (hk : T.ks[i]? = some 0 := by rfl) (hf : T.free i = true := by rfl)
    (hsw : swapsWith (.ListComp elt [⟨tg, iter, ifs, 0⟩] scope pos) (some (.Name y py)) spos.line X.env = pure true := by rfl)
    (hs : ∀ x, foldedSetIterable iter X.env x = pure x := by intro _; rfl) :
    SD X T W kr (.Assign [.Name y py] (.ListComp elt [⟨tg, iter, ifs, 0⟩] scope pos) spos) (sSet i (M.lift (eComp (own.map (·.2)) items bind tb p))) :=
  PS.imp (ps_setLc (g := tG X.mg T l bind) (tt := tT X.mg T tb) (te := tP X.mg T (.ow k) p) hc hN hy hyl hsw hi ok hg ht (fun s H C cl fp => PD.le (he s H C cl fp) hl) hs)
    (set_rd i 0 hk hf (m0_rd (m_of_rd (comp_rd X.mg k hw hls) rfl) rfl rfl))
/-- a target of tuples: of what is given up -/
def sTup (bind : D → Rho → Option Rho) (ma : M D) : SM := ma.run fun d ρ => (bind d ρ).map .nx
theorem s_tup {bind : D → Rho → Option Rho} {l : List Nat} (he : MD X T W e m ma) (hg : GD X T tg l bind) (hl : m.le (.ow 0) = true := by rfl) (hs : swapsWithSole [tg] e pos.line X.env = pure false := by rfl) (hw : swappedStores [tg] e X.env = pure none := by rfl)
    (h1 : (assignEach [tg] X.env).map (·.2) = [assign tg X.env] := by rfl) : SD X T W kr (.Assign [tg] e pos) (sTup bind ma) := by
  refine PS.imp (ps_asg (MD.le he hl) hg hs hw h1) fun N σ H ⟨ρ, S, F, E, z⟩ => ⟨ρ, S, F, E, run_M z fun d ρ' v H' S' F' G z A E' r => ?_⟩
  have w := r.1
  simp only [Rep] at w
  obtain ⟨w, rfl⟩ := w
  cases hb : bind d ρ' with
  | none => rw [hb] at z; exact z.elim
  | some ρ2 =>
    rw [hb] at z
    exact ⟨ρ', S', F', d, ρ2, E', w, hb, fun σ2 E2 _ => z σ2 H' S' F' A E2⟩
/-- a, b = x, y -/
def sPar (i j : Nat) (ml : M (List D)) : SM := ml.run fun ds ρ => match ds with
  | [x, y] => some (.nx ((ρ.set i (some x)).set j (some y)))
  | _ => none
theorem run_L {T : Ty} {W : WX} {kr : Nat} {ks : List Nat} {N : Ends} {mg : Mg} {H : Hp} {S : Addr → Prop} {F : List Addr} {ρ : Rho} {σ : St} {ml : M (List D)} {f : List D → SM} {Ql : List V → Hp → Prop} (z : EndS mg T W kr N H S F (ml.run f ρ)) (h : ∀ d ρ' v H' S' F' G, EndS mg T W kr N H S F (f d ρ') → Aft H S F H' S' (G ++ F') → EnvOk mg T ρ' σ H' S' F' → Args mg H' S' ks d v G → (G ++ F').Nodup → (∀ a, a ∈ G → ¬ S' a) → Ql v H') : EndL mg T W ks σ H S F (ml ρ) Ql := by
  unfold M.run at z
  unfold EndL
  split
  · rename_i hp; rw [hp] at z; exact z
  · rename_i d ρ' hp
    rw [hp] at z
    exact fun v H' S' F' G A E r n f => h d ρ' v H' S' F' G z A E r n f
  · rename_i x ρ' hp
    rw [hp] at z
    exact z.x
theorem s_par (i j : Nat) {ki kj : Nat} {x y : Str} {px py pt : Pos} {kt k2 pt2} (hc : X.calm = true) (hN : X.N.Nodup) (ha : ML X T W [a, b] [ki, kj] ml) (hi : X.N[i]? = some x := by rfl) (hj : X.N[j]? = some y := by rfl) (hij : i ≠ j := by decide)
    (hx : X.env.scope.names.lookup x = some .local := by rfl) (hy : X.env.scope.names.lookup y = some .local := by rfl) (hki : T.ks[i]? = some ki := by rfl) (hkj : T.ks[j]? = some kj := by rfl) (hfi : T.free i = true := by rfl) (hfj : T.free j = true := by rfl)
    (hw : swappedStores [.Tuple [.Name x px, .Name y py] kt pt] (.Tuple [a, b] k2 pt2) X.env = pure (some [x, y]) := by rfl)
    (hs : swapsWithSole [.Tuple [.Name x px, .Name y py] kt pt] (.Tuple [a, b] k2 pt2) pos.line X.env = pure false := by rfl) :
    SD X T W kr (.Assign [.Tuple [.Name x px, .Name y py] kt pt] (.Tuple [a, b] k2 pt2) pos) (sPar i j ml) := by
  refine PS.imp (ps_par hc hN hi hj hij hx hy ha hw hs) fun N σ H ⟨ρ, S, F, E, z⟩ => ⟨ρ, S, F, E, run_L z fun ds ρ' vs H' S' F' G z A E' r n f => ?_⟩
  cases ds with
  | nil => exact z.elim
  | cons dx ds =>
    cases ds with
    | nil => exact z.elim
    | cons dy ds =>
      cases ds with
      | cons _ _ => exact z.elim
      | nil =>
        obtain ⟨_, _, v, w, G1, G2, e1, rfl, rfl, r1, r2⟩ := args_two r
        cases e1
        have n1 := List.nodup_append.mp n
        have n2 := List.nodup_append.mp n1.1
        have nd1 : (G1 ++ F').Nodup := List.nodup_append.mpr ⟨n2.1, n1.2.1, fun a ha b hb => n1.2.2 a (by simp [ha]) b hb⟩
        obtain ⟨F2, E2, hF2⟩ := E'.store (v := v) hki hfi r1 nd1 fun a h => f a (by simp [h])
        have nd2 : (G2 ++ F2).Nodup := List.nodup_append.mpr ⟨n2.2.1, E2.nodup, fun a ha b hb e => by
          rcases hF2 b hb with h | h
          · exact n2.2.2 b h a ha e.symm
          · exact n1.2.2 a (by simp [ha]) b h e⟩
        obtain ⟨F3, E3, hF3⟩ := E2.store (v := w) hkj hfj r2 nd2 fun a h => f a (by simp [h])
        refine ⟨v, w, rfl, z _ H' S' F3 (A.keep fun a h => ?_) E3⟩
        rcases hF3 a h with h | h
        · exact .inl (by simp [h])
        · rcases hF2 a h with h | h
          · exact .inl (by simp [h])
          · exact .inr h

/-! ### loops -/
def loopF (bind : D → Rho → Option Rho) (body : SM) : List D → SM
  | [] => sNx
  | d :: ds => fun ρ => (bind d ρ).bind fun ρ1 => match body ρ1 with
    | some (.nx ρ2) => loopF bind body ds ρ2
    | some (.ct ρ2) => loopF bind body ds ρ2
    | some (.bk ρ2) => some (.nx ρ2)
    | o => o
def sFor (items : Rho → Option (List D)) (bind : D → Rho → Option Rho) (body : SM) : SM := fun ρ => (items ρ).bind fun ds => loopF bind body ds ρ
theorem s_for {items : Rho → Option (List D)} {bind : D → Rho → Option Rho} {l : List Nat} (hp : PassesOwn (model X.prog X.w) X.A X.env X.xe) (hc : X.calm = true) (hi : ID X T tg iter items) (hg : GD X T tg l bind) (hb : SDs X T W kr body s1) (hs : ∀ x, foldedSetIterable iter X.env x = pure x := by intro _; rfl) :
    SD X T W kr (.For tg iter body [] pos) (sFor items bind s1) := by
  refine PS.imp (ps_for hp hc hi hg hb hs) fun N σ H ⟨ρ, S, F, E, z⟩ => ?_
  unfold sFor at z
  cases hds : items ρ with
  | none => rw [hds] at z; exact z.elim
  | some ds =>
    rw [hds] at z
    simp only [Option.bind_some] at z
    refine ⟨ρ, S, F, E, ds, hds, fun J H1 S1 g1 it => ?_⟩
    have E1 := E.grow g1
    have A1 : Aft H S F H1 S1 F := Aft.of_grow g1 (fun a h => .inl h) E1.own
    refine ⟨fun i mm σ' H' => mm = ds.length - i ∧ i ≤ ds.length ∧ ∃ ρ' S' F', EnvOk X.mg T ρ' σ' H' S' F' ∧ Aft H1 S1 F H' S' F' ∧ EndS X.mg T W kr N H' S' F' (loopF bind s1 (ds.drop i) ρ'), ⟨ds.length, by simp, Nat.zero_le _, ρ, S1, F, E1, E1.aft, z.later A1⟩, ?_⟩
    rintro i mm σ2 H2 ⟨rfl, hi, ρ2, S2, F2, E2, A2, z2⟩
    have ex : Ext S1 H1 H2 := A2.ext E1.mo fun a h q => E1.apart a q h
    by_cases hlt : i < ds.length
    · have hd : ds[i]? = some ds[i] := List.getElem?_eq_getElem hlt
      rw [List.drop_eq_getElem_cons hlt] at z2
      simp only [loopF] at z2
      refine .inr ⟨it.go i _ H2 S2 hd ex A2.up, fun σ' H' => ∃ ρ' S' F', EnvOk X.mg T ρ' σ' H' S' F' ∧ Aft H1 S1 F H' S' F' ∧ EndS X.mg T W kr N H' S' F' (loopF bind s1 (ds.drop (i + 1)) ρ'), fun σ' H' h => ⟨ds.length - (i + 1), by omega, rfl, hlt, h⟩, fun x H3 y => ?_⟩
      obtain ⟨s23, wx⟩ := it.yld i _ H2 S2 x H3 hd ex A2.up y
      have g23 : Grow H2 S2 H3 S2 := ⟨s23, fun _ h => h, fun _ h => .inl h, E2.dom⟩
      have E3 := E2.grow g23
      have A23 : Aft H2 S2 F2 H3 S2 F2 := Aft.of_grow g23 (fun a h => .inl h) E3.own
      cases hb : bind ds[i] ρ2 with
      | none => rw [hb] at z2; exact z2.elim
      | some ρ3 =>
        rw [hb] at z2
        simp only [Option.bind_some] at z2
        refine ⟨ρ2, S2, F2, ds[i], ρ3, E3, wx, hb, fun σ3 E3' _ => ⟨ρ3, S2, F2, E3', ?_⟩⟩
        have A13 := A2.trans A23
        have z3 := EndS.later z2 A23
        cases hs1 : s1 ρ3 with
        | none => rw [hs1] at z3; exact z3.elim
        | some o =>
          rw [hs1] at z3
          cases o with
          | nx ρ4 => exact fun σ4 H4 S4 F4 A4 E4 => ⟨ρ4, S4, F4, E4, A13.trans A4, EndS.later z3 A4⟩
          | ct ρ4 => exact fun σ4 H4 S4 F4 A4 E4 => ⟨ρ4, S4, F4, E4, A13.trans A4, EndS.later z3 A4⟩
          | bk ρ4 => exact fun σ4 H4 S4 F4 A4 E4 => z3 σ4 H4 S4 F4 A4 E4
          | rt d ρ4 => exact z3
          | ex x ρ4 => exact z3
    · have hi' : i = ds.length := by omega
      subst hi'
      rw [List.drop_length] at z2
      exact .inl ⟨it.stop _ H2 S2 (Nat.le_refl _) ex A2.up, z2 σ2 H2 S2 F2 E2.aft E2⟩
def loopW (t : M Bool) (body : SM) : Nat → SM
  | 0 => fun _ => none
  | n + 1 => t.run fun b => if b = true then (fun ρ1 => match body ρ1 with
    | some (.nx ρ2) => loopW t body n ρ2
    | some (.ct ρ2) => loopW t body n ρ2
    | some (.bk ρ2) => some (.nx ρ2)
    | o => o) else sNx
theorem s_while (n : Nat) (hp : PassesOwn (model X.prog X.w) X.A X.env X.xe) (hc : MB X T W c mt) (hb : SDs X T W kr body s1) : SD X T W kr (.While c body [] pos) (loopW mt s1 n) := by
  refine PS.imp (ps_while hp hc hb) fun N σ H ⟨ρ, S, F, E, z⟩ => ?_
  refine ⟨fun mm σ' H' => ∃ ρ' S' F', EnvOk X.mg T ρ' σ' H' S' F' ∧ EndS X.mg T W kr N H' S' F' (loopW mt s1 mm ρ'), ⟨n, ρ, S, F, E, z⟩, ?_⟩
  rintro mm σ2 H2 ⟨ρ2, S2, F2, E2, z2⟩
  cases mm with
  | zero => exact z2.elim
  | succ mm =>
    simp only [loopW] at z2
    refine ⟨ρ2, S2, F2, E2, run_B z2 fun b ρ3 H3 S3 F3 z3 A3 E3 => ?_⟩
    cases b with
    | false => exact z3 σ2 H3 S3 F3 A3 E3
    | true =>
      simp only [if_true] at z3 ⊢
      refine ⟨fun σ' H' => ∃ ρ' S' F', EnvOk X.mg T ρ' σ' H' S' F' ∧ EndS X.mg T W kr N H' S' F' (loopW mt s1 mm ρ'), fun σ' H' h => ⟨mm, Nat.lt_succ_self _, h⟩, ρ3, S3, F3, E3, ?_⟩
      have z3 := EndS.later z3 A3
      cases hs1 : s1 ρ3 with
      | none => rw [hs1] at z3; exact z3.elim
      | some o =>
        rw [hs1] at z3
        cases o with
        | nx ρ4 => exact fun σ4 H4 S4 F4 A4 E4 => ⟨ρ4, S4, F4, E4, EndS.later z3 A4⟩
        | ct ρ4 => exact fun σ4 H4 S4 F4 A4 E4 => ⟨ρ4, S4, F4, E4, EndS.later z3 A4⟩
        | bk ρ4 => exact fun σ4 H4 S4 F4 A4 E4 => z3 σ4 H4 S4 F4 A4 E4
        | rt d ρ4 => exact z3
        | ex x ρ4 => exact z3
end
end DL
end

section
set_option Elab.async false
set_option linter.all false
set_option maxRecDepth 100000
set_option maxHeartbeats 4000000
/-! DL15: stores. -/
namespace DL
open PySem PySem.Spec PyProof.Rows L2

section
variable {X : Cx} {T : Ty} {W : WX} {a b c e o tg iter : Expr} {es : List Expr} {pos : Pos} {m m1 m2 md : Md} {p q : Rho → Option D} {pl : Rho → Option (List Nat)} {ma mb : M D} {mt : M Bool} {ml : M (List D)} {k kr i n : Nat} {st : Stmt} {sts body : List Stmt} {s1 s2 s3 : SM}
/-- o[q] = m, o a place -/
def sSto (i : Nat) (pl : Rho → Option (List Nat)) (q : Rho → Option D) (f : D → List D → Option (D × D)) (ma : M D) : SM := ma.run fun d ρ => (pl ρ).bind fun π => (slotD ρ i).bind fun s => (getP s π).bind fun x => (q ρ).bind fun y => (f x [y, d]).map fun r => .nx (ρ.set i (some (setP s π r.1)))
theorem s_sto {t : TSet} {f : D → List D → Option (D × D)} (hst : PSet X t) (op : OpMu X (rSt t) k [0, k] 0 f) (he : MD X T W e m ma) (ho : PL X T o i n pl) (hi : PD X T a m1 q) (hl : m.le (.ow k) = true := by rfl) (hl1 : m1.le (.ow 0) = true := by rfl) (hk : T.ks[i]? = some (k + 1 + n) := by rfl)
    {tpos : Pos} (hs : swapsWithSole [.Subscript o a tpos] e pos.line X.env = pure false := by rfl) (hw : swappedStores [.Subscript o a tpos] e X.env = pure none := by rfl) (h1 : (assignEach [.Subscript o a tpos] X.env).map (·.2) = [assign (.Subscript o a tpos) X.env] := by rfl)
    (ha : ∀ v, assign (.Subscript o a tpos) X.env v = (do
      let ov ← holding [v] (eval o X.env)
      let iv ← holding [v, ov] (eval a X.env)
      standAt tpos
      holding [v, ov, iv] (setItem ov iv v)
      release [v, ov, iv] []) := by intro _; rfl) : SD X T W kr (.Assign [.Subscript o a tpos] e pos) (sSto i pl q f ma) := by
  refine PS.imp (ps_asg (MD.le he hl) (pg_sub ho.pe (PD.le hi hl1) hst ha) hs hw h1) fun N σ H ⟨ρ, S, F, E, z⟩ => ⟨ρ, S, F, E, run_M z fun d ρ1 v H1 S1 F1 G z A E1 r => ?_⟩
  obtain ⟨r, nd, ap⟩ := r
  cases hπ : pl ρ1 with
  | none => rw [hπ] at z; exact z.elim
  | some π =>
    rw [hπ] at z
    simp only [Option.bind_some] at z
    cases hd : slotD ρ1 i with
    | none => rw [hd] at z; exact z.elim
    | some s =>
      rw [hd] at z
      simp only [Option.bind_some] at z
      cases hx : getP s π with
      | none => rw [hx] at z; exact z.elim
      | some x =>
        rw [hx] at z
        simp only [Option.bind_some] at z
        cases hy : q ρ1 with
        | none => rw [hy] at z; exact z.elim
        | some y =>
          rw [hy] at z
          simp only [Option.bind_some] at z
          cases hf : f x [y, d] with
          | none => rw [hf] at z; exact z.elim
          | some xy =>
            rw [hf] at z
            obtain ⟨x', u⟩ := xy
            have hn := ho.len ρ1 π hπ
            refine ⟨ρ1, S1, F1, E1, π, s, x, hπ, hn, slotD_some hd, hx, fun v0 w H2 S2 hv0 g2 at2 => ⟨ρ1, S2, F1, E1.grow g2, y, hy, fun vi H3 S3 G3 g3 r3 => ?_⟩⟩
            have g13 := g2.trans g3
            have E3 := E1.grow g13
            have w3 := r3.1
            simp only [Rep] at w3
            obtain ⟨w3, rfl⟩ := w3
            have rr := r.mono g13.up (Same.ext g13.same)
            have ap3 : ∀ a, a ∈ G → ¬ S3 a := fun a h => by
              obtain ⟨o, eo, _⟩ := r.mo a h
              exact g13.out eo (ap a h)
            have ra : Args X.mg H3 S3 [0, k] [y, d] [vi, v] G := by
              simp only [Args]
              exact ⟨vi, [v], [], G, rfl, rfl, by simp only [Rep]; exact ⟨w3, trivial⟩, v, [], G, [], rfl, by simp, rr, rfl, rfl⟩
            have hx' := slotD_some hd
            have := mut_fin (Q := fun _ H' => N.nx σ H') op E3 hx' (by rw [hn]; exact hk) hv0 hx (at2.mono g3.same) hf ra nd ap3 fun v' H' F' Gr A2 E4 r4 => ?_
            · obtain ⟨i', v', e1, h⟩ := this
              cases e1
              exact h
            · refine z σ H' S3 F' ((A.trans (Aft.of_grow g13 (fun a h => .inl h) fun a h => ?_)).trans A2).drop E4
              rcases List.mem_append.mp h with h | h
              · exact rr.own a h
              · exact E3.own a h
theorem s_stoL (k : Nat) (he : MD X T W e m ma) (ho : PL X T o i n pl) (hi : PD X T a m1 q) (hl : m.le (.ow k) = true := by rfl) (hl1 : m1.le (.ow 0) = true := by rfl) (hk : T.ks[i]? = some (k + 1 + n) := by rfl)
    {tpos : Pos} (hs : swapsWithSole [.Subscript o a tpos] e pos.line X.env = pure false := by rfl) (hw : swappedStores [.Subscript o a tpos] e X.env = pure none := by rfl) (h1 : (assignEach [.Subscript o a tpos] X.env).map (·.2) = [assign (.Subscript o a tpos) X.env] := by rfl)
    (ha : ∀ v, assign (.Subscript o a tpos) X.env v = (do
      let ov ← holding [v] (eval o X.env)
      let iv ← holding [v, ov] (eval a X.env)
      standAt tpos
      holding [v, ov, iv] (setItem ov iv v)
      release [v, ov, iv] []) := by intro _; rfl) : SD X T W kr (.Assign [.Subscript o a tpos] e pos) (sSto i pl q setD ma) := s_sto set_list u_set he ho hi hl hl1 hk hs hw h1 ha
end
end DL
end

section
set_option Elab.async false
set_option linter.all false
set_option maxRecDepth 100000
set_option maxHeartbeats 4000000
/-! DL16: functions, calls. -/
namespace DL
open PySem PySem.Spec PyProof.Rows L2

inductive FRes where
  | rt (d : D) (outs : List D) | ex (x : Ex) (outs : List D)
/-- what a function does with its arguments: the answer, the arguments behind it -/
abbrev Den := List D → Option FRes
def EndF (mg : Mg) (ks : List Nat) (kr : Nat) (vs : List V) (H : Hp) (S : Addr → Prop) (G : List Addr) (Q : VK) (E : XK) (o : Option FRes) : Prop := match o with
  | none => False
  | some (.rt d outs) => ∀ v H' S' Gr G', Aft H S G H' S' (Gr ++ G') → Args mg H' S' ks outs vs G' → Rep mg H' S' d kr v Gr → (Gr ++ G').Nodup → (∀ a, a ∈ Gr ++ G' → ¬ S' a) → Q v H'
  | some (.ex x outs) => ∀ cls dd H' S' G', Aft H S G H' S' G' → Args mg H' S' ks outs vs G' → G'.Nodup → (∀ a, a ∈ G' → ¬ S' a) → ExOk mg x cls dd H' → E cls dd H'
def spF (mg : Mg) (ks : List Nat) (kr : Nat) (den : Den) : Sp := fun vs H Q E => ∃ S ds G, Args mg H S ks ds vs G ∧ G.Nodup ∧ (∀ a, a ∈ G → ¬ S a) ∧ (∀ a, S a → H a ≠ none) ∧ EndF mg ks kr vs H S G Q E (den ds)
/-- the arguments behind a body -/
def outsOf : List Nat → List D → Rho → Option (List D)
  | [], _, _ => some []
  | k :: ks, d :: ds, o :: ρ => (if k = 0 then some d else o).bind fun x => (outsOf ks ds ρ).map (x :: ·)
  | _, _, _ => none
def fnD (n : Nat) (ks : List Nat) (body : SM) : Den := fun ds => match body (ds.map some ++ List.replicate (n - ds.length) none) with
  | some (.nx ρ) => (outsOf ks ds ρ).map (.rt .non)
  | some (.rt d ρ) => (outsOf ks ds ρ).map (.rt d)
  | some (.ex x ρ) => (outsOf ks ds ρ).map (.ex x)
  | _ => none
/-- the parameters that are handed back -/
def ioIx : Nat → List Nat → List Nat
  | _, [] => []
  | i, k :: ks => if k = 0 then ioIx (i + 1) ks else i :: ioIx (i + 1) ks
section
variable {mg : Mg} {H H' H1 H2 : Hp} {S S' S1 S2 : Addr → Prop} {T : Ty} {ρ ρ' : Rho} {σ : St} {F F1 F2 F3 G : List Addr} {k kr : Nat} {d : D} {v : V} {Q : VK}
theorem slots_none : ∀ (n : Nat) (ks : List Nat), n ≤ ks.length → Slots mg H S (List.replicate n none) ks (List.replicate n none) []
  | 0, _, _ => by simp [Slots]
  | n + 1, [], h => by simp at h
  | n + 1, k :: ks, h => by
    simp only [List.replicate_succ, Slots]
    exact ⟨none, _, [], [], rfl, rfl, rfl, slots_none n ks (by simpa using h)⟩
theorem args_slots : ∀ {ks : List Nat} {ds : List D} {vs : List V} {G : List Addr} (kl : List Nat) (n : Nat), Args mg H S ks ds vs G → n ≤ kl.length → Slots mg H S (ds.map some ++ List.replicate n none) (ks ++ kl) (vs.map some ++ List.replicate n none) G
  | [], [], vs, G, kl, n, h, hn => by
    simp only [Args] at h
    obtain ⟨rfl, rfl⟩ := h
    exact slots_none n kl hn
  | [], _ :: _, _, _, _, _, h, _ => by simp only [Args] at h
  | _ :: _, [], _, _, _, _, h, _ => by simp only [Args] at h
  | k :: ks, d :: ds, vs, G, kl, n, h, hn => by
    simp only [Args] at h
    obtain ⟨v, r, G1, G2, rfl, rfl, h1, h2⟩ := h
    simp only [List.map_cons, List.cons_append, Slots]
    exact ⟨some v, _, G1, G2, rfl, rfl, ⟨v, rfl, h1⟩, args_slots kl n h2 hn⟩
/-- what is handed back -/
theorem slots_args {H0 : Hp} {S0 : Addr → Prop} {kl : List Nat} (ex : Ext S0 H0 H) (up : ∀ a, S0 a → S a) : ∀ {ks : List Nat} {ds : List D} {vs : List V} {G0 : List Addr} {ρ : Rho} {σ : St} {F : List Addr} {outs : List D} (j : Nat) {iv : Nat → V},
    Args mg H0 S0 ks ds vs G0 → Slots mg H S ρ (ks ++ kl) σ F → outsOf ks ds ρ = some outs → (∀ i, i ∈ ioIx j ks → σ[i - j]? = some (some (iv i))) → (∀ i v, vs[i]? = some v → iv (j + i) = v) → ∃ G', Args mg H S ks outs vs G' ∧ G'.Sublist F
  | [], [], vs, G0, ρ, σ, F, outs, j, iv, h, hs, ho, hi, hv => by
    simp only [outsOf, Option.some.injEq] at ho
    subst ho
    simp only [Args] at h ⊢
    exact ⟨[], ⟨h.1, rfl⟩, List.nil_sublist _⟩
  | [], _ :: _, _, _, _, _, _, _, _, _, h, _, _, _, _ => by simp only [Args] at h
  | _ :: _, [], _, _, _, _, _, _, _, _, h, _, _, _, _ => by simp only [Args] at h
  | _ :: _, _ :: _, _, _, [], _, _, _, _, _, _, _, ho, _, _ => by simp [outsOf] at ho
  | k :: ks, d :: ds, vs, G0, o :: ρ, σ, F, outs, j, iv, h, hs, ho, hi, hv => by
    simp only [Args] at h
    obtain ⟨v, r, G1, G2, rfl, rfl, h1, h2⟩ := h
    simp only [List.cons_append, Slots] at hs
    obtain ⟨o', q, A, B, rfl, rfl, hs1, hs2⟩ := hs
    simp only [outsOf, Option.bind_eq_some_iff, Option.map_eq_some_iff] at ho
    obtain ⟨x, hx, outs', ho, rfl⟩ := ho
    have hv0 : iv j = v := by have := hv 0 v rfl; simpa using this
    obtain ⟨G', ha, hsub⟩ := slots_args ex up (j + 1) (iv := iv) h2 hs2 ho (fun i hi' => by
      have hle : ∀ (ks : List Nat) (j i : Nat), i ∈ ioIx j ks → j ≤ i := by
        intro ks
        induction ks with
        | nil => intro j i h; simp [ioIx] at h
        | cons k ks ih =>
          intro j i h
          simp only [ioIx] at h
          split at h
          · exact Nat.le_of_succ_le (ih (j + 1) i h)
          · rcases List.mem_cons.mp h with h | h
            · omega
            · exact Nat.le_of_succ_le (ih (j + 1) i h)
      have h3 := hle ks (j + 1) i hi'
      have := hi i (by simp only [ioIx]; split <;> simp [hi'])
      obtain ⟨m, rfl⟩ : ∃ m, i = j + 1 + m := ⟨i - (j + 1), by omega⟩
      rw [show j + 1 + m - j = m + 1 by omega] at this
      rw [show j + 1 + m - (j + 1) = m by omega]
      simpa using this) (fun i u hu => by
      have := hv (i + 1) u (by simpa using hu)
      rw [← this]
      congr 1
      omega)
    by_cases hk : k = 0
    · subst hk
      simp only [if_true, Option.some.injEq] at hx
      subst hx
      simp only [Rep] at h1
      simp only [Args]
      refine ⟨G', ⟨v, r, [], G', rfl, rfl, ?_, ha⟩, hsub.trans (List.sublist_append_right _ _)⟩
      simp only [Rep]
      exact ⟨h1.1.mono ex up, trivial⟩
    · rw [if_neg hk] at hx
      subst hx
      obtain ⟨v', rfl, rep⟩ := hs1
      have := hi j (by simp [ioIx, hk])
      simp only [Nat.sub_self, List.getElem?_cons_zero, Option.some.injEq] at this
      subst this
      simp only [Args]
      refine ⟨A ++ G', ⟨v, r, A, G', rfl, rfl, by rw [← hv0]; exact rep, ha⟩, List.Sublist.append (List.Sublist.refl _) hsub⟩
theorem spF_len {ks : List Nat} {den : Den} {vs : List V} {E : XK} (h : spF mg ks kr den vs H Q E) : vs.length = ks.length := by
  obtain ⟨S, ds, G, h, _⟩ := h
  exact h.len.2
/-- of no slot with a value of its own -/
theorem fn_rd {W : WX} {ks kl : List Nat} {n : Nat} {body : SM} {vs : List V} {N : List Str} {E : XK} (hn : n = N.length) (hkl : N.length ≤ ks.length + kl.length) (hW : ∀ cls dd σ H, E cls dd H → W cls dd σ H) (h : spF mg ks kr (fnD n ks body) vs H Q E) :
    tS mg ⟨ks ++ kl, ioIx 0 ks, fun i => vs.getD i .non⟩ W kr body { nx := fun _ H' => Q .non H', rt := Q } (L2.start N vs) H := by
  obtain ⟨S, ds, G, ra, nd, ap, dm, z⟩ := h
  obtain ⟨l1, l2⟩ := ra.len
  subst hn
  have hst : L2.start N vs = vs.map some ++ List.replicate (N.length - ds.length) none := by unfold L2.start; rw [l1, l2]
  have iv : ∀ i v, vs[i]? = some v → vs.getD i .non = v := fun i v h => by simp [List.getD, h]
  have E0 : EnvOk mg ⟨ks ++ kl, ioIx 0 ks, fun i => vs.getD i .non⟩ (ds.map some ++ List.replicate (N.length - ds.length) none) (L2.start N vs) H S G := by
    rw [hst]
    refine ⟨args_slots kl _ ra (by omega), nd, ap, dm, fun p hp => ?_⟩
    have hle : ∀ (ks : List Nat) (j i : Nat), i ∈ ioIx j ks → i < j + ks.length := by
      intro ks
      induction ks with
      | nil => intro j i h; simp [ioIx] at h
      | cons k ks ih =>
        intro j i h
        simp only [ioIx] at h
        split at h
        · have := ih (j + 1) i h; simp; omega
        · rcases List.mem_cons.mp h with h | h
          · simp; omega
          · have := ih (j + 1) i h; simp; omega
    have hp' := hle ks 0 p hp
    have hlt : p < vs.length := by omega
    rw [List.getElem?_append_left (by simpa using hlt), List.getElem?_map, List.getElem?_eq_getElem hlt]
    simp [List.getD, List.getElem?_eq_getElem hlt]
  refine ⟨_, S, G, E0, ?_⟩
  unfold fnD at z
  have fin : ∀ {ρ' : Rho} {σ' : St} {H' : Hp} {S' : Addr → Prop} {F' Gr : List Addr} {outs : List D}, Aft H S G H' S' (Gr ++ F') → EnvOk mg ⟨ks ++ kl, ioIx 0 ks, fun i => vs.getD i .non⟩ ρ' σ' H' S' F' → outsOf ks ds ρ' = some outs → ∃ G', Args mg H' S' ks outs vs G' ∧ G'.Sublist F' := fun A E' ho =>
    slots_args (A.ext (fun a h => ra.mo a h) fun a q h => ap a h q) A.up 0 ra E'.slots ho (fun i hi => by rw [Nat.sub_zero]; exact E'.io i hi) fun i v h => by rw [Nat.zero_add]; exact iv i v h
  unfold EndS
  split
  · rename_i hb; rw [hb] at z; exact z
  · rename_i ρ' hb
    rw [hb] at z
    intro σ' H' S' F' A E'
    cases ho : outsOf ks ds ρ' with
    | none => simp only [ho] at z; exact z.elim
    | some outs =>
      simp only [ho] at z
      obtain ⟨G', ra', hs⟩ := fin (Gr := []) A E' ho
      exact z .non H' S' [] G' (Aft.keep (G := []) A fun a h => .inr (hs.subset (by simpa using h))) ra' rep_non (by simpa using hs.nodup E'.nodup) fun a h => E'.apart a (hs.subset (by simpa using h))
  · rename_i ρ' hb; rw [hb] at z; exact z.elim
  · rename_i ρ' hb; rw [hb] at z; exact z.elim
  · rename_i d ρ' hb
    rw [hb] at z
    intro v σ' H' S' F' Gr A E' r
    cases ho : outsOf ks ds ρ' with
    | none => simp only [ho] at z; exact z.elim
    | some outs =>
      simp only [ho] at z
      obtain ⟨G', ra', hs⟩ := fin A E' ho
      obtain ⟨r, n2, f2⟩ := r
      have n2' := List.nodup_append.mp n2
      refine z v H' S' Gr G' (A.keep fun a h => ?_) ra' r (List.nodup_append.mpr ⟨n2'.1, hs.nodup n2'.2.1, fun a ha b hb => n2'.2.2 a ha b (hs.subset hb)⟩) fun a h => ?_
      · rcases List.mem_append.mp h with h | h
        · exact .inl h
        · exact .inr (hs.subset h)
      · rcases List.mem_append.mp h with h | h
        · exact f2 a h
        · exact E'.apart a (hs.subset h)
  · rename_i x ρ' hb
    rw [hb] at z
    intro σ' cls dd H' S' F' A E' q
    cases ho : outsOf ks ds ρ' with
    | none => simp only [ho] at z; exact z.elim
    | some outs =>
      simp only [ho] at z
      obtain ⟨G', ra', hs⟩ := fin (Gr := []) A E' ho
      exact hW _ _ _ _ (z cls dd H' S' G' (Aft.keep (G := []) A fun a h => .inr (hs.subset h)) ra' (hs.nodup E'.nodup) (fun a h => E'.apart a (hs.subset h)) q)
end
section
variable {P : Program} {w : World} {K : PySem.W.Frag} {mg : Str → Option Value} {base : Heap}
theorem fn_ok {x qual : Str} {st : Stmt} {f : Addr} {fd : FuncData} {N ps : List Str} {k n kr : Nat} {ks kl : List Nat} {body : SM} (F : Fun K x qual st f fd) (S : FnScope N ps (defScope st)) (hps : ps.length = ks.length) (hn : n = N.length) (hkl : N.length ≤ ks.length + kl.length)
    (hbody : ∀ (cdv : Value) (A : Around) (outer : List Env) (s : Shared) (H : Hp) (E : XK), Room k (A.deeper (envOfC qual (defScope st) s.heap.objs.size f cdv)) → ∀ (iv : Nat → V) (W : WX), Takes (cxOf (L2.CX P w) P w K mg base N qual (defScope st) f cdv A outer s H E) W →
      SDs (cxOf (L2.CX P w) P w K mg base N qual (defScope st) f cdv A outer s H E) ⟨ks ++ kl, ioIx 0 ks, iv⟩ W kr (defBody st) body) :
    FnOk P w K mg base (L2.CX P w) (k + 1) f fd ps (spF mg ks kr (fnD n ks body)) := by
  refine F.okX S (fun vs H Q E h => by rw [spF_len h, hps]) fun cdv A outer s H vs Q E hr h => ?_
  exact ⟨_, hbody cdv A outer s H E hr _ (fun cls d _ H => E cls d H) (takes_of rfl rfl rfl rfl), fn_rd hn hkl (fun _ _ _ _ h => h) h⟩
end
end DL
end

section
set_option Elab.async false
set_option linter.all false
set_option maxRecDepth 100000
set_option maxHeartbeats 4000000
/-! DL17: calls. -/
namespace DL
open PySem PySem.Spec PyProof.Rows L2

section
variable {mg : Mg} {H H' H1 H2 : Hp} {S S' S1 S2 : Addr → Prop} {T : Ty} {ρ ρ' : Rho} {σ : St} {F F1 F2 F3 G : List Addr} {k kr : Nat} {d : D} {v : V} {Q : VK}
theorem Args.zero : ∀ {ks : List Nat} {ds : List D} {vs : List V} {G : List Addr}, Args mg H S ks ds vs G → ks.all (· == 0) = true → G = []
  | [], [], _, _, h, _ => by simp only [Args] at h; exact h.2
  | [], _ :: _, _, _, h, _ => by simp only [Args] at h
  | _ :: _, [], _, _, h, _ => by simp only [Args] at h
  | k :: ks, d :: ds, vs, G, h, q => by
    simp only [Args] at h
    obtain ⟨v, r, G1, G2, rfl, rfl, h1, h2⟩ := h
    simp only [List.all_cons, Bool.and_eq_true, beq_iff_eq] at q
    obtain ⟨rfl, q⟩ := q
    simp only [Rep] at h1
    rw [h1.2, h2.zero q]; rfl
theorem Aft.grow (A : Aft H S [] H' S' F2) : Grow H S H' S' := ⟨fun a o e => A.kp a o e (by simp), A.up, fun a h => by
  rcases A.new a h with h | h | h
  · exact .inl h
  · simp at h
  · exact .inr h, A.dom⟩
/-- arguments that are slots taken out -/
def Moved (σ : St) : List (Option Nat) → List V → Prop
  | [], _ => True
  | none :: is, _ :: vs => Moved σ is vs
  | some i :: is, v :: vs => σ[i]? = some (some v) ∧ Moved σ is vs
  | _, [] => False
def gb : List (Option Nat) → List D → Rho → Option Rho
  | [], _, ρ => some ρ
  | none :: is, _ :: outs, ρ => gb is outs ρ
  | some i :: is, x :: outs, ρ => match ρ[i]? with
    | some none => gb is outs (ρ.set i (some x))
    | _ => none
  | _, [], _ => none
def isOk (T : Ty) : List (Option Nat) → List Nat → Bool
  | [], _ => true
  | none :: is, _ :: ks => isOk T is ks
  | some i :: is, k :: ks => (T.ks[i]? == some k) && isOk T is ks
  | _, [] => false
theorem gb_env : ∀ {is : List (Option Nat)} {ks : List Nat} {outs : List D} {vs : List V} {G : List Addr} {ρ ρ' : Rho} {F : List Addr}, EnvOk mg T ρ σ H S F → Args mg H S ks outs vs G → Moved σ is vs → isOk T is ks = true → gb is outs ρ = some ρ' → (G ++ F).Nodup → (∀ a, a ∈ G → ¬ S a) →
    ∃ F', EnvOk mg T ρ' σ H S F' ∧ ∀ a, a ∈ F' → a ∈ G ∨ a ∈ F
  | [], ks, outs, vs, G, ρ, ρ', F, E, ra, mv, ok, h, nd, ap => by
    simp only [gb, Option.some.injEq] at h
    subst h
    exact ⟨F, E, fun a h => .inr h⟩
  | none :: is, [], _, _, _, _, _, _, _, _, _, ok, _, _, _ => by simp [isOk] at ok
  | none :: is, _ :: _, [], _, _, _, _, _, _, _, _, _, h, _, _ => by simp [gb] at h
  | none :: is, k :: ks, d :: outs, vs, G, ρ, ρ', F, E, ra, mv, ok, h, nd, ap => by
    simp only [Args] at ra
    obtain ⟨v, r, G1, G2, rfl, rfl, h1, h2⟩ := ra
    simp only [gb] at h
    simp only [Moved] at mv
    simp only [isOk] at ok
    have nd' := List.nodup_append.mp nd
    obtain ⟨F', E', hF⟩ := gb_env E h2 mv ok h (List.nodup_append.mpr ⟨(List.nodup_append.mp nd'.1).2.1, nd'.2.1, fun a ha b hb => nd'.2.2 a (by simp [ha]) b hb⟩) fun a h => ap a (by simp [h])
    exact ⟨F', E', fun a h => (hF a h).imp (by simp +contextual) id⟩
  | some i :: is, [], _, _, _, _, _, _, _, _, _, ok, _, _, _ => by simp [isOk] at ok
  | some i :: is, _ :: _, [], _, _, _, _, _, _, _, _, _, h, _, _ => by simp [gb] at h
  | some i :: is, k :: ks, d :: outs, vs, G, ρ, ρ', F, E, ra, mv, ok, h, nd, ap => by
    simp only [Args] at ra
    obtain ⟨v, r, G1, G2, rfl, rfl, h1, h2⟩ := ra
    simp only [Moved] at mv
    simp only [isOk, Bool.and_eq_true, beq_iff_eq] at ok
    simp only [gb] at h
    split at h
    · rename_i hi
      have nd' := List.nodup_append.mp nd
      have n12 := List.nodup_append.mp nd'.1
      obtain ⟨F1, E1, hF1⟩ := E.give hi ok.1 mv.1 h1 (List.nodup_append.mpr ⟨n12.1, nd'.2.1, fun a ha b hb => nd'.2.2 a (by simp [ha]) b hb⟩) fun a h => ap a (by simp [h])
      obtain ⟨F', E', hF⟩ := gb_env E1 h2 mv.2 ok.2 h (List.nodup_append.mpr ⟨n12.2.1, E1.nodup, fun a ha b hb e => by
        subst e
        rcases (hF1 a).mp hb with q | q
        · exact n12.2.2 a q a ha rfl
        · exact nd'.2.2 a (by simp [ha]) a q rfl⟩) fun a h => ap a (by simp [h])
      refine ⟨F', E', fun a h => ?_⟩
      rcases hF a h with q | q
      · exact .inl (by simp [q])
      · rcases (hF1 a).mp q with q | q
        · exact .inl (by simp [q])
        · exact .inr q
    · cases h
end
/-- arguments, some of them slots taken out -/
def EndI (mg : Mg) (T : Ty) (W : WX) (ks : List Nat) (is : List (Option Nat)) (σ : St) (H : Hp) (S : Addr → Prop) (F : List Addr) (o : Option (Res (List D))) (Q : List V → Hp → Prop) : Prop := match o with
  | none => False
  | some (.ok ds ρ') => ∀ vs H' S' F' G, Aft H S F H' S' (G ++ F') → EnvOk mg T ρ' σ H' S' F' → Args mg H' S' ks ds vs G → (G ++ F').Nodup → (∀ a, a ∈ G → ¬ S' a) → Moved σ is vs → Q vs H'
  | some (.ex x ρ') => EndX mg T W σ H S F x ρ'
def tMI (mg : Mg) (T : Ty) (W : WX) (ks : List Nat) (is : List (Option Nat)) (m : M (List D)) : TA := fun σ H Q => ∃ ρ S F, EnvOk mg T ρ σ H S F ∧ EndI mg T W ks is σ H S F (m ρ) Q
abbrev MI (X : Cx) (T : Ty) (W : WX) (es : List Expr) (ks : List Nat) (is : List (Option Nat)) (m : M (List D)) : Prop := PA X es (tMI X.mg T W ks is m)
/-- a slot taken out -/
def mMv (i : Nat) : M D := fun ρ => (slotD ρ i).map fun d => .ok d (ρ.set i none)
section
variable {X : Cx} {T : Ty} {W : WX} {a b c e o : Expr} {es : List Expr} {pos apos cpos : Pos} {m m1 m2 md : Md} {p q : Rho → Option D} {psm : Rho → Option (List D)} {pl : Rho → Option (List Nat)} {ma mb : M D} {ml : M (List D)} {i n k kr : Nat} {ks : List Nat} {is : List (Option Nat)}
theorem mi_nil : MI X T W [] [] [] lNil := PA.imp pa_nil fun σ H Q ⟨ρ, S, F, E, z⟩ => z [] H S F [] E.aft E (by simp only [Args]; exact ⟨trivial, trivial⟩) (by simpa using E.nodup) (by simp) trivial
theorem mi_cons (k : Nat) (h : MD X T W e m ma) (hr : MI X T W es ks is ml) (hl : m.le (.ow k) = true := by rfl) (hs : starEach (e :: es) X.env = (false, eval e X.env) :: starEach es X.env := by rfl) : MI X T W (e :: es) (k :: ks) (none :: is) (lCons ma ml) := by
  refine PA.imp (pa_cons (MD.le h hl) hr hs) fun σ H Q ⟨ρ, S, F, E, z⟩ => ⟨ρ, S, F, E, ?_⟩
  unfold lCons M.bind at z
  unfold EndM
  split
  · rename_i hp; rw [hp] at z; exact z.elim
  · rename_i x ρ1 hp
    rw [hp] at z
    intro v H1 S1 F1 G1 A E1 r1
    obtain ⟨q1, n1, f1⟩ := r1
    have hF1 : ∀ a, a ∈ G1 ++ F1 → H1 a ≠ none := fun a h => by
      rcases List.mem_append.mp h with h | h
      · exact q1.own a h
      · exact E1.own a h
    refine ⟨ρ1, S1, F1, E1, ?_⟩
    simp only at z
    unfold EndI
    split
    · rename_i hq; rw [hq] at z; exact z.elim
    · rename_i y ρ2 hq
      rw [hq] at z
      intro vs H2 S2 F2 G2 A2 E2 r2 n2 f2 mv
      have n1' := List.nodup_append.mp n1
      have G1F1 : ∀ a, a ∈ G1 → a ∉ F1 := fun a h1 h2 => n1'.2.2 a h1 a h2 rfl
      have q1' := q1.wait A2 E1.mo E1.apart G1F1
      have dis : ∀ a, a ∈ G1 → a ∉ G2 ++ F2 := fun a h1 h2 => by
        rcases A2.sub a h2 with q | q
        · exact G1F1 a h1 q
        · exact q1.own a h1 q
      refine z (v :: vs) H2 S2 F2 (G1 ++ G2) ?_ E2 ?_ ?_ (fun a h => ?_) mv
      · refine A.trans (A2.frame (fun a h => by simp [h]) (fun a h => ?_) hF1)
        simp only [List.mem_append] at h ⊢
        rcases h with (h | h) | h
        · exact .inr (.inl h)
        · exact .inl (.inl h)
        · exact .inl (.inr h)
      · simp only [Args]
        exact ⟨v, vs, G1, G2, rfl, rfl, q1', r2⟩
      · rw [List.append_assoc]
        exact List.nodup_append.mpr ⟨n1'.1, n2, fun a ha b hb e => dis a ha (e ▸ hb)⟩
      · rcases List.mem_append.mp h with h | h
        · exact A2.outs (q1.own a h) (f1 a h) (G1F1 a h)
        · exact f2 a h
    · rename_i y ρ2 hq
      rw [hq] at z
      exact z.later2 A hF1
  · rename_i x ρ1 hp; rw [hp] at z; exact z
theorem mv_rd (i k : Nat) {te : TE} {t : TA} {is : List (Option Nat)} (hk : T.ks[i]? = some k) (hte : ∀ σ H Q v, σ[i]? = some (some v) → Q v H → te σ H Q) (ht : ∀ σ H Q, tMI X.mg T W ks is ml σ H Q → t σ H Q) : ∀ σ H Q, tMI X.mg T W (k :: ks) (some i :: is) (lCons (mMv i) ml) σ H Q → te σ H fun v H1 => t σ H1 fun vs H2 => Q (v :: vs) H2 := by
  intro σ H Q ⟨ρ, S, F, E, z⟩
  unfold lCons M.bind mMv at z
  cases hd : slotD ρ i with
  | none => rw [hd] at z; exact z.elim
  | some d =>
    rw [hd] at z
    simp only [Option.map_some] at z
    obtain ⟨k', v, G1, F1, ek, ev, q1, E1, n1, hF⟩ := E.take (slotD_some hd)
    rw [hk] at ek; cases ek
    refine hte σ H _ v ev (ht σ H _ ⟨ρ.set i none, S, F1, E1, ?_⟩)
    have hF1 : ∀ a, a ∈ F1 → a ∈ F := fun a h => (hF a).mpr (.inr h)
    have f1 : ∀ a, a ∈ G1 → ¬ S a := fun a h => E.apart a ((hF a).mpr (.inl h))
    unfold EndI
    split
    · rename_i hq; rw [hq] at z; exact z.elim
    · rename_i y ρ2 hq
      rw [hq] at z
      intro vs H2 S2 F2 G2 A2 E2 r2 n2 f2 mv
      have n1' := List.nodup_append.mp n1
      have G1F1 : ∀ a, a ∈ G1 → a ∉ F1 := fun a h1 h2 => n1'.2.2 a h1 a h2 rfl
      have q1' := q1.wait A2 E1.mo E1.apart G1F1
      have dis : ∀ a, a ∈ G1 → a ∉ G2 ++ F2 := fun a h1 h2 => by
        rcases A2.sub a h2 with q | q
        · exact G1F1 a h1 q
        · exact q1.own a h1 q
      refine z (v :: vs) H2 S2 F2 (G1 ++ G2) ?_ E2 ?_ ?_ (fun a h => ?_) ⟨ev, mv⟩
      · refine A2.frame hF1 (fun a h => ?_) E.own
        simp only [List.mem_append] at h ⊢
        rcases h with (h | h) | h
        · exact .inr ((hF a).mpr (.inl h))
        · exact .inl (.inl h)
        · exact .inl (.inr h)
      · simp only [Args]
        exact ⟨v, vs, G1, G2, rfl, rfl, q1', r2⟩
      · rw [List.append_assoc]
        exact List.nodup_append.mpr ⟨n1'.1, n2, fun a ha b hb e => dis a ha (e ▸ hb)⟩
      · rcases List.mem_append.mp h with h | h
        · exact A2.outs (q1.own a h) (f1 a h) (G1F1 a h)
        · exact f2 a h
    · rename_i y ρ2 hq
      rw [hq] at z
      exact EndX.later2 (G1 := []) z (A := Aft.of_grow E.rf (fun a h => .inl (hF1 a (by simpa using h))) fun a h => E1.own a (by simpa using h)) (fun a h => E1.own a (by simpa using h))
theorem mi_mv (i k : Nat) {x : Str} {p : Pos} (hr : MI X T W es ks is ml) (hN : X.N[i]? = some x := by rfl) (hk : T.ks[i]? = some k := by rfl) (hv : Vis X.env.scope x := by first | exact Or.inl rfl | exact Or.inr (Or.inl rfl) | exact Or.inr (Or.inr rfl)) (hd : (x == ("__debug__" : Str)) = false := by decide)
    (hcd : (x == ("__classdict__" : Str)) = false := by decide) (hs : starEach (.Name x p :: es) X.env = (false, eval (.Name x p) X.env) :: starEach es X.env := by rfl) : MI X T W (.Name x p :: es) (k :: ks) (some i :: is) (lCons (mMv i) ml) := 
  PA.imp (pa_cons (pe_var hN hv hd hcd) hr hs) (mv_rd i k hk (fun σ H Q v hv q => ⟨v, hv, q⟩) fun _ _ _ h => h)
/-- behind a call: the answer; slots given back -/
def mCall (den : Den) (is : List (Option Nat)) (ml : M (List D)) : M D := ml.bind fun ds ρ => match den ds with
  | some (.rt d outs) => (gb is outs ρ).map (.ok d)
  | some (.ex x outs) => (gb is outs ρ).map (.ex x)
  | none => none
theorem call_rd {den : Den} {σ : St} {H : Hp} {S : Addr → Prop} {F : List Addr} {Q : VK} {ρ : Rho} {ds : List D} {vs : List V} {G : List Addr} {H0 : Hp} {S0 : Addr → Prop} {F0 : List Addr} (ok : isOk T is ks = true) (E : EnvOk X.mg T ρ σ H S F) (A : Aft H0 S0 F0 H S (G ++ F)) (ra : Args X.mg H S ks ds vs G) (nd : (G ++ F).Nodup) (ap : ∀ a, a ∈ G → ¬ S a) (mv : Moved σ is vs)
    (z : EndM X.mg T W (.ow kr) σ H0 S0 F0 (match den ds with
      | some (.rt d outs) => (gb is outs ρ).map (.ok d)
      | some (.ex x outs) => (gb is outs ρ).map (.ex x)
      | none => none) Q) : spF X.mg ks kr den vs H Q (WE W σ) := by
  have nd' := List.nodup_append.mp nd
  have FG : ∀ a, a ∈ F → a ∉ G := fun a h1 h2 => nd'.2.2 a h2 a h1 rfl
  have hGF : ∀ a, a ∈ G ++ F → H a ≠ none := fun a h => by
    rcases List.mem_append.mp h with h | h
    · exact ra.own a h
    · exact E.own a h
  refine ⟨S, ds, G, ra, nd'.1, ap, E.dom, ?_⟩
  unfold EndF
  cases hden : den ds with
  | none => rw [hden] at z; exact z.elim
  | some r =>
    rw [hden] at z
    cases r with
    | rt d outs =>
      simp only at z ⊢
      intro v H' S' Gr G' A' ra' rr n' f'
      have E' := E.wait A' ra.mo ap FG (A'.dom' ra.own)
      have n2 := List.nodup_append.mp n'
      have dis : ∀ a, a ∈ Gr ++ G' → a ∉ F := fun a h1 h2 => by
        rcases A'.sub a h1 with q | q
        · exact FG a h2 q
        · exact E.own a h2 q
      cases hg : gb is outs ρ with
      | none => rw [hg] at z; exact z.elim
      | some ρ' =>
        rw [hg] at z
        obtain ⟨F', E2, hF'⟩ := gb_env E' ra' mv ok hg (List.nodup_append.mpr ⟨n2.2.1, E'.nodup, fun a ha b hb e => dis a (by simp [ha]) (e ▸ hb)⟩) fun a h => f' a (by simp [h])
        refine z v H' S' F' Gr (A.trans (A'.frame (fun a h => by simp [h]) (fun a h => ?_) hGF)) E2 ⟨rr, List.nodup_append.mpr ⟨n2.1, E2.nodup, fun a ha b hb e => ?_⟩, fun a h => f' a (by simp [h])⟩
        · rcases List.mem_append.mp h with h | h
          · exact .inl (by simp [h])
          · rcases hF' a h with q | q
            · exact .inl (by simp [q])
            · exact .inr (by simp [q])
        · subst e
          rcases hF' a hb with q | q
          · exact n2.2.2 a ha a q rfl
          · exact dis a (by simp [ha]) q
    | ex x outs =>
      simp only at z ⊢
      intro cls dd H' S' G' A' ra' n' f' xo
      have E' := E.wait A' ra.mo ap FG (A'.dom' ra.own)
      have dis : ∀ a, a ∈ G' → a ∉ F := fun a h1 h2 => by
        rcases A'.sub a h1 with q | q
        · exact FG a h2 q
        · exact E.own a h2 q
      cases hg : gb is outs ρ with
      | none => rw [hg] at z; exact z.elim
      | some ρ' =>
        rw [hg] at z
        obtain ⟨F', E2, hF'⟩ := gb_env E' ra' mv ok hg (List.nodup_append.mpr ⟨n', E'.nodup, fun a ha b hb e => dis a ha (e ▸ hb)⟩) f'
        refine z cls dd H' S' F' (A.trans (A'.frame (fun a h => by simp [h]) (fun a h => ?_) hGF)) E2 xo
        rcases hF' a h with q | q
        · exact .inl q
        · exact .inr (by simp [q])
theorem run_I {den : Den} {σ : St} {H : Hp} {S : Addr → Prop} {F : List Addr} {Q : VK} {ρ : Rho} (ok : isOk T is ks = true) (z : EndM X.mg T W (.ow kr) σ H S F (mCall den is ml ρ) Q) : EndI X.mg T W ks is σ H S F (ml ρ) fun vs H1 => spF X.mg ks kr den vs H1 Q (WE W σ) := by
  unfold mCall M.bind at z
  unfold EndI
  split
  · rename_i hp; rw [hp] at z; exact z.elim
  · rename_i ds ρ' hp
    rw [hp] at z
    exact fun vs H' S' F' G A E r n f mv => call_rd ok E A r n f mv z
  · rename_i x ρ' hp; rw [hp] at z; exact z
variable {f C : Addr} {fd : FuncData} {ps : List Str} {den : Den} {x : Str} {kl : Nat}
theorem m_call (Fk : FnOk X.prog X.w X.K X.mg X.base (L2.CX X.prog X.w) n f fd ps (spF X.mg ks kr den)) (hr : Room n X.A) (tk : Takes X W) (hm : X.mg x = some (.ref f)) (hk : PySem.W.keepIn X.K (.ref f) = true) (hb : Binds X.K fd ps []) (ha : MI X T W (e :: es) ks is ml)
    (hg : Gl X x := by rfl) (ok : isOk T is ks = true := by rfl) (hdb : (x == ("__debug__" : Str)) = false := by decide) (he : starEach (e :: es) X.env = (false, eval e X.env) :: starEach es X.env := by rfl) (hpl : (backTo pos (starEach es X.env)).any (·.1) = false := by rfl) {p : Pos} :
    MD X T W (.Call (.Name x p) (e :: es) [] pos) (.ow kr) (mCall den is ml) :=
  PE.imp (pe_callS Fk hr hg hm hk hb (fun σ => passAt tk σ) ha hdb he hpl) fun σ H Q ⟨ρ, S, F, E, z⟩ => ⟨ρ, S, F, E, run_I ok z⟩
/-- a function of what is shared -/
def eCall (den : Den) (psm : Rho → Option (List D)) : Rho → Option D := fun ρ => (psm ρ).bind fun ds => match den ds with
  | some (.rt d _) => some d
  | _ => none
theorem d_call (Fk : FnOk X.prog X.w X.K X.mg X.base (L2.CX X.prog X.w) n f fd ps (spF X.mg ks kr den)) (hr : Room n X.A) (hm : X.mg x = some (.ref f)) (hk : PySem.W.keepIn X.K (.ref f) = true) (hb : Binds X.K fd ps []) (ha : PAs X T (e :: es) ks psm)
    (hg : Gl X x := by rfl) (h0 : ks.all (· == 0) = true := by rfl) (hdb : (x == ("__debug__" : Str)) = false := by decide) (he : starEach (e :: es) X.env = (false, eval e X.env) :: starEach es X.env := by rfl) (hpl : (backTo pos (starEach es X.env)).any (·.1) = false := by rfl) {p : Pos} :
    PD X T (.Call (.Name x p) (e :: es) [] pos) (.ow kr) (eCall den psm) := by
  refine PE.imp (pe_call Fk hr hg hm hk hb .nil passL ha hdb he hpl) fun σ H Q ⟨ρ, S, F, E, d, hp, z⟩ => ?_
  simp only [eCall, Option.bind_eq_some_iff] at hp
  obtain ⟨ds, hds, hden⟩ := hp
  refine ⟨ρ, S, F, E, ds, hds, fun vs H1 S1 G g ra nd ap => ?_⟩
  have e := ra.zero h0
  subst e
  show spF X.mg ks kr den (vs ++ []) H1 Q E0
  rw [List.append_nil]
  refine ⟨S1, ds, [], ra, by simp, by simp, g.dom', ?_⟩
  unfold EndF
  split at hden
  · rename_i d' outs hd
    cases hden
    rw [hd]
    simp only
    intro v H' S' Gr G' A ra' r n f
    have e := ra'.zero h0
    subst e
    refine z v H' S' Gr (g.trans A.grow) ⟨r, by simpa using n, fun a h => ⟨?_, f a (by simp [h])⟩⟩
    rcases A.sub a (by simp [h]) with q | q
    · simp at q
    · exact g.same.free q
  · cases hden
end
end DL
end

section
set_option Elab.async false
set_option linter.all false
set_option maxRecDepth 100000
set_option maxHeartbeats 4000000
/-! DL18: chains of comparisons, `is` of bools, list.count, slots handed on, comprehensions that change slots. -/
namespace DL
open PySem PySem.Spec PyProof.Rows L2

section
variable {X : Cx} {T : Ty} {W : WX} {a b c e o tg iter elt : Expr} {es : List Expr} {pos apos cpos : Pos} {m m1 m2 m3 md : Md} {p q r' : Rho → Option D} {ma mb : M D} {mt : M Bool} {k : Nat}
/-! a op b op' c -/
def eChain (f g : D → D → Option D) (p q r : Rho → Option D) : Rho → Option D := fun ρ => (p ρ).bind fun x => (q ρ).bind fun y => ((f x y).bind D.toB).bind fun b => if b = true then (r ρ).bind fun z => g y z else some (.bl false)
theorem cmpD_some {f : Int → Int → Bool} {x y d : D} (h : cmpD f x y = some d) : ∃ i j, x = .int i ∧ y = .int j ∧ d = .bl (f i j) := by
  unfold cmpD at h
  split at h
  · cases h; exact ⟨_, _, rfl, rfl, rfl⟩
  · cases h
theorem chain_rd {f g : Int → Int → Bool} : ∀ σ H Q, tP X.mg T .fl (eChain (cmpD f) (cmpD g) p q r') σ H Q → tChain (rI0 fun i j => .bl (f i j)) (rI0 fun i j => .bl (g i j)) (tP X.mg T m1 p) (tP X.mg T m2 q) (tP X.mg T m3 r') σ H Q := fun σ H Q ⟨ρ, S, F, E, d, hp, z⟩ => by
  simp only [eChain, Option.bind_eq_some_iff] at hp
  obtain ⟨x, hx, y, hy, b, ⟨u, hu, hb⟩, hf⟩ := hp
  obtain ⟨i, j, rfl, rfl, rfl⟩ := cmpD_some hu
  have hb : f i j = b := by simpa [D.toB] using hb
  refine ⟨ρ, S, F, E, _, hx, fun v1 H1 S1 G1 g1 w1 => ⟨ρ, S1, F, E.grow g1, _, hy, fun v2 H2 S2 G2 g2 w2 => ⟨i, j, w1.int, w2.int, b, by show V.bl (f i j) = _; rw [hb], ?_⟩⟩⟩
  have g12 := g1.trans g2
  cases b with
  | false =>
    simp only [Bool.false_eq_true, if_false, Option.some.injEq] at hf ⊢
    subst hf
    exact z.bl g12
  | true =>
    simp only [if_true, Option.bind_eq_some_iff] at hf ⊢
    obtain ⟨w, hw, hg⟩ := hf
    obtain ⟨j', l, e, rfl, rfl⟩ := cmpD_some hg
    cases e
    exact ⟨ρ, S2, F, E.grow g12, _, hw, fun v4 H4 S4 G4 g4 w4 => ⟨j, l, w2.int, w4.int, z.bl (g12.trans g4)⟩⟩
theorem d_chain {op op' : CmpOp} {f g : Int → Int → Bool} (hr : OpR X (compareOp op) (rI0 fun i j => .bl (f i j))) (hr' : OpR X (compareOp op') (rI0 fun i j => .bl (g i j))) (ha : PD X T a m1 p) (hb : PD X T b m2 q) (hc : PD X T c m3 r')
    (hm : lastMarks [op, op'] [b, c] = false := by with_unfolding_all rfl) : PD X T (.Compare a [op, op'] [b, c] pos) .fl (eChain (cmpD f) (cmpD g) p q r') := PE.imp (pe_chain hr hr' ha hb hc hm) chain_rd
theorem td_chain {op op' : CmpOp} {f g : Int → Int → Bool} (hr : OpR X (compareOp op) (rI0 fun i j => .bl (f i j))) (hr' : OpR X (compareOp op') (rI0 fun i j => .bl (g i j))) (ha : PD X T a m1 p) (hb : PD X T b m2 q) (hc : PD X T c m3 r')
    (hm : lastMarks [op, op'] [b, c] = false := by with_unfolding_all rfl) : TD X T (.Compare a [op, op'] [b, c] pos) (eB (eChain (cmpD f) (cmpD g) p q r')) := by
  refine PT.imp (pt_chain hr hr' ha hb hc hm) fun σ H Q ⟨ρ, S, F, E, b, hb, z⟩ => ?_
  simp only [eB, Option.bind_eq_some_iff] at hb
  obtain ⟨d, hd, hb⟩ := hb
  have := toB_some hb
  subst this
  exact chain_rd σ H _ ⟨ρ, S, F, E, _, hd, fun v H' S' G g r => ⟨b, r.bl, z H' S' g⟩⟩
/-! is, is not, of a bool -/
def notBlD (x y : D) : Option D := match x, y with
  | .bl i, .bl j => some (.bl (!(i == j)))
  | _, _ => none
theorem o_isB : Op2 X (fun x y H Q => ∃ a b, x = .bl a ∧ y = .bl b ∧ Q (.bl (decide (a = b))) H) m1 m2 .fl isBlD := by
  intro x y d v1 v2 H0 H S0 S F G1 G2 Q hf g r1 r2 z
  unfold isBlD at hf
  split at hf
  · rename_i i j
    cases hf
    refine ⟨i, j, r1.bl, r2.bl, ?_⟩
    have e : decide (i = j) = (i == j) := by cases i <;> cases j <;> rfl
    rw [e]; exact z.bl g
  · cases hf
theorem o_notB : Op2 X (fun x y H Q => ∃ a b, x = .bl a ∧ y = .bl b ∧ Q (.bl (!decide (a = b))) H) m1 m2 .fl notBlD := by
  intro x y d v1 v2 H0 H S0 S F G1 G2 Q hf g r1 r2 z
  unfold notBlD at hf
  split at hf
  · rename_i i j
    cases hf
    refine ⟨i, j, r1.bl, r2.bl, ?_⟩
    have e : decide (i = j) = (i == j) := by cases i <;> cases j <;> rfl
    rw [e]; exact z.bl g
  · cases hf
/-! xs.count(n), of whole numbers -/
def cntD (x y : D) : Option D := match x, y with
  | .lst ds, .int n => (intsOf ds).map fun ns => .int (ns.count n : Nat)
  | _, _ => none
theorem d_count (ho : PD X T o (.ow 0) p) (ha : PD X T e m2 q) (hbase : attributeBase o "count" X.env (eval o X.env) = eval o X.env := by rfl)
    (hfew : ((backTo cpos (starEach [e] X.env)).all (fun x => !x.1) && (backToKw cpos (keywordEach [] X.env)).all (fun x => x.1.isSome)
      && decide (([e]).length + ([] : List Keyword).length + (if ([] : List Keyword).isEmpty then 0 else 1) < 30)) = true := by rfl)
    (hline : (apos.endLine == cpos.line) = true := by rfl) (hs : starEach [e] X.env = (false, eval e X.env) :: starEach [] X.env := by rfl) (hplain : (backTo cpos (starEach [] X.env)).any (·.1) = false := by rfl) :
    PD X T (.Call (.Attribute o "count" apos) [e] [] cpos) .fl (e2 cntD p q) := by
  refine PE.imp (pe_bm F.plainAttrs_list F.slot_list_count F.type_list_count mt_lcount ho (pa_cons ha pa_nil hs) hbase hfew hline hs hplain) fun σ H Q ⟨ρ, S, F, E, d, hp, z⟩ => ?_
  simp only [e2, Option.bind_eq_some_iff] at hp
  obtain ⟨x, hx, y, hy, hf⟩ := hp
  unfold cntD at hf
  split at hf
  · rename_i ds n
    simp only [Option.map_eq_some_iff] at hf
    obtain ⟨ns, hns, rfl⟩ := hf
    refine ⟨ρ, S, F, E, _, hx, fun v1 H1 S1 G1 g1 r1 => ?_⟩
    have w1 := ow0_view r1
    simp only [View] at w1
    obtain ⟨a, xs, rfl, s1, e1, q1⟩ := w1
    have ex := intsOf_views hns q1
    refine ⟨.inl ⟨rfl, xs, SqL.of e1⟩, ρ, S1, F, E.grow g1, _, hy, fun v2 H2 S2 G2 g2 r2 => ?_⟩
    exact ⟨a, ns, n, rfl, by rw [r2.int], by rw [← ex]; exact SqL.of (g2.same _ _ e1), z.int (g1.trans g2)⟩
  · cases hf
/-! a slot's value handed on -/
theorem m_mv (i k : Nat) {x : Str} (hk : T.ks[i]? = some k := by rfl) (hN : X.N[i]? = some x := by rfl) (hv : Vis X.env.scope x := by first | exact Or.inl rfl | exact Or.inr (Or.inl rfl) | exact Or.inr (Or.inr rfl)) (hd : (x == ("__debug__" : Str)) = false := by decide)
    (hcd : (x == ("__classdict__" : Str)) = false := by decide) : MD X T W (.Name x pos) (.ow k) (mMv i) := by
  refine PE.imp (pe_var hN hv hd hcd) fun σ H Q ⟨ρ, S, F, E, z⟩ => ?_
  unfold mMv at z
  cases hs : slotD ρ i with
  | none => rw [hs] at z; exact z.elim
  | some d =>
    rw [hs] at z
    obtain ⟨k', v, G1, F1, ek, ev, q1, E1, n1, hF⟩ := E.take (slotD_some hs)
    rw [hk] at ek; cases ek
    refine ⟨v, ev, z v H S F1 G1 (Aft.of_grow E.rf (fun a h => .inl ((hF a).mpr (by simpa using h))) fun a h => E.own a ((hF a).mpr (by simpa using h))) E1 ⟨q1, n1, fun a h => E.apart a ((hF a).mpr (.inl h))⟩⟩

/-! ### comprehensions that change slots -/
def W0 : WX := fun _ _ _ _ => False
def compMl (ws : List Nat) (bind : D → Rho → Option Rho) (mt : M Bool) (ma : M D) : List D → List D → Rho → Option (List D × Rho)
  | [], acc => fun ρ => some (acc, ρ)
  | d :: ds, acc => fun ρ => (bind d ρ).bind fun ρ1 => match mt ρ1 with
    | some (.ok true ρ2) => (match ma ρ2 with
      | some (.ok x ρ3) => compMl ws bind mt ma ds (acc ++ [x]) (wipeR ρ3 ws)
      | _ => none)
    | some (.ok false ρ2) => compMl ws bind mt ma ds acc (wipeR ρ2 ws)
    | _ => none
def mComp (ws : List Nat) (items : Rho → Option (List D)) (bind : D → Rho → Option Rho) (mt : M Bool) (ma : M D) : M D := fun ρ => (items ρ).bind fun ds => (compMl ws bind mt ma ds [] (wipeR ρ ws)).map fun r => .ok (.lst r.1) r.2
def mbY : M Bool := M.of (some true)
abbrev MTs (X : Cx) (T : Ty) (W : WX) (ifs : List Expr) (tb : M Bool) : Prop := PTs X ifs (tMB X.mg T W tb)
theorem mt_none : MTs X T W [] mbY := PTs.imp pts_nil fun σ H Q ⟨ρ, S, F, E, z⟩ => z H S F E.aft E
theorem mt_one (h : MB X T W c mt) : MTs X T W [c] mt := pts_one h
section
variable {mg : Mg} {H H' H1 H2 : Hp} {S S' S1 S2 : Addr → Prop} {ρ ρ' : Rho} {σ σ' : St} {F F1 F2 F3 G : List Addr}
theorem Aft.put {Dl : Addr} {o : HO} (A : Aft H S F H1 S1 F2) (hn : H Dl = none) : Aft H S F (upd H1 Dl o) S1 F2 := by
  have nn : ∀ a, H1 a ≠ none → upd H1 Dl o a ≠ none := fun a h => by
    by_cases e : a = Dl
    · subst e; rw [upd_same]; exact fun z => nomatch z
    · rw [upd_ne e]; exact h
  exact ⟨fun a x e n => by rw [upd_ne (ne_of_none e hn)]; exact A.kp a x e n, fun a h => nn a (A.there a h), A.up, fun a h => (A.new a h).imp id (Or.imp id fun z => ⟨z.1, nn a z.2⟩), A.dom, A.sub, fun a h => nn a (A.own a h)⟩
theorem Slots.unset : ∀ {ρ : Rho} {ks : List Nat} {σ : St} {F : List Addr} {i : Nat} {o : Option V}, Slots mg H S ρ ks σ F → (∀ d, ρ[i]? ≠ some (some d)) → Slots mg H S ρ ks (σ.set i o) F
  | [], _, _, _, _, _, h, _ => by
    simp only [Slots] at h ⊢
    obtain ⟨rfl, rfl⟩ := h
    simp
  | _ :: _, [], _, _, _, _, h, _ => by simp only [Slots] at h
  | y :: r, k :: ks, σ, F, 0, o, h, hn => by
    simp only [Slots] at h ⊢
    obtain ⟨o', q, G1, G2, rfl, rfl, h1, h2⟩ := h
    cases y with
    | some d => exact absurd rfl (hn d)
    | none => exact ⟨o, q, G1, G2, rfl, rfl, h1, h2⟩
  | y :: r, k :: ks, σ, F, i + 1, o, h, hn => by
    simp only [Slots] at h ⊢
    obtain ⟨o', q, G1, G2, rfl, rfl, h1, h2⟩ := h
    exact ⟨o', q.set i o, G1, G2, rfl, rfl, h1, h2.unset (by simpa using hn)⟩
theorem EnvOk.unset {i : Nat} {o : Option V} (E : EnvOk mg T ρ σ H S F) (hf : T.free i = true) (hn : ∀ d, ρ[i]? ≠ some (some d)) : EnvOk mg T ρ (σ.set i o) H S F :=
  ⟨E.slots.unset hn, E.nodup, E.apart, E.dom, fun p hp => by rw [List.getElem?_set_ne (Ne.symm (Ty.free_ne hf p hp))]; exact E.io p hp⟩
/-- back from the wiped slots -/
theorem EnvOk.unwipe : ∀ {ws : List Nat}, EnvOk mg T ρ (L2.wipe σ ws) H S F → (∀ i, i ∈ ws → ∀ d, ρ[i]? ≠ some (some d)) → T.own0 ws = true → EnvOk mg T ρ σ H S F := by
  intro ws
  induction ws generalizing σ with
  | nil => intro E _ _; exact E
  | cons v vs ih =>
    intro E hn hw
    simp only [Ty.own0, List.all_cons, Bool.and_eq_true] at hw
    have e : L2.wipe σ (v :: vs) = (L2.wipe σ vs).set v none := rfl
    rw [e] at E
    have E2 := E.unset (i := v) (o := ((L2.wipe σ vs)[v]?).getD none) hw.1.2 (hn v (by simp))
    rw [List.set_set] at E2
    have e2 : (L2.wipe σ vs).set v (((L2.wipe σ vs)[v]?).getD none) = L2.wipe σ vs := by
      by_cases hl : v < (L2.wipe σ vs).length
      · rw [List.getElem?_eq_getElem hl]
        simp
      · exact List.set_eq_of_length_le (by omega)
    rw [e2] at E2
    exact ih E2 (fun i hi => hn i (by simp [hi])) (by simpa [Ty.own0] using hw.2)
theorem wipeR_none : ∀ {ws : List Nat} {i : Nat}, i ∈ ws → ∀ d, (wipeR ρ ws)[i]? ≠ some (some d)
  | v :: vs, i, h, d => by
    unfold wipeR
    by_cases e : v = i
    · subst e
      by_cases hl : v < (wipeR ρ vs).length
      · rw [List.getElem?_set_self hl]; simp
      · rw [List.getElem?_eq_none (by simp; omega)]; simp
    · rw [List.getElem?_set_ne e]
      exact wipeR_none (by rcases List.mem_cons.mp h with q | q; exact absurd q.symm e; exact q) d
theorem compMl_none {ws : List Nat} {bind : D → Rho → Option Rho} {mt : M Bool} {ma : M D} : ∀ {ds acc : List D} {ρ : Rho} {r : List D × Rho}, compMl ws bind mt ma ds acc ρ = some r → (∀ i, i ∈ ws → ∀ d, ρ[i]? ≠ some (some d)) → ∀ i, i ∈ ws → ∀ d, r.2[i]? ≠ some (some d)
  | [], acc, ρ, r, h, hn => by
    simp only [compMl, Option.some.injEq] at h
    subst h
    exact hn
  | d :: ds, acc, ρ, r, h, hn => by
    simp only [compMl, Option.bind_eq_some_iff] at h
    obtain ⟨ρ1, _, h⟩ := h
    split at h
    · split at h
      · exact compMl_none h fun i hi => wipeR_none hi
      · cases h
    · exact compMl_none h fun i hi => wipeR_none hi
    · cases h
end
theorem mcomp_rd {items : Rho → Option (List D)} {bind : D → Rho → Option Rho} {l ws : List Nat} (mg : Mg) (k : Nat) (hw : T.own0 ws = true) (hls : ∀ j ∈ l, j ∈ ws) : ∀ σ H Q, tM mg T W (.ow (k + 1)) (mComp ws items bind mt ma) σ H Q → tLc (tI mg T items) (tG mg T l bind) (tMB mg T W0 mt) (tM mg T W0 (.ow k) ma) ws σ H Q := by
  intro σ H Q ⟨ρ, S, F, E, z⟩
  unfold mComp at z
  cases hds : items ρ with
  | none => rw [hds] at z; exact z.elim
  | some ds =>
    rw [hds] at z
    simp only [Option.bind_some] at z
    cases hc : compMl ws bind mt ma ds [] (wipeR ρ ws) with
    | none => rw [hc] at z; exact z.elim
    | some rr =>
      rw [hc] at z
      simp only [Option.map_some] at z
      have hend := compMl_none hc fun i hi => wipeR_none hi
      refine ⟨ρ, S, F, E, ds, hds, fun J H1 S1 g1 it Dl hD => ?_⟩
      have E1 := E.grow g1
      have A1 : Aft H S F H1 S1 F := Aft.of_grow g1 (fun a h => .inl h) E1.own
      have E1' := (E1.wipe hw).grow ((Grow.refl g1.dom').laid (o := .lst []) hD)
      have nDF : Dl ∉ F := fun q => E1.own _ q hD
      refine ⟨fun i mm H2 => mm = ds.length - i ∧ i ≤ ds.length ∧ ∃ ρ2 S2 F2 G accD accV, EnvOk mg T ρ2 (L2.wipe σ ws) H2 S2 F2 ∧ Reps mg H2 S2 accD k accV G ∧ ((Dl :: G) ++ F2).Nodup ∧ (∀ a, a ∈ Dl :: G → ¬ S2 a) ∧ H2 Dl = some (.lst accV) ∧ Aft H1 S1 F H2 S2 ((Dl :: G) ++ F2) ∧ accD.length ≤ i ∧
        compMl ws bind mt ma (ds.drop i) accD ρ2 = some rr, ⟨ds.length, by simp, Nat.zero_le _, _, S1, F, [], [], [], E1', by simp only [Reps]; exact ⟨trivial, trivial⟩, List.nodup_cons.mpr ⟨by simpa using nDF, by simpa using E1.nodup⟩, fun a h => ?_, upd_same, aft_laid (G := []) E1.aft hD, Nat.le_refl _, by simpa using hc⟩, ?_⟩
      · have : a = Dl := by simpa using h
        subst this
        exact fun q => g1.dom' _ q hD
      rintro i mm H2 ⟨rfl, hi, ρ2, S2, F2, G, accD, accV, E2, r2, n2, f2, eD, A2, hal, hz⟩
      have ex : Ext S1 H1 H2 := A2.ext E1.mo fun a h q => E1.apart a q h
      by_cases hlt : i < ds.length
      · have hd : ds[i]? = some ds[i] := List.getElem?_eq_getElem hlt
        rw [List.drop_eq_getElem_cons hlt] at hz
        simp only [compMl, Option.bind_eq_some_iff] at hz
        obtain ⟨ρ3, hb, hz⟩ := hz
        refine .inr ⟨it.go i _ H2 S2 hd ex A2.up, fun H' => ∃ ρ2 S2 F2 G accD accV, EnvOk mg T ρ2 (L2.wipe σ ws) H' S2 F2 ∧ Reps mg H' S2 accD k accV G ∧ ((Dl :: G) ++ F2).Nodup ∧ (∀ a, a ∈ Dl :: G → ¬ S2 a) ∧ H' Dl = some (.lst accV) ∧ Aft H1 S1 F H' S2 ((Dl :: G) ++ F2) ∧ accD.length ≤ i + 1 ∧
          compMl ws bind mt ma (ds.drop (i + 1)) accD ρ2 = some rr, fun H' h => ⟨ds.length - (i + 1), by omega, rfl, hlt, h⟩, fun x H3 y => ?_⟩
        obtain ⟨s23, wx⟩ := it.yld i _ H2 S2 x H3 hd ex A2.up y
        have g23 : Grow H2 S2 H3 S2 := ⟨s23, fun _ h => h, fun _ h => .inl h, E2.dom⟩
        have E3 := E2.grow g23
        have A23 : Aft H2 S2 F2 H3 S2 F2 := Aft.of_grow g23 (fun a h => .inl h) E3.own
        refine ⟨ρ2, S2, F2, ds[i], ρ3, E3, wx, hb, fun σ3 E3' ag => ⟨?_, ?_⟩⟩
        · rw [agree_wipe ag hls, wipe_idem]
        have ewp : L2.wipe σ3 ws = L2.wipe σ ws := by rw [agree_wipe ag hls, wipe_idem]
        have n2' := List.nodup_append.mp n2
        have outF : ∀ a, a ∈ Dl :: G → a ∉ F2 := fun a h1 h2 => n2'.2.2 a h1 a h2 rfl
        have ownA : ∀ a, a ∈ Dl :: G → H2 a ≠ none := fun a h => A2.own a (by simp only [List.mem_append]; exact .inl h)
        -- what waits, behind steps from H2 on
        have later : ∀ {H4 : Hp} {S4 : Addr → Prop} {F4 : List Addr}, Aft H2 S2 F2 H4 S4 F4 → EnvOk mg T ρ2 σ3 H2 S2 F2 ∨ True → Reps mg H4 S4 accD k accV G ∧ H4 Dl = some (.lst accV) ∧ (∀ a, a ∈ Dl :: G → ¬ S4 a) ∧ (∀ a, a ∈ Dl :: G → a ∉ F4) ∧ Aft H1 S1 F H4 S4 ((Dl :: G) ++ F4) := by
          intro H4 S4 F4 A4 _
          refine ⟨r2.wait A4 E2.mo E2.apart fun a h => outF a (by simp [h]), A4.kp _ _ eD (outF _ (by simp)), fun a h => A4.outs (ownA a h) (f2 a h) (outF a h), fun a h q => ?_, A2.trans (A4.frame (fun a h => by simp [h]) (fun a h => ?_) A2.own)⟩
          · rcases A4.sub a q with z | z
            · exact outF a h z
            · exact ownA a h z
          · simp only [List.mem_append] at h ⊢
            rcases h with h | h
            · exact .inr (.inl h)
            · exact .inl h
        refine ⟨ρ3, S2, F2, E3', ?_⟩
        unfold EndB
        cases hmt : mt ρ3 with
        | none => rw [hmt] at hz; cases hz
        | some o =>
          rw [hmt] at hz
          cases o with
          | ex _ _ => cases hz
          | ok b ρ4 =>
            simp only at hz ⊢
            intro H4 S4 F4 A34 E4
            have A4 := A23.trans A34
            obtain ⟨r4, eD4, f4, o4, A14⟩ := later A4 (.inr trivial)
            cases b with
            | false =>
              simp only [Bool.false_eq_true, if_false] at hz ⊢
              have E5 := E4.wipe hw
              rw [ewp] at E5
              exact ⟨_, S4, F4, G, accD, accV, E5, r4, List.nodup_append.mpr ⟨n2'.1, E4.nodup, fun a ha b hb e => o4 a ha (e ▸ hb)⟩, f4, eD4, A14, by omega, hz⟩
            | true =>
              simp only [if_true] at hz ⊢
              refine ⟨ρ4, S4, F4, E4, ?_⟩
              unfold EndM
              cases hma : ma ρ4 with
              | none => rw [hma] at hz; cases hz
              | some o =>
                rw [hma] at hz
                cases o with
                | ex _ _ => cases hz
                | ok x ρ5 =>
                  simp only at hz ⊢
                  intro v H5 S5 F5 G5 A45 E5 r5
                  obtain ⟨q5, n5, f5⟩ := r5
                  obtain ⟨r5, eD5, f5', o5, A15⟩ := later (A4.trans A45) (.inr trivial)
                  have n5' := List.nodup_append.mp n5
                  have hDl5 : Dl ∉ G5 ++ F5 := o5 Dl (by simp)
                  refine ⟨accV, eD5, by rw [r5.length]; exact Nat.lt_of_le_of_lt hal (Nat.lt_of_lt_of_le hlt it.len), ?_⟩
                  have E6 := (E5.wipe hw).put (o := .lst (accV ++ [v])) eD5 (f5' Dl (by simp)) fun h => hDl5 (by simp [h])
                  rw [ewp] at E6
                  have rr6 : Reps mg H5 S5 (accD ++ [x]) k (accV ++ [v]) (G ++ G5) := r5.append (by
                    simp only [Reps]
                    exact ⟨v, [], G5, [], rfl, by simp, q5, rfl, rfl⟩)
                  have nD2 := List.nodup_cons.mp n2'.1
                  refine ⟨_, S5, F5, G ++ G5, accD ++ [x], accV ++ [v], E6, rr6.mono (fun _ h => h) (ext_put (fun q => ?_) fun o' e => by rw [eD5] at e; cases e; rfl), ?_, fun a h => ?_, upd_same, ?_, ?_, hz⟩
                  · rcases q with q | q
                    · exact f5' Dl (by simp) q
                    · rcases List.mem_append.mp q with q | q
                      · exact nD2.1 q
                      · exact hDl5 (by simp [q])
                  · rw [List.cons_append, List.append_assoc]
                    refine List.nodup_cons.mpr ⟨fun q => ?_, List.nodup_append.mpr ⟨nD2.2, n5, fun a ha b hb e => o5 a (by simp [ha]) (e ▸ hb)⟩⟩
                    rcases List.mem_append.mp q with q | q
                    · exact nD2.1 q
                    · exact hDl5 q
                  · rcases List.mem_cons.mp h with h | h
                    · exact f5' a (by simp [h])
                    · rcases List.mem_append.mp h with h | h
                      · exact f5' a (by simp [h])
                      · exact f5 a h
                  · refine (A15.keep fun a h => ?_).put hD
                    simp only [List.mem_append, List.mem_cons] at h ⊢
                    rcases h with (h | h | h) | h
                    · exact .inl (.inl h)
                    · exact .inl (.inr h)
                    · exact .inr (.inl h)
                    · exact .inr (.inr h)
                  · rw [List.length_append]; simp; omega
      · have hi' : i = ds.length := by omega
        subst hi'
        simp only [List.drop_length, compMl, Option.some.injEq] at hz
        subst hz
        have n2' := List.nodup_append.mp n2
        refine .inl ⟨it.stop _ H2 S2 (Nat.le_refl _) ex A2.up, z _ H2 S2 F2 (Dl :: G) (A1.trans A2) (E2.unwipe hend hw) ⟨?_, n2, f2⟩⟩
        simp only [Rep]
        exact ⟨Dl, accV, G, rfl, eD, rfl, r2⟩
theorem m_comp {items : Rho → Option (List D)} {ifs : List Expr} {scope : Scope} {own : List (Str × Nat)} {bind : D → Rho → Option Rho} {l : List Nat} (k : Nat) (hc : X.calm = true) (hN : X.N.Nodup) (hi : ID X T tg iter items) (ok : BlkOk X.N X.env.scope scope own)
    (hg : ∀ (s : Shared) (H : Hp) (C : Addr) (cl : List (Str × Addr)) (fp : List Addr), GD (X.blk s H scope (compEnvC scope cl C X.env) fp) T tg l bind)
    (ht : ∀ (s : Shared) (H : Hp) (C : Addr) (cl : List (Str × Addr)) (fp : List Addr), MTs (X.blk s H scope (compEnvC scope cl C X.env) fp) T W0 ifs mt)
    (he : ∀ (s : Shared) (H : Hp) (C : Addr) (cl : List (Str × Addr)) (fp : List Addr), MD (X.blk s H scope (compEnvC scope cl C X.env) fp) T W0 elt m ma)
    (hl : m.le (.ow k) = true := by rfl) (hw : T.own0 (own.map (·.2)) = true := by rfl) (hls : ∀ j ∈ l, j ∈ own.map (·.2) := by decide)
    (hs : ∀ x, foldedSetIterable iter X.env x = pure x := by intro _; rfl) :
    MD X T W (.ListComp elt [⟨tg, iter, ifs, 0⟩] scope pos) (.ow (k + 1)) (mComp (own.map (·.2)) items bind mt ma) :=
  PE.imp (pe_lc (g := tG X.mg T l bind) (tt := tMB X.mg T W0 mt) (te := tM X.mg T W0 (.ow k) ma) hc hN hi ok hg ht (fun s H C cl fp => MD.le (he s H C cl fp) hl) hs) (mcomp_rd X.mg k hw hls)
end
end DL
end

section
set_option Elab.async false
set_option linter.all false
set_option maxRecDepth 100000
set_option maxHeartbeats 4000000
/-! DL19: arithmetic on what changes slots; ranges, tests of such. -/
namespace DL
open PySem PySem.Spec PyProof.Rows L2
section
variable {X : Cx} {T : Ty} {W : WX} {a b c e tg : Expr} {es : List Expr} {pos : Pos} {m m1 m2 m3 md : Md} {p q r' : Rho → Option D} {ma mb : M D} {mt : M Bool} {mg : Mg}
theorem h_add (h1 : m1.sh1 = true := by rfl) (h2 : m2.sh1 = true := by rfl) : ∃ r, OpR X (binaryOp .Add) r ∧ Op2 X r m1 m2 (.ow 1) addD := by
  refine ⟨_, (((op_add.or op_cat).or op_add_str).or op_catT), ?_⟩
  intro x y d v1 v2 H0 H S0 S F G1 G2 Q hf g r1 r2 z
  unfold addD at hf
  split at hf
  · cases hf
    rw [r1.int, r2.int]
    exact .inl (.inl (.inl ⟨_, _, rfl, rfl, z.int g⟩))
  · rename_i xs ys
    split at hf
    · rename_i hl
      cases hf
      obtain ⟨l, us, S1, rfl, e1, g1, up1, w1⟩ := r1.lst h1 g
      obtain ⟨l2, us2, S2, rfl, e2, g2, up2, w2⟩ := r2.lst h2 g
      have g3 : Grow H0 S0 H (fun a => S1 a ∨ S2 a) := ⟨g.same, fun a h => .inl (g1.up a h), fun a h => h.elim (g1.new a) (g2.new a), g.dom⟩
      refine .inl (.inl (.inr ⟨l, l2, us, us2, rfl, rfl, e1, e2, ?_, z.newL1 g3 ?_⟩))
      · rw [w1.length, w2.length]; exact cap_le hl
      · exact (w1.mono (fun _ _ q _ => q) (fun _ h => .inl h)).append (w2.mono (fun _ _ q _ => q) (fun _ h => .inr h))
    · cases hf
  · rename_i xs ys
    split at hf
    · rename_i hl
      cases hf
      rw [r1.str, r2.str]
      exact .inl (.inr ⟨_, _, rfl, rfl, cap_le hl, z.str g⟩)
    · cases hf
  · rename_i xs ys
    split at hf
    · rename_i hl
      cases hf
      obtain ⟨l, us, S1, rfl, e1, g1, up1, w1⟩ := r1.tup h1 g
      obtain ⟨l2, us2, S2, rfl, e2, g2, up2, w2⟩ := r2.tup h2 g
      have g3 : Grow H0 S0 H (fun a => S1 a ∨ S2 a) := ⟨g.same, fun a h => .inl (g1.up a h), fun a h => h.elim (g1.new a) (g2.new a), g.dom⟩
      refine .inr ⟨l, l2, us, us2, rfl, rfl, SqT.of e1, SqT.of e2, ne_nil_len w1.length hl.1, ?_, fun e => absurd e (ne_nil_len w2.length hl.2.1), fun _ => z.newT1 g3 ?_⟩
      · rw [w1.length, w2.length]; exact cap_le hl.2.2
      · exact (w1.mono (fun _ _ q _ => q) (fun _ h => .inl h)).append (w2.mono (fun _ _ q _ => q) (fun _ h => .inr h))
    · cases hf
  · cases hf
theorem h_sub  : ∃ r, OpR X (binaryOp .Sub) r ∧ Op2 X r m1 m2 (.fl) subD := by
  refine ⟨_, op_sub, ?_⟩
  intro x y d v1 v2 H0 H S0 S F G1 G2 Q hf g r1 r2 z
  unfold subD at hf
  split at hf
  · cases hf
    rw [r1.int, r2.int]
    exact ⟨_, _, rfl, rfl, z.int g⟩
  · cases hf
theorem h_mul (h1 : m1.sh1 = true := by rfl) : ∃ r, OpR X (binaryOp .Mult) r ∧ Op2 X r m1 m2 (.ow 1) mulD := by
  refine ⟨_, (op_mul.or op_rep), ?_⟩
  intro x y d v1 v2 H0 H S0 S F G1 G2 Q hf g r1 r2 z
  unfold mulD at hf
  split at hf
  · split at hf
    · rename_i hl
      cases hf
      rw [r1.int, r2.int]
      refine .inl ⟨_, _, rfl, rfl, ?_, z.int g⟩
      simp only [small, Bool.or_eq_true, Bool.and_eq_true, decide_eq_true_eq] at hl
      exact hl
    · cases hf
  · split at hf
    · rename_i hl
      cases hf
      obtain ⟨l, us, S1, rfl, e1, g1, up1, w1⟩ := r1.lst h1 g
      rw [r2.int]
      refine .inr ⟨l, _, us, rfl, rfl, e1, by omega, by omega, ?_, z.newL1 g1 (views_rep w1 _)⟩
      rw [w1.length]; exact cap_le hl.2.2
    · cases hf
  · cases hf
theorem h_div  : ∃ r, OpR X (binaryOp .FloorDiv) r ∧ Op2 X r m1 m2 (.fl) divD := by
  refine ⟨_, op_fdiv, ?_⟩
  intro x y d v1 v2 H0 H S0 S F G1 G2 Q hf g r1 r2 z
  unfold divD at hf
  split at hf
  · split at hf
    · rename_i hl
      cases hf
      rw [r1.int, r2.int]
      exact ⟨_, _, rfl, rfl, hl, z.int g⟩
    · cases hf
  · cases hf
theorem h_mod  : ∃ r, OpR X (binaryOp .Mod) r ∧ Op2 X r m1 m2 (.fl) modD := by
  refine ⟨_, op_mod, ?_⟩
  intro x y d v1 v2 H0 H S0 S F G1 G2 Q hf g r1 r2 z
  unfold modD at hf
  split at hf
  · split at hf
    · rename_i hl
      cases hf
      rw [r1.int, r2.int]
      exact ⟨_, _, rfl, rfl, hl, z.int g⟩
    · cases hf
  · cases hf
theorem h_pow  : ∃ r, OpR X (binaryOp .Pow) r ∧ Op2 X r m1 m2 (.fl) powD := by
  refine ⟨_, op_pow, ?_⟩
  intro x y d v1 v2 H0 H S0 S F G1 G2 Q hf g r1 r2 z
  unfold powD at hf
  split at hf
  · split at hf
    · rename_i hl
      cases hf
      rw [r1.int, r2.int]
      exact ⟨_, _, rfl, rfl, hl, z.int g⟩
    · cases hf
  · cases hf
/-- a op b -/
theorem m_bin {op : Operator} {f : D → D → Option D} (h : ∃ r, OpR X (binaryOp op) r ∧ Op2 X r (.ow 0) (.ow 0) md f) (ha : MD X T W a (.ow 0) ma) (hb : MD X T W b (.ow 0) mb) (hm : md.isE = true := by rfl) : MD X T W (.BinOp a op b pos) md (m2of f ma mb) := by
  obtain ⟨r, h1, h2⟩ := h
  exact m_op2 h2 (pe_op h1 ha hb) hm
/-- a[b] -/
theorem m_ix (hu : X.A.units + 1 < cLine) (ha : MD X T W a (.ow 0) ma) (hb : MD X T W b (.ow 0) mb) (hs : PlainIx b := by intro _ _; rfl) : MD X T W (.Subscript a b pos) (.ow 0) (m2of ixD ma mb) := m_op2 (o_ix0 rfl) (pe_ix (r_ix hu) ha hb hs)
/-- a built-in of one argument -/
theorem m_call1 {r : List V → Hp → VK → Prop} {f : D → Option D} (ho : Op1 X (fun v H Q => r [v] H Q) (.ow 0) md f) (h : PE X e (tCB r (tCons (tM X.mg T W (.ow 0) ma) tNil))) (hm : md.isE = true := by rfl) : MD X T W e md (m1of f ma) := m_op1 ho h hm
/-- a comparison as a value -/
theorem m_cmp {op : CmpOp} {r : R2} {f : D → D → Option D} (hr : OpR X (compareOp op) r) (ho : Op2 X r (.ow 0) (.ow 0) .fl f) (ha : MD X T W a (.ow 0) ma) (hb : MD X T W b (.ow 0) mb) (hm : behindInMarks op b = false := by first | exact nomark _ | rfl) : MD X T W (.Compare a [op] [b] pos) .fl (m2of f ma mb) := m_op2 ho (pe_cmpR hr ha hb hm)
/-- a slot as an argument: taken out behind the arguments that follow it -/
def lMv (i : Nat) (ml : M (List D)) : M (List D) := fun ρ => (slotD ρ i).bind fun _ => (ml.bind fun ds ρ' => (slotD ρ' i).map fun d => .ok (d :: ds) (ρ'.set i none)) ρ
theorem lmv_rd (i k : Nat) {te : TE} {t : TA} {ks : List Nat} {is : List (Option Nat)} {ml : M (List D)} (hk : T.ks[i]? = some k) (hte : ∀ σ H Q v, σ[i]? = some (some v) → Q v H → te σ H Q) (ht : ∀ σ H Q, tMI X.mg T W ks is ml σ H Q → t σ H Q) : ∀ σ H Q, tMI X.mg T W (k :: ks) (some i :: is) (lMv i ml) σ H Q → te σ H fun v H1 => t σ H1 fun vs H2 => Q (v :: vs) H2 := by
  intro σ H Q ⟨ρ, S, F, E, z⟩
  unfold lMv at z
  cases hd : slotD ρ i with
  | none => rw [hd] at z; exact z.elim
  | some d =>
    rw [hd] at z
    simp only [Option.bind_some] at z
    obtain ⟨k', v, G1, ek, ev, _, _⟩ := E.at (slotD_some hd)
    refine hte σ H _ v ev (ht σ H _ ⟨ρ, S, F, E, ?_⟩)
    unfold M.bind at z
    unfold EndI
    split
    · rename_i hq; rw [hq] at z; exact z.elim
    · rename_i ds ρ2 hq
      rw [hq] at z
      intro vs H2 S2 F2 G2 A2 E2 r2 n2 f2 mv
      simp only at z
      cases hd2 : slotD ρ2 i with
      | none => rw [hd2] at z; exact z.elim
      | some d2 =>
        rw [hd2] at z
        simp only [Option.map_some] at z
        obtain ⟨k2, v2, G, F', ek2, ev2, q, E3, n3, hF⟩ := E2.take (slotD_some hd2)
        rw [hk] at ek2; cases ek2
        rw [ev] at ev2; cases ev2
        have n2' := List.nodup_append.mp n2
        have n3' := List.nodup_append.mp n3
        refine z (v :: vs) H2 S2 F' (G ++ G2) (A2.keep fun a h => ?_) E3 ?_ ?_ (fun a h => ?_) ⟨ev, mv⟩
        · simp only [List.mem_append] at h
          rcases h with (h | h) | h
          · exact .inr ((hF a).mpr (.inl h))
          · exact .inl h
          · exact .inr ((hF a).mpr (.inr h))
        · simp only [Args]
          exact ⟨v, vs, G, G2, rfl, rfl, q, r2⟩
        · rw [List.append_assoc]
          refine List.nodup_append.mpr ⟨n3'.1, List.nodup_append.mpr ⟨n2'.1, n3'.2.1, fun a ha b hb => n2'.2.2 a ha b ((hF b).mpr (.inr hb))⟩, fun a ha b hb => ?_⟩
          rcases List.mem_append.mp hb with hb | hb
          · exact fun e => n2'.2.2 b hb a ((hF a).mpr (.inl ha)) e.symm
          · exact n3'.2.2 a ha b hb
        · rcases List.mem_append.mp h with h | h
          · exact E2.apart a ((hF a).mpr (.inl h))
          · exact f2 a h
    · rename_i y ρ2 hq
      rw [hq] at z
      exact z
theorem mi_mvL (i k : Nat) {x : Str} {p : Pos} {ks : List Nat} {is : List (Option Nat)} {ml : M (List D)} (hr : MI X T W es ks is ml) (hk : T.ks[i]? = some k := by rfl) (hN : X.N[i]? = some x := by rfl) (hv : Vis X.env.scope x := by first | exact Or.inl rfl | exact Or.inr (Or.inl rfl) | exact Or.inr (Or.inr rfl)) (hd : (x == ("__debug__" : Str)) = false := by decide)
    (hcd : (x == ("__classdict__" : Str)) = false := by decide) (hs : starEach (.Name x p :: es) X.env = (false, eval (.Name x p) X.env) :: starEach es X.env := by rfl) : MI X T W (.Name x p :: es) (k :: ks) (some i :: is) (lMv i ml) :=
  PA.imp (pa_cons (pe_var hN hv hd hcd) hr hs) (lmv_rd i k hk (fun σ H Q v hv q => ⟨v, hv, q⟩) fun _ _ _ h => h)
end
end DL
end

section
set_option Elab.async false
set_option linter.all false
set_option maxRecDepth 100000
set_option maxHeartbeats 4000000
/-! DL20: small things for the printed walks. -/
namespace DL
open PySem PySem.Spec PyProof.Rows L2
theorem hu65 {A : Around} {k : Nat} (hr : Room k A) : A.units + 65 < cLine := by have := hr.un; omega
theorem fn_zero {P : Program} {w : World} {K : PySem.W.Frag} {mg : Str → Option Value} {base : Heap} {CX : CXT} {k kr : Nat} {f : Addr} {fd : FuncData} {ps : List Str} {ks : List Nat} : FnOk P w K mg base CX k f fd ps (spF mg ks kr fun _ => none) :=
  ⟨fun vs H Q E h => by obtain ⟨S, ds, G, _, _, _, _, z⟩ := h; exact z.elim, fun A outer s H args us vs Q E hr he hb hv h => by obtain ⟨S, ds, G, _, _, _, _, z⟩ := h; exact z.elim⟩
theorem bb_len : bootBuiltins "len" = some (.builtin "len") := by decide +kernel
theorem bb_sum : bootBuiltins "sum" = some (.builtin "sum") := by decide +kernel
theorem bb_all : bootBuiltins "all" = some (.builtin "all") := by decide +kernel
theorem bb_abs : bootBuiltins "abs" = some (.builtin "abs") := by decide +kernel
theorem bb_max : bootBuiltins "max" = some (.builtin "max") := by decide +kernel
theorem bb_min : bootBuiltins "min" = some (.builtin "min") := by decide +kernel
theorem bb_sorted : bootBuiltins "sorted" = some (.builtin "sorted") := by decide +kernel
theorem bb_repr : bootBuiltins "repr" = some (.builtin "repr") := by decide +kernel
theorem bb_isinstance : bootBuiltins "isinstance" = some (.builtin "isinstance") := by decide +kernel
theorem bb_int : bootBuiltins "int" = some (.type "int") := by decide +kernel
theorem bb_bool : bootBuiltins "bool" = some (.type "bool") := by decide +kernel
theorem bb_str : bootBuiltins "str" = some (.type "str") := by decide +kernel
theorem bb_list : bootBuiltins "list" = some (.type "list") := by decide +kernel
theorem bb_tuple : bootBuiltins "tuple" = some (.type "tuple") := by decide +kernel
theorem bb_dict : bootBuiltins "dict" = some (.type "dict") := by decide +kernel
theorem bb_set : bootBuiltins "set" = some (.type "set") := by decide +kernel
/-- a block's scope, looked at -/
def blkB (N : List Str) (sc : List (Str × NameKind)) (scope : Scope) (own : List (Str × Nat)) : Bool :=
  (scope.kind == .function) && scope.names.all (fun y => scope.names.lookup y.1 == some y.2) && own.all (fun p => N[p.2]? == some p.1) &&
  scope.names.all (fun y => y.2 != .free || (sc.lookup y.1 == some .cell) || (sc.lookup y.1 == some .free)) &&
  scope.names.all (fun y => !(y.2 == .local || y.2 == .cell) || (own.map (·.1)).contains y.1 || !(N.contains y.1))
theorem blk_of {N : List Str} {sc scope : Scope} {own : List (Str × Nat)} (h : blkB N sc.names scope own = true) : BlkOk N sc scope own := by
  simp only [blkB, Bool.and_eq_true, beq_iff_eq, List.all_eq_true, Bool.or_eq_true, bne_iff_ne, Bool.not_eq_true', Bool.or_eq_false_iff, List.contains_eq_mem, decide_eq_true_eq, decide_eq_false_iff_not, beq_eq_false_iff_ne] at h
  obtain ⟨⟨⟨⟨h1, h2⟩, h3⟩, h4⟩, h5⟩ := h
  refine ⟨h1, h2, h3, fun y hy e => ?_, fun y hy e => ?_⟩
  · rcases h4 y hy with (h | h) | h
    · exact absurd e h
    · exact .inl h
    · exact .inr h
  · rcases h5 y hy with (h | h) | h
    · rcases e with e | e
      · exact absurd e h.1
      · exact absurd e h.2
    · exact .inl h
    · exact .inr h
/-- no list among the written objects -/
def noLst (K : PySem.W.Frag) : Bool := K.all fun p => p.2.cls != .type "list"
theorem noLst_at {K : PySem.W.Frag} (h : noLst K = true) {a : Addr} {o : Obj} (e : K.lookup a = some o) : o.cls ≠ .type "list" := by
  unfold noLst at h
  induction K with
  | nil => cases e
  | cons p K ih =>
    obtain ⟨b, q⟩ := p
    simp only [List.all_cons, Bool.and_eq_true, bne_iff_ne] at h
    rw [List.lookup_cons] at e
    split at e
    · cases e; exact h.1
    · exact ih h.2 e
/-- the promise of a law: true, for every script -/
def spLaw (K : PySem.W.Frag) : Sp := fun vs H Q _ => ∃ (a : Addr) (ns : List Int), vs = [.ref a] ∧ Only H ∧ SqL K H a (ns.map V.int) ∧ ns.length ≤ 63 ∧ ∀ H', Q (.bl true) H'
def Den.Tru (den : Den) : Prop := ∀ ns : List Int, ns.length ≤ 63 → ∃ outs, den [.scr ns] = some (.rt (.bl true) outs)
theorem spLaw_of {K : PySem.W.Frag} {mg : Str → Option Value} {den : Den} (nl : noLst K = true) (h : den.Tru) {vs : List V} {H : Hp} {Q : VK} {E : XK} (s : spLaw K vs H Q E) : spF mg [0] 0 den vs H Q E := by
  obtain ⟨a, ns, rfl, hO, hS, hl, q⟩ := s
  have hf : ∃ o, H a = some (.frz o (.lst (ns.map V.int))) := by
    rcases hS with (hS | ⟨o, hS⟩) | ⟨o, its, n, hK, hc, _⟩
    · rcases hO a with z | ⟨o, xs, z⟩
      · rw [hS] at z; cases z
      · rw [hS] at z; cases z
    · exact ⟨o, hS⟩
    · exact absurd hc (noLst_at nl hK)
  obtain ⟨o, hf⟩ := hf
  obtain ⟨outs, hd⟩ := h ns hl
  refine ⟨fun b => b = a, [.scr ns], [], ?_, by simp, by simp, fun b hb => ?_, ?_⟩
  · simp only [Args, Rep, View]
    exact ⟨.ref a, [], [], [], rfl, rfl, ⟨⟨a, o, rfl, rfl, hf⟩, rfl⟩, rfl, rfl⟩
  · subst hb; rw [hf]; exact fun z => nomatch z
  · unfold EndF
    rw [hd]
    simp only
    intro v H' S' Gr G' A ra r n f
    simp only [Rep, View] at r
    rw [r.1]
    exact q H'
end DL
end

section
set_option Elab.async false
set_option linter.all false
set_option maxRecDepth 100000
set_option maxHeartbeats 4000000
namespace K85
open PySem PySem.Spec PyProof.Rows L2 DL
def topS (i : Nat) : Stmt := PySem.Challenge.pw_beatswitch_k85_heaviest_pairings.main.body.getD i (.Pass ⟨0, 0, 0, 0⟩)
abbrev st_is_whole : Stmt := topS 1
abbrev st_is_column : Stmt := topS 2
abbrev st_is_pairing : Stmt := topS 3
abbrev st_cells_of : Stmt := topS 4
abbrev st_is_within : Stmt := topS 5
abbrev st_weight : Stmt := topS 7
abbrev st_best_from : Stmt := topS 8
abbrev st_column_prices : Stmt := topS 9
abbrev st_heaviest : Stmt := topS 10
abbrev st_are_prices : Stmt := topS 11
abbrev st_is_heaviest : Stmt := topS 12
abbrev st__law_feed : Stmt := topS 14
abbrev st__law_take : Stmt := topS 15
abbrev st__law_pick : Stmt := topS 16
abbrev st__law_is_whole : Stmt := topS 17
abbrev st__law_table : Stmt := topS 18
abbrev st__law_all_columns : Stmt := topS 19
abbrev st__law_most : Stmt := topS 20
abbrev st__law_weight : Stmt := topS 21
abbrev st__law_are_prices : Stmt := topS 22
abbrev st_law : Stmt := topS 23
theorem sc_is_whole : FnScope ["thing"] ["thing"] (defScope st_is_whole) := ⟨rfl, rfl, rfl, by decide +kernel, rfl, by decide +kernel, by decide +kernel⟩
theorem sc_is_column : FnScope ["n", "thing"] ["n", "thing"] (defScope st_is_column) := ⟨rfl, rfl, rfl, by decide +kernel, rfl, by decide +kernel, by decide +kernel⟩
theorem sc_is_pairing : FnScope ["n", "thing", "one", "taken"] ["n", "thing"] (defScope st_is_pairing) := ⟨rfl, rfl, rfl, by decide +kernel, rfl, by decide +kernel, by decide +kernel⟩
theorem sc_cells_of : FnScope ["pairing", "i", "j"] ["pairing"] (defScope st_cells_of) := ⟨rfl, rfl, rfl, by decide +kernel, rfl, by decide +kernel, by decide +kernel⟩
theorem sc_is_within : FnScope ["table", "thing", "i", "j"] ["table", "thing"] (defScope st_is_within) := ⟨rfl, rfl, rfl, by decide +kernel, rfl, by decide +kernel, by decide +kernel⟩
theorem sc_weight : FnScope ["table", "pairing", "row", "column"] ["table", "pairing"] (defScope st_weight) := ⟨rfl, rfl, rfl, by decide +kernel, rfl, by decide +kernel, by decide +kernel⟩
theorem sc_best_from : FnScope ["table", "row", "free", "found", "column", "most", "columns", "one"] ["table", "row", "free"] (defScope st_best_from) := ⟨rfl, rfl, rfl, by decide +kernel, rfl, by decide +kernel, by decide +kernel⟩
theorem sc_column_prices : FnScope ["table", "columns", "prices", "turn", "row", "counts", "own", "column", "count"] ["table", "columns"] (defScope st_column_prices) := ⟨rfl, rfl, rfl, by decide +kernel, rfl, by decide +kernel, by decide +kernel⟩
theorem sc_heaviest : FnScope ["table", "columns", "prices", "row_prices", "row", "column", "pairing"] ["table"] (defScope st_heaviest) := ⟨rfl, rfl, rfl, by decide +kernel, rfl, by decide +kernel, by decide +kernel⟩
theorem sc_are_prices : FnScope ["n", "thing", "one"] ["n", "thing"] (defScope st_are_prices) := ⟨rfl, rfl, rfl, by decide +kernel, rfl, by decide +kernel, by decide +kernel⟩
theorem sc_is_heaviest : FnScope ["table", "told", "pairing", "rows", "columns", "row", "counts", "column", "count"] ["table", "told"] (defScope st_is_heaviest) := ⟨rfl, rfl, rfl, by decide +kernel, rfl, by decide +kernel, by decide +kernel⟩
theorem sc__law_feed : FnScope ["script", "k", "seed", "digits"] ["script", "k"] (defScope st__law_feed) := ⟨rfl, rfl, rfl, by decide +kernel, rfl, by decide +kernel, by decide +kernel⟩
theorem sc__law_take : FnScope ["feed", "size", "digit"] ["feed", "size"] (defScope st__law_take) := ⟨rfl, rfl, rfl, by decide +kernel, rfl, by decide +kernel, by decide +kernel⟩
theorem sc__law_pick : FnScope ["feed", "choices"] ["feed", "choices"] (defScope st__law_pick) := ⟨rfl, rfl, rfl, by decide +kernel, rfl, by decide +kernel, by decide +kernel⟩
theorem sc__law_is_whole : FnScope ["thing"] ["thing"] (defScope st__law_is_whole) := ⟨rfl, rfl, rfl, by decide +kernel, rfl, by decide +kernel, by decide +kernel⟩
theorem sc__law_table : FnScope ["feed", "n", "found", "way", "row", "some", "column"] ["feed", "n"] (defScope st__law_table) := ⟨rfl, rfl, rfl, by decide +kernel, rfl, by decide +kernel, by decide +kernel⟩
theorem sc__law_all_columns : FnScope ["n", "found", "place", "longer", "some", "column"] ["n"] (defScope st__law_all_columns) := ⟨rfl, rfl, rfl, by decide +kernel, rfl, by decide +kernel, by decide +kernel⟩
theorem sc__law_most : FnScope ["table", "row", "column", "one"] ["table"] (defScope st__law_most) := ⟨rfl, rfl, rfl, by decide +kernel, rfl, by decide +kernel, by decide +kernel⟩
theorem sc__law_weight : FnScope ["table", "pairing", "taken", "column", "cells", "row"] ["table", "pairing"] (defScope st__law_weight) := ⟨rfl, rfl, rfl, by decide +kernel, rfl, by decide +kernel, by decide +kernel⟩
theorem sc__law_are_prices : FnScope ["table", "rows", "columns", "some", "one", "row", "cells", "column", "count"] ["table", "rows", "columns"] (defScope st__law_are_prices) := ⟨rfl, rfl, rfl, by decide +kernel, rfl, by decide +kernel, by decide +kernel⟩
theorem sc_law : FnScope ["script", "k", "feed", "table", "most", "turn", "told"] ["script"] (defScope st_law) := ⟨rfl, rfl, rfl, by decide +kernel, rfl, by decide +kernel, by decide +kernel⟩
def sem_is_whole : SM :=
  (sRet (M.lift (vAnd (e1 (isiD "int") (eVar 0)) (vNot (e1 (isiD "bool") (eVar 0))))))
def den_is_whole : Den := fnD 1 [0] sem_is_whole
def sem_is_column : SM :=
  (sRet (M.lift (vOr (e2 isNonD (eVar 1) (eC .non)) (vAnd (eCall (den_is_whole) (sCons (eVar 1) sNil)) (eChain (cmpD (fun i j => decide (i ≤ j))) (cmpD (fun i j => decide (i < j))) (eC (.int 0)) (eVar 1) (eVar 0))))))
def den_is_column : Den := fnD 2 [0, 0] sem_is_column
def sem_is_pairing : SM :=
  (sSeq (sIf (M.lift (bOr (bNot (eB (e1 (isiD "tuple") (eVar 1)))) (eB (e2 neD (e1 lenD (eVar 1)) (eVar 0)))))
    (sRet (M.lift (eC (.bl false))))
    sNx)
    (sSeq (sIf (M.lift (bNot (eB (e1 allD (eComp [2] (iItems (eVar 1)) (bName 2) tbY (eCall (den_is_column) (sCons (eVar 0) (sCons (eVar 2) sNil))))))))
    (sRet (M.lift (eC (.bl false))))
    sNx)
    (sSeq (sSet 3 (M.lift (eComp [2] (iItems (eVar 1)) (bName 2) (eB (e2 notNonD (eVar 2) (eC .non))) (eVar 2))))
    (sRet (M.lift (e2 eqD (e1 lenSetD (eVar 3)) (e1 lenD (eVar 3))))))))
def den_is_pairing : Den := fnD 4 [0, 0] sem_is_pairing
def sem_cells_of : SM :=
  (sRet (M.lift (eComp [1, 2] (iEnumD (eVar 0)) (bTup (bsCons (bName 1) (bsCons (bName 2) bsNil))) (eB (e2 notNonD (eVar 2) (eC .non))) (eT (sCons (eVar 1) (sCons (eVar 2) sNil))))))
def den_cells_of : Den := fnD 3 [0] sem_cells_of
def sem_is_within : SM :=
  (sSeq (sIf (M.lift (bNot (eB (eCall (den_is_pairing) (sCons (e1 lenD (eVar 0)) (sCons (eVar 1) sNil))))))
    (sRet (M.lift (eC (.bl false))))
    sNx)
    (sRet (M.lift (e1 allD (eComp [2, 3] (iItems (eCall (den_cells_of) (sCons (eVar 1) sNil))) (bTup (bsCons (bName 2) (bsCons (bName 3) bsNil))) tbY (e2 gtD (e2 ixD (e2 ixD (eVar 0) (eVar 2)) (eVar 3)) (eC (.int 0))))))))
def den_is_within : Den := fnD 4 [0, 0] sem_is_within
def sem_weight : SM :=
  (sRet (M.lift (e1 sumD (eComp [2, 3] (iEnumD (eVar 1)) (bTup (bsCons (bName 2) (bsCons (bName 3) bsNil))) (eB (e2 notNonD (eVar 3) (eC .non))) (e2 ixD (e2 ixD (eVar 0) (eVar 2)) (eVar 3))))))
def den_weight : Den := fnD 4 [0, 0] sem_weight
def sem_best_from (den : Den) : SM :=
  (sSeq (sIf (M.lift (eB (e2 eqD (eVar 1) (e1 lenD (eVar 0)))))
    (sRet (M.lift (eT (sCons (eC (.int 0)) (sCons (eL sNil) sNil)))))
    sNx)
    (sSeq (sSet 3 (M.lift (eT (sCons (e1 negD (eC (.int 1))) (sCons (eL sNil) sNil)))))
    (sSeq (sFor (iItems (eVar 2)) (bName 4)
    (sSeq (sTup (bTup (bsCons (bName 5) (bsCons (bName 6) bsNil))) (M.lift (eCall den (sCons (eVar 0) (sCons (e2 addD (eVar 1) (eC (.int 1))) (sCons (eComp [7] (iItems (eVar 2)) (bName 7) (eB (e2 neD (eVar 7) (eVar 4))) (eVar 7)) sNil))))))
    (sIf (M.lift (eB (e2 gtD (e2 addD (e2 ixD (e2 ixD (eVar 0) (eVar 1)) (eVar 4)) (eVar 5)) (e2 ixD (eVar 3) (eC (.int 0))))))
    (sSet 3 (M.lift (eT (sCons (e2 addD (e2 ixD (e2 ixD (eVar 0) (eVar 1)) (eVar 4)) (eVar 5)) (sCons (e2 addD (eL (sCons (eVar 4) sNil)) (eVar 6)) sNil)))))
    sNx)))
    (sRet (M.lift (eVar 3))))))
def den_best_from : Nat → Den
  | 0 => fun _ => none
  | j + 1 => fnD 8 [0, 0, 0] (sem_best_from (den_best_from j))
def sem_column_prices : SM :=
  (sSeq (sSet 2 (M.lift (e2 mulD (eL (sCons (eC (.int 0)) sNil)) (e1 lenD (eVar 0)))))
    (sSeq (sFor (iRg1 (e1 lenD (eVar 0))) (bName 3)
    (sFor (iEnumD (eVar 0)) (bTup (bsCons (bName 4) (bsCons (bName 5) bsNil)))
    (sSeq (sSet 6 (M.lift (e2 subD (e2 ixD (eVar 2) (e2 ixD (eVar 1) (eVar 4))) (e2 ixD (eVar 5) (e2 ixD (eVar 1) (eVar 4))))))
    (sFor (iEnumD (eVar 5)) (bTup (bsCons (bName 7) (bsCons (bName 8) bsNil)))
    (sSto 2 plVar (eVar 7) setD (M.lift (e2 max2D (e2 ixD (eVar 2) (eVar 7)) (e2 addD (eVar 6) (eVar 8)))))))))
    (sRet (mMv 2))))
def den_column_prices : Den := fnD 9 [0, 0] sem_column_prices
def sem_heaviest : SM :=
  (sSeq (sSet 1 (M.lift (e2 ixD (eCall (den_best_from 8) (sCons (eVar 0) (sCons (eC (.int 0)) (sCons (e1 lrgD1 (e1 lenD (eVar 0))) sNil)))) (eC (.int 1)))))
    (sSeq (sSet 2 (M.lift (eCall (den_column_prices) (sCons (eVar 0) (sCons (eVar 1) sNil)))))
    (sSeq (sSet 3 (M.lift (eComp [4, 5] (iEnumD (eVar 1)) (bTup (bsCons (bName 4) (bsCons (bName 5) bsNil))) tbY (e2 subD (e2 ixD (e2 ixD (eVar 0) (eVar 4)) (eVar 5)) (e2 ixD (eVar 2) (eVar 5))))))
    (sSeq (sSet 6 (M.lift (eL sNil)))
    (sSeq (sFor (iEnumD (eVar 1)) (bTup (bsCons (bName 4) (bsCons (bName 5) bsNil)))
    (sIf (M.lift (eB (e2 gtD (e2 ixD (e2 ixD (eVar 0) (eVar 4)) (eVar 5)) (eC (.int 0)))))
    (sExp (mMu 6 appD (lCons (M.lift (eVar 5)) lNil)))
    (sExp (mMu 6 appD (lCons (M.lift (eC .non)) lNil)))))
    (sRet (mT (lCons (M.lift (e1 tupleD (eVar 6))) (lCons (mMv 3) (lCons (mMv 2) lNil))))))))))
def den_heaviest : Den := fnD 7 [0] sem_heaviest
def sem_are_prices : SM :=
  (sRet (M.lift (vAnd (e1 (isiD "list") (eVar 1)) (vAnd (e2 eqD (e1 lenD (eVar 1)) (eVar 0)) (e1 allD (eComp [2] (iItems (eVar 1)) (bName 2) tbY (vAnd (eCall (den_is_whole) (sCons (eVar 2) sNil)) (e2 geD (eVar 2) (eC (.int 0))))))))))
def den_are_prices : Den := fnD 3 [0, 0] sem_are_prices
def sem_is_heaviest : SM :=
  (sSeq (sTup (bTup (bsCons (bName 2) (bsCons (bName 3) (bsCons (bName 4) bsNil)))) (M.lift (eVar 1)))
    (sSeq (sIf (M.lift (bOr (bNot (eB (eCall (den_is_within) (sCons (eVar 0) (sCons (eVar 2) sNil))))) (bOr (bNot (eB (eCall (den_are_prices) (sCons (e1 lenD (eVar 0)) (sCons (eVar 3) sNil))))) (bNot (eB (eCall (den_are_prices) (sCons (e1 lenD (eVar 0)) (sCons (eVar 4) sNil))))))))
    (sRet (M.lift (eC (.bl false))))
    sNx)
    (sSeq (sFor (iEnumD (eVar 0)) (bTup (bsCons (bName 5) (bsCons (bName 6) bsNil)))
    (sFor (iEnumD (eVar 6)) (bTup (bsCons (bName 7) (bsCons (bName 8) bsNil)))
    (sIf (M.lift (eB (e2 gtD (eVar 8) (e2 addD (e2 ixD (eVar 3) (eVar 5)) (e2 ixD (eVar 4) (eVar 7))))))
    (sRet (M.lift (eC (.bl false))))
    sNx)))
    (sRet (M.lift (e2 eqD (e2 addD (e1 sumD (eVar 3)) (e1 sumD (eVar 4))) (eCall (den_weight) (sCons (eVar 0) (sCons (eVar 2) sNil)))))))))
def den_is_heaviest : Den := fnD 9 [0, 0] sem_is_heaviest
def sem__law_feed : SM :=
  (sSeq (sSet 2 (M.lift (e2 ixD (e2 addD (e1 listD (eSlice (eVar 0) (oSome (eVar 1)) (oSome (e2 addD (eVar 1) (eC (.int 1)))))) (eL (sCons (e2 addD (e2 mulD (eC (.int 71)) (eVar 1)) (eC (.int 23))) sNil))) (eC (.int 0)))))
    (sSeq (sSet 3 (M.lift (e2 max2D (eC (.int 0)) (e2 subD (e1 absD (eVar 2)) (e2 powD (eC (.int 10)) (eC (.int 18)))))))
    (sRet (M.lift (eL (sCons (eVar 3) (sCons (e2 modD (e1 intD (e2 addD (e2 addD (e2 mulD (e2 modD (e1 intD (e1 absD (eVar 2))) (eC (.int 1000003))) (eC (.int 7919))) (e2 mulD (eC (.int 31)) (eVar 1))) (eC (.int 17)))) (eC (.int 1000033))) sNil)))))))
def den__law_feed : Den := fnD 4 [0, 0] sem__law_feed
def sem__law_take : SM :=
  (sSeq (sIf (M.lift (eB (e2 gtD (e2 ixD (eVar 0) (eC (.int 0))) (eC (.int 0)))))
    (sSeq (sSet 2 (M.lift (e2 modD (e1 intD (e2 ixD (eVar 0) (eC (.int 0)))) (eVar 1))))
    (sSeq (sSto 0 plVar (eC (.int 0)) setD (M.lift (e2 divD (e2 ixD (eVar 0) (eC (.int 0))) (eVar 1))))
    (sRet (M.lift (eVar 2)))))
    sNx)
    (sSeq (sSto 0 plVar (eC (.int 1)) setD (M.lift (e2 modD (e1 intD (e2 addD (e2 mulD (e2 ixD (eVar 0) (eC (.int 1))) (eC (.int 69069))) (eC (.int 12345)))) (eC (.int 4294967311)))))
    (sRet (M.lift (e2 modD (e1 intD (e2 divD (e2 ixD (eVar 0) (eC (.int 1))) (eC (.int 65536)))) (eVar 1))))))
def den__law_take : Den := fnD 3 [1, 0] sem__law_take
def sem__law_pick : SM :=
  (sRet (m2of ixD (M.lift (eVar 1)) (mCall (den__law_take) [some 0, none] (lMv 0 (lCons (M.lift (e1 lenD (eVar 1))) lNil)))))
def den__law_pick : Den := fnD 2 [1, 0] sem__law_pick
def sem__law_is_whole : SM :=
  (sRet (M.lift (vAnd (e1 (isiD "int") (eVar 0)) (vNot (e1 (isiD "bool") (eVar 0))))))
def den__law_is_whole : Den := fnD 1 [0] sem__law_is_whole
def sem__law_table : SM :=
  (sSeq (sSet 2 (M.lift (eL sNil)))
    (sSeq (sSet 3 (mCall (den__law_take) [some 0, none] (lMv 0 (lCons (M.lift (eC (.int 5))) lNil))))
    (sSeq (sFor (iRg1 (eVar 1)) (bName 4)
    (sSeq (sSet 5 (M.lift (eIf (eB (e2 ltD (eVar 3) (eC (.int 3)))) (eL (sCons (eC (.int 0)) (sCons (eC (.int 0)) (sCons (eC (.int 1)) (sCons (eC (.int 2)) (sCons (eC (.int 3)) (sCons (eC (.int 7)) sNil))))))) (eL (sCons (eC (.int 0)) (sCons (eC (.int 1)) (sCons (e2 powD (eC (.int 10)) (eC (.int 18))) (sCons (e2 subD (e2 powD (eC (.int 10)) (eC (.int 18))) (eC (.int 1))) (sCons (e2 powD (eC (.int 10)) (eC (.int 9))) (sCons (eC (.int 5)) sNil))))))))))
    (sExp (mMu 2 appD (lCons (m1of tupleD (mComp [6] (iRg1 (eVar 1)) (bName 6) mbY (mIf (M.lift (eB (e2 ltD (eVar 3) (eC (.int 4))))) (mCall (den__law_pick) [some 0, none] (lMv 0 (lCons (M.lift (eVar 5)) lNil))) (mCall (den__law_take) [some 0, none] (lMv 0 (lCons (M.lift (eC (.int 2))) lNil)))))) lNil)))))
    (sRet (M.lift (e1 tupleD (eVar 2)))))))
def den__law_table : Den := fnD 7 [1, 0] sem__law_table
def sem__law_all_columns : SM :=
  (sSeq (sSet 1 (M.lift (eL (sCons (eL sNil) sNil))))
    (sSeq (sFor (iRg1 (eVar 0)) (bName 2)
    (sSeq (sSet 3 (M.lift (eL sNil)))
    (sSeq (sFor (iItems (eVar 1)) (bName 4)
    (sSet 3 (M.lift (e2 addD (eVar 3) (eComp [5] (iRg1 (eVar 0)) (bName 5) (eB (e2 notInD (eVar 5) (eVar 4))) (e2 addD (eVar 4) (eL (sCons (eVar 5) sNil))))))))
    (sSet 1 (M.lift (eVar 3))))))
    (sRet (M.lift (eVar 1)))))
def den__law_all_columns : Den := fnD 6 [0] sem__law_all_columns
def sem__law_most : SM :=
  (sRet (M.lift (e1 max1D (eComp [3] (iItems (eCall (den__law_all_columns) (sCons (e1 lenD (eVar 0)) sNil))) (bName 3) tbY (e1 sumD (eComp [1, 2] (iEnumD (eVar 3)) (bTup (bsCons (bName 1) (bsCons (bName 2) bsNil))) tbY (e2 ixD (e2 ixD (eVar 0) (eVar 1)) (eVar 2))))))))
def den__law_most : Den := fnD 4 [0] sem__law_most
def sem__law_weight : SM :=
  (sSeq (sIf (M.lift (bOr (bNot (eB (e1 (isiD "tuple") (eVar 1)))) (eB (e2 neD (e1 lenD (eVar 1)) (e1 lenD (eVar 0))))))
    (sRet (M.lift (eC .non)))
    sNx)
    (sSeq (sSet 2 (M.lift (eComp [3] (iItems (eVar 1)) (bName 3) (eB (e2 notNonD (eVar 3) (eC .non))) (eVar 3))))
    (sSeq (sFor (iItems (eVar 2)) (bName 3)
    (sIf (M.lift (bOr (bNot (eB (eCall (den__law_is_whole) (sCons (eVar 3) sNil)))) (bOr (bNot (eB (eChain (cmpD (fun i j => decide (i ≤ j))) (cmpD (fun i j => decide (i < j))) (eC (.int 0)) (eVar 3) (e1 lenD (eVar 0))))) (eB (e2 gtD (e2 cntD (eVar 2) (eVar 3)) (eC (.int 1)))))))
    (sRet (M.lift (eC .non)))
    sNx))
    (sSeq (sSet 4 (M.lift (eComp [5, 3] (iEnumD (eVar 1)) (bTup (bsCons (bName 5) (bsCons (bName 3) bsNil))) (eB (e2 notNonD (eVar 3) (eC .non))) (e2 ixD (e2 ixD (eVar 0) (eVar 5)) (eVar 3)))))
    (sRet (M.lift (eIf (eB (e2 inD (eC (.int 0)) (eVar 4))) (eC .non) (e1 sumD (eVar 4)))))))))
def den__law_weight : Den := fnD 6 [0, 0] sem__law_weight
def sem__law_are_prices : SM :=
  (sSeq (sFor (iItems (eT (sCons (eVar 1) (sCons (eVar 2) sNil)))) (bName 3)
    (sSeq (sIf (M.lift (bOr (bNot (eB (e1 (isiD "list") (eVar 3)))) (eB (e2 neD (e1 lenD (eVar 3)) (e1 lenD (eVar 0))))))
    (sRet (M.lift (eC (.bl false))))
    sNx)
    (sIf (M.lift (eB (e2 neD (eComp [4] (iItems (eVar 3)) (bName 4) (bOr (bNot (eB (eCall (den__law_is_whole) (sCons (eVar 4) sNil)))) (eB (e2 ltD (eVar 4) (eC (.int 0))))) (eVar 4)) (eL sNil))))
    (sRet (M.lift (eC (.bl false))))
    sNx)))
    (sSeq (sFor (iEnumD (eVar 0)) (bTup (bsCons (bName 5) (bsCons (bName 6) bsNil)))
    (sIf (M.lift (eB (e2 neD (eComp [7, 8] (iEnumD (eVar 6)) (bTup (bsCons (bName 7) (bsCons (bName 8) bsNil))) (eB (e2 gtD (eVar 8) (e2 addD (e2 ixD (eVar 1) (eVar 5)) (e2 ixD (eVar 2) (eVar 7))))) (eC (.int 1))) (eL sNil))))
    (sRet (M.lift (eC (.bl false))))
    sNx))
    (sRet (M.lift (eC (.bl true))))))
def den__law_are_prices : Den := fnD 9 [0, 0, 0] sem__law_are_prices
def sem_law : SM :=
  (sSeq (sFor (iRg1 (e2 max2D (eC (.int 1)) (e2 min2D (eC (.int 3)) (e1 lenD (eVar 0))))) (bName 1)
    (sSeq (sSet 2 (M.lift (eCall (den__law_feed) (sCons (eVar 0) (sCons (eVar 1) sNil)))))
    (sSeq (sSet 3 (mCall (den__law_table) [some 2, none] (lMv 2 (lCons (mCall (den__law_pick) [some 2, none] (lMv 2 (lCons (M.lift (e2 addD (eL (sCons (eC (.int 2)) (sCons (eC (.int 3)) (sCons (eC (.int 4)) (sCons (eC (.int 5)) sNil))))) (e2 mulD (eL (sCons (eC (.int 6)) sNil)) (e1 intD (e2 eqD (eVar 1) (eC (.int 0))))))) lNil))) lNil))))
    (sSeq (sSet 4 (M.lift (eCall (den__law_most) (sCons (eVar 3) sNil))))
    (sFor (iRg1 (eC (.int 2))) (bName 5)
    (sSeq (sSet 6 (M.lift (eCall (den_heaviest) (sCons (eVar 3) sNil))))
    (sSeq (sIf (M.lift (bOr (bNot (eB (e1 (isiD "tuple") (eVar 6)))) (bOr (eB (e2 neD (e1 lenD (eVar 6)) (eC (.int 3)))) (eB (e2 neD (eCut 0 (eCall (den__law_weight) (sCons (eVar 3) (sCons (e2 ixD (eVar 6) (eC (.int 0))) sNil)))) (eVar 4))))))
    (sRet (M.lift (eC (.bl false))))
    sNx)
    (sSeq (sIf (M.lift (bOr (bNot (eB (eCut 0 (eCall (den__law_are_prices) (sCons (eVar 3) (sCons (e2 ixD (eVar 6) (eC (.int 1))) (sCons (e2 ixD (eVar 6) (eC (.int 2))) sNil))))))) (eB (e2 neD (e2 addD (e1 sumD (e2 ixD (eVar 6) (eC (.int 1)))) (e1 sumD (e2 ixD (eVar 6) (eC (.int 2))))) (eVar 4)))))
    (sRet (M.lift (eC (.bl false))))
    sNx)
    (sSeq (sIf (M.lift (eB (e2 notBlD (eCut 0 (eCall (den_is_heaviest) (sCons (eVar 3) (sCons (eVar 6) sNil)))) (eC (.bl true)))))
    (sRet (M.lift (eC (.bl false))))
    sNx)
    (sSeq (sExp (mMuP 6 (plIx 6 plVar (eC (.int 1))) appD (sCons (eC .non) sNil)))
    (sSeq (sIf (M.lift (eB (e2 inD (eC .non) (e2 ixD (eVar 6) (eC (.int 2))))))
    (sRet (M.lift (eC (.bl false))))
    sNx)
    (sExp (mMuP 6 (plIx 6 plVar (eC (.int 2))) clrD sNil)))))))))))))
    (sRet (M.lift (eC (.bl true)))))
def den_law : Den := fnD 7 [0] sem_law
end K85
end

section
set_option Elab.async false
set_option linter.all false
set_option maxRecDepth 100000
set_option maxHeartbeats 4000000
/-! plain mathematics: best assignments, walks, prices. -/
namespace MA
/-- sum of f below n -/
def sumN : Nat → (Nat → Int) → Int
  | 0, _ => 0
  | n + 1, f => sumN n f + f n
theorem sumN_congr {n : Nat} {f g : Nat → Int} (h : ∀ i, i < n → f i = g i) : sumN n f = sumN n g := by
  induction n with
  | zero => rfl
  | succ n ih => simp only [sumN]; rw [ih fun i hi => h i (by omega), h n (by omega)]
theorem sumN_upd {n : Nat} {f g : Nat → Int} {a : Nat} (ha : a < n) (h : ∀ i, i < n → i ≠ a → f i = g i) : sumN n f - f a = sumN n g - g a := by
  induction n with
  | zero => omega
  | succ n ih =>
    simp only [sumN]
    by_cases e : a = n
    · subst e
      rw [sumN_congr (f := f) (g := g) fun i hi => h i (by omega) (by omega)]
      omega
    · have := ih (by omega) fun i hi => h i (by omega)
      have e2 := h n (by omega) (Ne.symm e)
      omega
theorem sumN_upd2 {n : Nat} {f g : Nat → Int} {a b : Nat} (ha : a < n) (hb : b < n) (hab : a ≠ b) (h : ∀ i, i < n → i ≠ a → i ≠ b → f i = g i) : sumN n f - f a - f b = sumN n g - g a - g b := by
  have h1 := sumN_upd (n := n) (f := f) (g := fun i => if i = a then g a else f i) ha fun i hi e => by simp [e]
  have h2 := sumN_upd (n := n) (f := fun i => if i = a then g a else f i) (g := g) hb fun i hi e => by
    by_cases z : i = a
    · subst z; simp
    · simp only [z, if_false]; exact h i hi z e
  simp only [if_true, Ne.symm hab, if_false] at h1 h2
  have h3 : (if b = a then g a else f b) = f b := by rw [if_neg (Ne.symm hab)]
  omega
/-- an assignment of columns below n to rows below n -/
structure Asg (n : Nat) (d : Nat → Nat) : Prop where
  lt : ∀ i, i < n → d i < n
  inj : ∀ i j, i < n → j < n → d i = d j → i = j
def swap (a b : Nat) (d : Nat → Nat) : Nat → Nat := fun i => if i = a then d b else if i = b then d a else d i
theorem Asg.swap {n a b : Nat} {d : Nat → Nat} (h : Asg n d) (ha : a < n) (hb : b < n) : Asg n (swap a b d) := by
  refine ⟨fun i hi => ?_, fun i j hi hj e => ?_⟩
  · unfold MA.swap; split
    · exact h.lt b hb
    · split
      · exact h.lt a ha
      · exact h.lt i hi
  · have ht : ∀ x, MA.swap a b d x = d (if x = a then b else if x = b then a else x) := fun x => by
      unfold MA.swap; split
      · rfl
      · split <;> rfl
    rw [ht, ht] at e
    have hlt : ∀ x, x < n → (if x = a then b else if x = b then a else x) < n := fun x hx => by
      split
      · exact hb
      · split
        · exact ha
        · exact hx
    have := h.inj _ _ (hlt i hi) (hlt j hj) e
    split at this <;> split at this <;> (try split at this) <;> (try split at this) <;> omega
section
variable {n : Nat} {t : Nat → Nat → Int} {c : Nat → Nat}
def wt (n : Nat) (t : Nat → Nat → Int) (d : Nat → Nat) : Int := sumN n fun i => t i (d i)
theorem wt_swap {a b : Nat} {d : Nat → Nat} (ha : a < n) (hb : b < n) (hab : a ≠ b) : wt n t (swap a b d) = wt n t d - t a (d a) - t b (d b) + t a (d b) + t b (d a) := by
  have := sumN_upd2 (n := n) (f := fun i => t i (swap a b d i)) (g := fun i => t i (d i)) ha hb hab fun i hi e1 e2 => by simp [swap, e1, e2]
  simp only [swap, if_true, Ne.symm hab, if_false] at this
  unfold wt swap
  omega
/-- the gain of row i's taking row k's column -/
def w (t : Nat → Nat → Int) (c : Nat → Nat) (i k : Nat) : Int := t i (c k) - t i (c i)
def W (t : Nat → Nat → Int) (c : Nat → Nat) : List Nat → Int
  | a :: b :: r => w t c a b + W t c (b :: r)
  | _ => 0
theorem W_split (l : List Nat) (b : Nat) (r : List Nat) : W t c (l ++ b :: r) = W t c (l ++ [b]) + W t c (b :: r) := by
  induction l with
  | nil => simp [W]
  | cons a l ih =>
    cases l with
    | nil => simp [W]
    | cons a2 l => simp only [List.cons_append, W] at ih ⊢; rw [ih]; omega
/-- rotate along a list of rows -/
def rot : List Nat → (Nat → Nat) → (Nat → Nat)
  | a :: b :: r, d => rot (b :: r) (swap a b d)
  | _, d => d
theorem rot_asg : ∀ {l : List Nat} {d : Nat → Nat}, Asg n d → (∀ x, x ∈ l → x < n) → Asg n (rot l d)
  | [], _, h, _ => h
  | [_], _, h, _ => h
  | a :: b :: r, d, h, hl => rot_asg (l := b :: r) (h.swap (hl a (by simp)) (hl b (by simp))) fun x hx => hl x (by simp at hx ⊢; grind)
theorem rot_wt {e : Nat} : ∀ {l : List Nat} {b : Nat} {d : Nat → Nat}, (b :: l).Nodup → (∀ x, x ∈ b :: l → x < n) → d b = e → (∀ x, x ∈ l → d x = c x) →
    wt n t (rot (b :: l) d) = wt n t d + (match l with
      | [] => 0
      | r :: _ => (t b (c r) - t b e) + W t c (l) + (t (l.getLast?.getD 0) e - t (l.getLast?.getD 0) (c (l.getLast?.getD 0))))
  | [], b, d, _, _, _, _ => by simp [rot]
  | r :: l, b, d, nd, hl, hb, hx => by
    have nbr : b ≠ r := fun q => by simp [q] at nd
    have nd2 : (r :: l).Nodup := (List.nodup_cons.mp nd).2
    have hs : swap b r d r = e := by simp [swap, Ne.symm nbr, hb]
    have hx2 : ∀ x, x ∈ l → swap b r d x = c x := fun x hx' => by
      have n1 : x ≠ b := fun q => by subst q; exact (List.nodup_cons.mp nd).1 (by simp [hx'])
      have n2 : x ≠ r := fun q => by subst q; exact (List.nodup_cons.mp nd2).1 hx'
      simp [swap, n1, n2]; exact hx x (by simp [hx'])
    have ih := rot_wt (l := l) (b := r) (d := swap b r d) nd2 (fun x h => hl x (by simp at h ⊢; grind)) hs hx2
    have hsw := wt_swap (t := t) (d := d) (hl b (by simp)) (hl r (by simp)) nbr
    have hr : d r = c r := hx r (by simp)
    simp only [rot]
    rw [ih, hsw, hb, hr]
    cases l with
    | nil => simp [W]; omega
    | cons r2 l2 =>
      simp only [List.getLast?_cons_cons, W, w]
      omega
/-- c is best -/
def Best (n : Nat) (t : Nat → Nat → Int) (c : Nat → Nat) : Prop := Asg n c ∧ ∀ d, Asg n d → wt n t d ≤ wt n t c
theorem getLast?_W (b : Nat) : ∀ (l : List Nat) (r : Nat), W t c ((r :: l) ++ [b]) = W t c (r :: l) + w t c ((r :: l).getLast?.getD 0) b
  | [], r => by simp [W]
  | r2 :: l, r => by
    have := getLast?_W b l r2
    simp only [List.cons_append, W, List.getLast?_cons_cons] at this ⊢
    rw [this]; omega
theorem simple_le (h : Best n t c) {a : Nat} {l : List Nat} (nd : (a :: l).Nodup) (hl : ∀ x, x ∈ a :: l → x < n) : W t c (a :: (l ++ [a])) ≤ 0 := by
  have h1 := h.2 _ (rot_asg (l := a :: l) h.1 hl)
  rw [rot_wt (e := c a) nd hl rfl fun x _ => rfl] at h1
  cases l with
  | nil => simp [W, w]
  | cons r l =>
    simp only at h1
    have h2 := getLast?_W (t := t) (c := c) a l r
    have h3 : W t c (a :: (r :: l ++ [a])) = w t c a r + W t c (r :: l ++ [a]) := by simp [W]
    rw [h3, h2]
    simp only [w]
    omega
theorem dup : ∀ {l : List Nat}, ¬ l.Nodup → ∃ x b y z, l = x ++ b :: (y ++ b :: z)
  | [], h => absurd List.nodup_nil h
  | a :: l, h => by
    by_cases ha : a ∈ l
    · obtain ⟨y, z, rfl⟩ := List.append_of_mem ha
      exact ⟨[], a, y, z, rfl⟩
    · have : ¬ l.Nodup := fun q => h (List.nodup_cons.mpr ⟨ha, q⟩)
      obtain ⟨x, b, y, z, rfl⟩ := dup this
      exact ⟨a :: x, b, y, z, rfl⟩
theorem closed_le (h : Best n t c) : ∀ (k : Nat) (a : Nat) (l : List Nat), l.length ≤ k → (∀ x, x ∈ a :: l → x < n) → W t c (a :: (l ++ [a])) ≤ 0 := by
  intro k
  induction k with
  | zero =>
    intro a l hk hl
    have : l = [] := List.eq_nil_of_length_eq_zero (by omega)
    subst this
    simp [W, w]
  | succ k ih =>
    intro a l hk hl
    by_cases nd : (a :: l).Nodup
    · exact simple_le h nd hl
    · obtain ⟨x, b, y, z, e⟩ := dup nd
      cases x with
      | nil =>
        simp only [List.nil_append, List.cons.injEq] at e
        obtain ⟨rfl, rfl⟩ := e
        have h1 := ih a y (by simp at hk; omega) fun v hv => hl v (by simp at hv ⊢; grind)
        have h2 := ih a z (by simp at hk; omega) fun v hv => hl v (by simp at hv ⊢; grind)
        have e2 : a :: ((y ++ a :: z) ++ [a]) = (a :: y) ++ a :: (z ++ [a]) := by simp
        rw [e2, W_split]
        have e3 : (a :: y) ++ [a] = a :: (y ++ [a]) := by simp
        rw [e3]; omega
      | cons a' x =>
        simp only [List.cons_append, List.cons.injEq] at e
        obtain ⟨rfl, rfl⟩ := e
        have h1 := ih b y (by simp at hk; omega) fun v hv => hl v (by simp at hv ⊢; grind)
        have h2 := ih a (x ++ b :: z) (by simp at hk ⊢; omega) fun v hv => hl v (by simp at hv ⊢; grind)
        have e2 : a :: ((x ++ b :: (y ++ b :: z)) ++ [a]) = (a :: x) ++ b :: (y ++ b :: (z ++ [a])) := by simp
        have e4 : a :: ((x ++ b :: z) ++ [a]) = (a :: x) ++ b :: (z ++ [a]) := by simp
        rw [e4, W_split] at h2
        rw [e2, W_split]
        have e5 : b :: (y ++ b :: (z ++ [a])) = (b :: y) ++ b :: (z ++ [a]) := by simp
        rw [e5, W_split (b :: y) b (z ++ [a])]
        have e6 : (b :: y) ++ [b] = b :: (y ++ [b]) := by simp
        rw [e6]; omega
theorem nodup_len : ∀ (n : Nat) (l : List Nat), l.Nodup → (∀ x, x ∈ l → x < n) → l.length ≤ n := by
  intro n
  induction n with
  | zero =>
    intro l _ h
    cases l with
    | nil => simp
    | cons a l => exact absurd (h a (by simp)) (by omega)
  | succ n ih =>
    intro l nd h
    have h1 := ih (l.erase n) (nd.erase n) fun x hx => by
      have := h x (List.mem_of_mem_erase hx)
      have ne : x ≠ n := fun e => by
        subst e
        exact ((List.Nodup.mem_erase_iff nd).mp hx).1 rfl
      omega
    rw [List.length_erase] at h1
    split at h1 <;> omega
/-- a walk is no heavier than a short one with the same end -/
theorem short (h : Best n t c) : ∀ (k : Nat) (l : List Nat) (e : Nat), l.length ≤ k → (∀ x, x ∈ l ++ [e] → x < n) → ∃ u, (∀ x, x ∈ u ++ [e] → x < n) ∧ (u ++ [e]).length ≤ n ∧ W t c (l ++ [e]) ≤ W t c (u ++ [e]) := by
  intro k
  induction k with
  | zero =>
    intro l e hk hl
    have : l = [] := List.eq_nil_of_length_eq_zero (by omega)
    subst this
    have := hl e (by simp)
    exact ⟨[], hl, by simp; omega, Int.le_refl _⟩
  | succ k ih =>
    intro l e hk hl
    by_cases nd : (l ++ [e]).Nodup
    · exact ⟨l, hl, nodup_len n _ nd hl, Int.le_refl _⟩
    · obtain ⟨x, b, y, z, q⟩ := dup nd
      have hc := closed_le h y.length b y (Nat.le_refl _) fun v hv => hl v (by rw [q]; simp at hv ⊢; grind)
      -- the end
      have hz : ∃ z', b :: z = z' ++ [e] := by
        have : (x ++ b :: (y ++ b :: z)).getLast? = some e := by rw [← q]; simp
        have h2 : (b :: z).getLast? = some e := by
          rw [List.getLast?_append, List.getLast?_cons] at this
          simp only [List.getLast?_append, List.getLast?_cons] at this ⊢
          simpa using this
        have hne : b :: z ≠ [] := by simp
        refine ⟨(b :: z).dropLast, ?_⟩
        have h3 := List.dropLast_concat_getLast hne
        rw [List.getLast?_eq_some_getLast hne] at h2
        cases h2
        exact h3.symm
      obtain ⟨z', hz⟩ := hz
      have e1 : x ++ b :: z = (x ++ z') ++ [e] := by rw [hz]; simp
      have hlen : (l ++ [e]).length = (x ++ b :: (y ++ b :: z)).length := by rw [q]
      have hlen2 : (x ++ b :: z).length = ((x ++ z') ++ [e]).length := by rw [e1]
      obtain ⟨u, h1, h2, h3⟩ := ih (x ++ z') e (by simp at hlen hlen2 hk ⊢; omega) fun v hv => by
        rw [← e1] at hv
        exact hl v (by rw [q]; simp at hv ⊢; grind)
      refine ⟨u, h1, h2, Int.le_trans ?_ h3⟩
      rw [q, ← e1, W_split]
      have e5 : b :: (y ++ b :: z) = (b :: y) ++ b :: z := by simp
      rw [e5, W_split (b :: y) b z, W_split x b z]
      have e6 : (b :: y) ++ [b] = b :: (y ++ [b]) := by simp
      rw [e6]; omega

/-! ### prices by turns -/
/-- one row's turn: own count, its columns from s on -/
def rowT (own : Int) (ti : Nat → Int) : Nat → (Nat → Int) → (Nat → Int)
  | 0, p => p
  | m + 1, p => let q := rowT own ti m p; fun j => if j = m then max (q m) (own + ti m) else q j
theorem rowT_at {own : Int} {ti : Nat → Int} {p : Nat → Int} : ∀ m j, rowT own ti m p j = if j < m then max (p j) (own + ti j) else p j
  | 0, j => by simp [rowT]
  | m + 1, j => by
    simp only [rowT]
    split
    · rename_i e
      subst e
      rw [rowT_at, if_neg (by omega), if_pos (by omega)]
    · rw [rowT_at]
      by_cases h : j < m
      · rw [if_pos h, if_pos (by omega)]
      · rw [if_neg h, if_neg (by omega)]
/-- the rows below m, one after another -/
def roundT (n : Nat) (t : Nat → Nat → Int) (c : Nat → Nat) : Nat → (Nat → Int) → (Nat → Int)
  | 0, p => p
  | m + 1, p => let q := roundT n t c m p; rowT (q (c m) - t m (c m)) (t m) n q
def pricesT (n : Nat) (t : Nat → Nat → Int) (c : Nat → Nat) : Nat → (Nat → Int)
  | 0 => fun _ => 0
  | r + 1 => roundT n t c n (pricesT n t c r)
theorem rowT_ge {own : Int} {ti : Nat → Int} {p : Nat → Int} {m j : Nat} : p j ≤ rowT own ti m p j := by
  rw [rowT_at]; split <;> omega
theorem roundT_ge {p : Nat → Int} {j : Nat} : ∀ m, p j ≤ roundT n t c m p j
  | 0 => Int.le_refl _
  | m + 1 => Int.le_trans (roundT_ge m) rowT_ge
theorem roundT_mono {p : Nat → Int} {j : Nat} : ∀ {m m' : Nat}, m ≤ m' → roundT n t c m p j ≤ roundT n t c m' p j
  | m, 0, h => by have : m = 0 := by omega
                  subst this; exact Int.le_refl _
  | m, m' + 1, h => by
    by_cases e : m = m' + 1
    · subst e; exact Int.le_refl _
    · exact Int.le_trans (roundT_mono (m := m) (m' := m') (by omega)) rowT_ge
/-- a round takes each step -/
theorem round_step {p : Nat → Int} {i j : Nat} (hi : i < n) (hj : j < n) : p (c i) + (t i j - t i (c i)) ≤ roundT n t c n p j := by
  have h1 : roundT n t c (i + 1) p j ≤ roundT n t c n p j := roundT_mono (by omega)
  have h2 : p (c i) ≤ roundT n t c i p (c i) := roundT_ge i
  have h3 : roundT n t c (i + 1) p j = rowT (roundT n t c i p (c i) - t i (c i)) (t i) n (roundT n t c i p) j := rfl
  rw [rowT_at, if_pos hj] at h3
  omega
theorem prices_ge {j : Nat} : ∀ {r r' : Nat}, r ≤ r' → pricesT n t c r j ≤ pricesT n t c r' j
  | r, 0, h => by have : r = 0 := by omega
                  subst this; exact Int.le_refl _
  | r, r' + 1, h => by
    by_cases e : r = r' + 1
    · subst e; exact Int.le_refl _
    · exact Int.le_trans (prices_ge (r := r) (r' := r') (by omega)) (roundT_ge n)
theorem prices_nn {j r : Nat} : 0 ≤ pricesT n t c r j := prices_ge (r := 0) (r' := r) (Nat.zero_le _)
/-- short walks are below the prices -/
theorem walk_le (hc : Asg n c) : ∀ (r : Nat) (l : List Nat) (e : Nat), l.length ≤ r → (∀ x, x ∈ l ++ [e] → x < n) → W t c (l ++ [e]) ≤ pricesT n t c r (c e) := by
  intro r
  induction r with
  | zero =>
    intro l e hk _
    have : l = [] := List.eq_nil_of_length_eq_zero (by omega)
    subst this
    simp [W, pricesT]
  | succ r ih =>
    intro l e hk hl
    by_cases h0 : l = []
    · subst h0
      simp only [List.nil_append, W]
      exact prices_nn
    · obtain ⟨l', a, rfl⟩ : ∃ l' a, l = l' ++ [a] := ⟨l.dropLast, l.getLast h0, (List.dropLast_concat_getLast h0).symm⟩
      have h1 := ih l' a (by simp at hk; omega) fun x hx => hl x (by simp at hx ⊢; grind)
      have ha : a < n := hl a (by simp)
      have he : e < n := hl e (by simp)
      have h2 := round_step (t := t) (c := c) (p := pricesT n t c r) ha (hc.lt e he)
      have e1 : (l' ++ [a]) ++ [e] = l' ++ a :: [e] := by simp
      rw [e1, W_split]
      simp only [W, w, pricesT]
      omega
/-- each price is a walk's -/
def Att (n : Nat) (t : Nat → Nat → Int) (c : Nat → Nat) (p : Nat → Int) : Prop := ∀ k, k < n → ∃ l, (∀ x, x ∈ l ++ [k] → x < n) ∧ W t c (l ++ [k]) = p (c k)
theorem att_row {p : Nat → Int} {i : Nat} (h : Att n t c p) (hi : i < n) : Att n t c (rowT (p (c i) - t i (c i)) (t i) n p) := by
  intro k hk
  rw [rowT_at]
  obtain ⟨l, h1, h2⟩ := h k hk
  split
  · rename_i hj
    by_cases hm : p (c k) ≤ p (c i) - t i (c i) + t i (c k)
    · obtain ⟨l', h3, h4⟩ := h i hi
      refine ⟨l' ++ [i], fun x hx => ?_, ?_⟩
      · simp only [List.mem_append, List.mem_singleton] at hx
        rcases hx with hx | hx
        · exact h3 x (by simpa using hx)
        · subst hx; exact hk
      · have e1 : (l' ++ [i]) ++ [k] = l' ++ i :: [k] := by simp
        rw [e1, W_split, h4]
        simp only [W, w]
        omega
    · exact ⟨l, h1, by rw [h2]; omega⟩
  · exact ⟨l, h1, h2⟩
theorem att_round {p : Nat → Int} (h : Att n t c p) : ∀ m, m ≤ n → Att n t c (roundT n t c m p)
  | 0, _ => h
  | m + 1, hm => att_row (att_round h m (by omega)) (by omega)
theorem att_prices : ∀ r, Att n t c (pricesT n t c r)
  | 0 => fun k hk => ⟨[], by simp; exact hk, by simp [W, pricesT]⟩
  | r + 1 => att_round (att_prices r) n (Nat.le_refl _)
/-- the prices behind n rounds -/
theorem prices_ok (h : Best n t c) (sur : ∀ j, j < n → ∃ k, k < n ∧ c k = j) (nn : ∀ i j, i < n → j < n → 0 ≤ t i j) :
    (∀ j, 0 ≤ pricesT n t c n j) ∧ (∀ i, i < n → 0 ≤ t i (c i) - pricesT n t c n (c i)) ∧ ∀ i j, i < n → j < n → t i j ≤ (t i (c i) - pricesT n t c n (c i)) + pricesT n t c n j := by
  refine ⟨fun j => prices_nn, fun i hi => ?_, fun i j hi hj => ?_⟩
  · obtain ⟨l, h1, h2⟩ := att_prices (n := n) (t := t) (c := c) n i hi
    cases l with
    | nil =>
      simp only [List.nil_append, W] at h2
      have := nn i (c i) hi (h.1.lt i hi)
      omega
    | cons a l =>
      have hc := closed_le h (l ++ [i]).length a (l ++ [i]) (Nat.le_refl _) fun x hx => h1 x (by simp at hx ⊢; grind)
      have e1 : a :: ((l ++ [i]) ++ [a]) = (a :: l) ++ i :: [a] := by simp
      rw [e1, W_split, h2] at hc
      simp only [W, w] at hc
      have := nn i (c a) hi (h.1.lt a (h1 a (by simp)))
      omega
  · obtain ⟨l, h1, h2⟩ := att_prices (n := n) (t := t) (c := c) n i hi
    obtain ⟨k, hk, rfl⟩ := sur j hj
    obtain ⟨u, h3, h4, h5⟩ := short h (l ++ [i]).length (l ++ [i]) k (Nat.le_refl _) fun x hx => by
      simp only [List.mem_append, List.mem_singleton] at hx
      rcases hx with hx | hx
      · exact h1 x (by simpa using hx)
      · subst hx; exact hk
    have h6 := walk_le (t := t) h.1 n u k (by simp at h4; omega) h3
    have e1 : (l ++ [i]) ++ [k] = l ++ i :: [k] := by simp
    rw [e1, W_split, h2] at h5
    simp only [W, w] at h5
    omega
theorem sumN_sub {f g : Nat → Int} : ∀ n, sumN n (fun i => f i - g i) = sumN n f - sumN n g
  | 0 => rfl
  | n + 1 => by simp only [sumN]; rw [sumN_sub n]; omega
end
end MA
end

section
set_option Elab.async false
set_option linter.all false
set_option maxRecDepth 100000
set_option maxHeartbeats 4000000
namespace K85
open PySem L2 DL
def li (ns : List Int) : List D := ns.map D.int
def feedD (d x : Int) : D := .lst [.int d, .int x]
theorem atI_nat' {α : Type} (xs : List α) (k : Nat) : atI xs (k : Int) = xs[k]? := by
  unfold atI ixN
  by_cases h : k < xs.length
  · simp [h]
  · simp [h]
theorem den_take {d x size : Int} (hd : 0 ≤ d) (hx : 0 ≤ x ∧ x < 4294967311) (hs : 0 < size ∧ size < 1073741824) :
    ∃ r d' x', den__law_take [feedD d x, .int size] = some (.rt (.int r) [feedD d' x', .int size]) ∧ (0 ≤ r ∧ r < size) ∧ 0 ≤ d' ∧ 0 ≤ x' ∧ x' < 4294967311 := by
  by_cases h : 0 < d
  · refine ⟨d % size, d / size, x, ?_, ⟨Int.emod_nonneg _ (by omega), Int.emod_lt_of_pos _ hs.1⟩, Int.ediv_nonneg hd (by omega), hx.1, hx.2⟩
    simp [den__law_take, sem__law_take, feedD, fnD, sSeq, sIf, sRet, sSet, sExp, sTup, sFor, sPar, M.run, M.lift, M.bind, M.of, sNx, eVar, eC, e1, e2, eB, eIf, bNot, bOr, bAnd, vAnd, vOr, vNot, eCall, sCons, sNil, eL, eT, eChain, eCut, D.toB, outsOf, slotD, bName, bTup, bsCons, bsNil, mIf, m2of, m1of, mToB, mNot, mAnd, mOr, lNil, lCons, mMv, lMv, mCall, gb, sSto, ixD, gtD, cmpD, modD, intD, divD, setD, plVar, getP, setP, h, hs.1, hs.2, atI, ixN]
  · have h0 : d = 0 := by omega
    subst h0
    let y := (x * 69069 + 12345) % 4294967311
    have hy : 0 ≤ y ∧ y < 4294967311 := ⟨Int.emod_nonneg _ (by decide), Int.emod_lt_of_pos _ (by decide)⟩
    refine ⟨(y / 65536) % size, 0, y, ?_, ⟨Int.emod_nonneg _ (by omega), Int.emod_lt_of_pos _ hs.1⟩, Int.le_refl 0, hy.1, hy.2⟩
    simp [den__law_take, sem__law_take, feedD, fnD, sSeq, sIf, sRet, sSet, sExp, sTup, sFor, sPar, M.run, M.lift, M.bind, M.of, sNx, eVar, eC, e1, e2, eB, eIf, bNot, bOr, bAnd, vAnd, vOr, vNot, eCall, sCons, sNil, eL, eT, eChain, eCut, D.toB, outsOf, slotD, bName, bTup, bsCons, bsNil, mIf, m2of, m1of, mToB, mNot, mAnd, mOr, lNil, lCons, mMv, lMv, mCall, gb, sSto, ixD, gtD, cmpD, modD, intD, divD, mulD, addD, small, setD, plVar, getP, setP, hs.1, hs.2, atI, ixN, y]
theorem den_pick {d x : Int} {cs : List D} (hd : 0 ≤ d) (hx : 0 ≤ x ∧ x < 4294967311) (hs : 0 < cs.length ∧ cs.length < 1073741824) :
    ∃ c d' x', den__law_pick [feedD d x, .lst cs] = some (.rt c [feedD d' x', .lst cs]) ∧ c ∈ cs ∧ 0 ≤ d' ∧ 0 ≤ x' ∧ x' < 4294967311 := by
  obtain ⟨r, d', x', e, hr, h1, h2, h3⟩ := den_take (size := cs.length) hd hx (by omega)
  obtain ⟨k, rfl⟩ := Int.eq_ofNat_of_zero_le hr.1
  have hk : k < cs.length := by omega
  refine ⟨cs[k], d', x', ?_, List.getElem_mem hk, h1, h2, h3⟩
  simp [den__law_pick, sem__law_pick, fnD, sSeq, sIf, sRet, sSet, sExp, sTup, sFor, sPar, M.run, M.lift, M.bind, M.of, sNx, eVar, eC, e1, e2, eB, eIf, bNot, bOr, bAnd, vAnd, vOr, vNot, eCall, sCons, sNil, eL, eT, eChain, eCut, D.toB, outsOf, slotD, bName, bTup, bsCons, bsNil, mIf, m2of, m1of, mToB, mNot, mAnd, mOr, lNil, lCons, mMv, lMv, mCall, gb, lenD, e, ixD, atI_nat', hk]
theorem den_feed {ns : List Int} (k : Nat) (hl : ns.length ≤ 63) (hk : k < 3) : ∃ d x, den__law_feed [.scr ns, .int (k : Int)] = some (.rt (feedD d x) [.scr ns, .int (k : Int)]) ∧ 0 ≤ d ∧ 0 ≤ x ∧ x < 4294967311 := by
  have hsl : ∃ (z : Int) (r : List D), cutD (ns.map D.int) (some (k : Int)) (some ((k : Int) + 1)) ++ [D.int (71 * k + 23)] = .int z :: r ∧ r.length ≤ 63 := by
    unfold cutD
    rw [← List.map_drop, ← List.map_take]
    generalize hq : List.take _ (List.drop _ ns) = q
    have hq2 : q.length ≤ 63 := by rw [← hq, List.length_take, List.length_drop]; omega
    cases q with
    | nil => exact ⟨_, [], rfl, by simp⟩
    | cons z q => exact ⟨z, q.map D.int ++ [D.int (71 * k + 23)], rfl, by simp at hq2 ⊢; omega⟩
  obtain ⟨z, r, hz, hr⟩ := hsl
  have hc : (cutD (ns.map D.int) (some (k : Int)) (some ((k : Int) + 1))).length + 1 ≤ cap := by
    have := congrArg List.length hz
    simp at this
    unfold cap; omega
  refine ⟨max 0 ((if z < 0 then -z else z) - 10 ^ 18), ((if z < 0 then -z else z) % 1000003 * 7919 + 31 * k + 17) % 1000033, ?_, by omega, Int.emod_nonneg _ (by decide), Int.lt_trans (Int.emod_lt_of_pos _ (by decide)) (by decide)⟩
  have hm : ∀ a b : Int, (if b > a then b else a) = max a b := fun a b => by split <;> omega
  have h71 : (71 * (k : Int) + 23) = ((71 * k + 23 : Nat) : Int) := by omega
  simp [den__law_feed, sem__law_feed, fnD, sSeq, sIf, sRet, sSet, sExp, sTup, sFor, sPar, M.run, M.lift, M.bind, M.of, sNx, eVar, eC, e1, e2, eB, eIf, bNot, bOr, bAnd, vAnd, vOr, vNot, eCall, sCons, sNil, eL, eT, eChain, eCut, D.toB, outsOf, slotD, bName, bTup, bsCons, bsNil, mIf, m2of, m1of, mToB, mNot, mAnd, mOr, lNil, lCons, mMv, lMv, mCall, gb, eSlice, oSome, sliceD, listD, addD, mulD, small, subD, absD, powD, modD, intD, max2D, hc, hz, ixD, feedD, atI, ixN, hr, hm, cap]
end K85
end

section
set_option Elab.async false
set_option linter.all false
set_option maxRecDepth 100000
set_option maxHeartbeats 4000000
namespace K85
open PySem L2 DL
def FeedOk (d x : Int) : Prop := 0 ≤ d ∧ 0 ≤ x ∧ x < 4294967311
def cellM : M D := mIf (M.lift (eB (e2 ltD (eVar 3) (eC (.int 4))))) (mCall (den__law_pick) [some 0, none] (lMv 0 (lCons (M.lift (eVar 5)) lNil))) (mCall (den__law_take) [some 0, none] (lMv 0 (lCons (M.lift (eC (.int 2))) lNil)))
theorem cell_run {d x way : Int} {n found row : D} {choices : List D} (hf : FeedOk d x) (hc : 0 < choices.length ∧ choices.length < 1073741824) (hnn : ∀ c ∈ choices, ∃ z : Int, c = .int z ∧ 0 ≤ z) (c6 : Option D) :
    ∃ z d' x', cellM [some (feedD d x), some n, some found, some (.int way), some row, some (.lst choices), c6] = some (.ok (.int z) [some (feedD d' x'), some n, some found, some (.int way), some row, some (.lst choices), c6]) ∧ 0 ≤ z ∧ FeedOk d' x' := by
  by_cases hw : way < 4
  · obtain ⟨c, d', x', e, hm, h1, h2, h3⟩ := den_pick hf.1 hf.2 hc
    obtain ⟨z, rfl, hz⟩ := hnn c hm
    refine ⟨z, d', x', ?_, hz, h1, h2, h3⟩
    simp [cellM, fnD, sSeq, sIf, sRet, sSet, sExp, sTup, sFor, sPar, M.run, M.lift, M.bind, M.of, sNx, eVar, eC, e1, e2, eB, eIf, bNot, bOr, bAnd, vAnd, vOr, vNot, eCall, sCons, sNil, eL, eT, eChain, eCut, D.toB, outsOf, slotD, bName, bTup, bsCons, bsNil, mIf, m2of, m1of, mToB, mNot, mAnd, mOr, lNil, lCons, mMv, lMv, mCall, gb, ltD, hw, e]
  · obtain ⟨r, d', x', e, hr, h1, h2, h3⟩ := den_take (size := 2) hf.1 hf.2 (by decide)
    refine ⟨r, d', x', ?_, hr.1, h1, h2, h3⟩
    simp [cellM, fnD, sSeq, sIf, sRet, sSet, sExp, sTup, sFor, sPar, M.run, M.lift, M.bind, M.of, sNx, eVar, eC, e1, e2, eB, eIf, bNot, bOr, bAnd, vAnd, vOr, vNot, eCall, sCons, sNil, eL, eT, eChain, eCut, D.toB, outsOf, slotD, bName, bTup, bsCons, bsNil, mIf, m2of, m1of, mToB, mNot, mAnd, mOr, lNil, lCons, mMv, lMv, mCall, gb, ltD, hw, e]
theorem rg6 {n : Nat} (h : n ≤ 6) : rgOk 0 (n : Int) = true := by
  rcases (by omega : n = 0 ∨ n = 1 ∨ n = 2 ∨ n = 3 ∨ n = 4 ∨ n = 5 ∨ n = 6) with rfl | rfl | rfl | rfl | rfl | rfl | rfl <;> decide +kernel
theorem iRg1_run {p : Rho → Option D} {ρ : Rho} {n : Nat} (h : p ρ = some (.int n)) (hn : n ≤ 6) : iRg1 p ρ = some (rgD 0 n) := by
  unfold iRg1
  rw [h, Option.bind_some]
  simp only
  rw [if_pos (rg6 hn)]
theorem tupleD_lst {ds : List D} (h : ds.length ≤ cap) : tupleD (.lst ds) = some (.tup ds) := by
  rfl
theorem appD_lst {ds : List D} {d : D} (h : ds.length < cap) : appD (.lst ds) [d] = some (.lst (ds ++ [d]), .non) := by
  unfold appD
  simp only
  rw [if_pos h]
theorem le_cap {n : Nat} (h : n ≤ 1000) : n ≤ cap := Nat.le_trans h (by decide +kernel)
theorem lt_cap {n : Nat} (h : n ≤ 1000) : n < cap := Nat.lt_of_le_of_lt h (by decide +kernel)
theorem mbY_ap (ρ : Rho) : mbY ρ = some (.ok true ρ) := rfl
theorem row_loop {way : Int} {n found row : D} {choices : List D} (hc : 0 < choices.length ∧ choices.length < 1073741824) (hnn : ∀ c ∈ choices, ∃ z : Int, c = .int z ∧ 0 ≤ z) : ∀ (ds acc : List D) (d x : Int), FeedOk d x →
    ∃ (r : List Int) (d' x' : Int), compMl [6] (bName 6) mbY cellM ds acc [some (feedD d x), some n, some found, some (.int way), some row, some (.lst choices), none] = some (acc ++ li r, [some (feedD d' x'), some n, some found, some (.int way), some row, some (.lst choices), none]) ∧
      r.length = ds.length ∧ (∀ z ∈ r, 0 ≤ z) ∧ FeedOk d' x'
  | [], acc, d, x, hf => ⟨[], d, x, by simp [compMl, li], rfl, by simp, hf⟩
  | e :: ds, acc, d, x, hf => by
    obtain ⟨z, d1, x1, h1, hz, hf1⟩ := cell_run (way := way) (n := n) (found := found) (row := row) hf hc hnn (some e)
    obtain ⟨r, d2, x2, h2, hl, hr, hf2⟩ := row_loop (way := way) (n := n) (found := found) (row := row) hc hnn ds (acc ++ [.int z]) d1 x1 hf1
    refine ⟨z :: r, d2, x2, ?_, by simp [hl], fun y hy => ?_, hf2⟩
    · simp [compMl, bName, mbY_ap, h1, wipeR, h2, li]
    · rcases List.mem_cons.mp hy with rfl | hy
      · exact hz
      · exact hr y hy
def enc (T : List (List Int)) : List D := T.map fun r => .tup (li r)
theorem enc_snoc (T : List (List Int)) (r : List Int) : enc (T ++ [r]) = enc T ++ [.tup (li r)] := by simp [enc]
theorem enc_len (T : List (List Int)) : (enc T).length = T.length := by simp [enc]
theorem li_len (r : List Int) : (li r).length = r.length := by simp [li]
def someE : Rho → Option D := eIf (eB (e2 ltD (eVar 3) (eC (.int 3)))) (eL (sCons (eC (.int 0)) (sCons (eC (.int 0)) (sCons (eC (.int 1)) (sCons (eC (.int 2)) (sCons (eC (.int 3)) (sCons (eC (.int 7)) sNil))))))) (eL (sCons (eC (.int 0)) (sCons (eC (.int 1)) (sCons (e2 powD (eC (.int 10)) (eC (.int 18))) (sCons (e2 subD (e2 powD (eC (.int 10)) (eC (.int 18))) (eC (.int 1))) (sCons (e2 powD (eC (.int 10)) (eC (.int 9))) (sCons (eC (.int 5)) sNil)))))))
theorem some_run (way : Int) (a b c e f g : Option D) : ∃ choices : List D, someE [a, b, c, some (.int way), e, f, g] = some (.lst choices) ∧ (0 < choices.length ∧ choices.length < 1073741824) ∧ ∀ c ∈ choices, ∃ z : Int, c = .int z ∧ 0 ≤ z := by
  by_cases hw : way < 3
  · refine ⟨[.int 0, .int 0, .int 1, .int 2, .int 3, .int 7], ?_, by decide, by simp⟩
    simp [someE, fnD, sSeq, sIf, sRet, sSet, sExp, sTup, sFor, sPar, M.run, M.lift, M.bind, M.of, sNx, eVar, eC, e1, e2, eB, eIf, bNot, bOr, bAnd, vAnd, vOr, vNot, eCall, sCons, sNil, eL, eT, eChain, eCut, D.toB, outsOf, slotD, bName, bTup, bsCons, bsNil, mIf, m2of, m1of, mToB, mNot, mAnd, mOr, lNil, lCons, mMv, lMv, mCall, gb, ltD, hw, cap]
  · refine ⟨[.int 0, .int 1, .int (10 ^ 18), .int (10 ^ 18 - 1), .int (10 ^ 9), .int 5], ?_, by decide, by simp⟩
    simp [someE, fnD, sSeq, sIf, sRet, sSet, sExp, sTup, sFor, sPar, M.run, M.lift, M.bind, M.of, sNx, eVar, eC, e1, e2, eB, eIf, bNot, bOr, bAnd, vAnd, vOr, vNot, eCall, sCons, sNil, eL, eT, eChain, eCut, D.toB, outsOf, slotD, bName, bTup, bsCons, bsNil, mIf, m2of, m1of, mToB, mNot, mAnd, mOr, lNil, lCons, mMv, lMv, mCall, gb, ltD, hw, cap, powD, subD]
def tabB : SM := sSeq (sSet 5 (M.lift someE)) (sExp (mMu 2 appD (lCons (m1of tupleD (mComp [6] (iRg1 (eVar 1)) (bName 6) mbY cellM)) lNil)))
theorem rgD_len (n : Nat) : (rgD 0 (n : Int)).length = n := by simp [rgD]
theorem mComp_run {ws : List Nat} {items : Rho → Option (List D)} {bind : D → Rho → Option Rho} {mt : M Bool} {ma : M D} {ρ : Rho} {ds : List D} {r : List D × Rho} (hi : items ρ = some ds) (h : compMl ws bind mt ma ds [] (wipeR ρ ws) = some r) : mComp ws items bind mt ma ρ = some (.ok (.lst r.1) r.2) := by
  unfold mComp
  rw [hi, Option.bind_some, h]
  rfl
theorem mMu_run {i : Nat} {f : D → List D → Option (D × D)} {ml : M (List D)} {ρ ρ' : Rho} {d x x' y : D} {ds : List D} (hd : slotD ρ i = some d) (hl : isLst d = true) (hm : ml ρ = some (.ok ds ρ')) (hx : slotD ρ' i = some x) (hf : f x ds = some (x', y)) : mMu i f ml ρ = some (.ok y (ρ'.set i (some x'))) := by
  unfold mMu
  rw [hd, Option.bind_some, if_pos hl]
  unfold M.bind
  rw [hm]
  simp only [hx, Option.bind_some, hf, Option.map_some]
theorem lift_run {α : Type} {p : Rho → Option α} {ρ : Rho} {a : α} (h : p ρ = some a) : M.lift p ρ = some (.ok a ρ) := by
  unfold M.lift
  rw [h]; rfl
theorem m1of_run {f : D → Option D} {ma : M D} {ρ ρ' : Rho} {a b : D} (h : ma ρ = some (.ok a ρ')) (hf : f a = some b) : m1of f ma ρ = some (.ok b ρ') := by
  unfold m1of M.bind
  rw [h]
  simp only [M.of, hf, Option.map_some]
theorem l1_run {ma : M D} {ρ ρ' : Rho} {a : D} (h : ma ρ = some (.ok a ρ')) : lCons ma lNil ρ = some (.ok [a] ρ') := by
  unfold lCons M.bind
  rw [h]
  rfl
theorem set_run {m : M D} {ρ ρ' : Rho} {d : D} {i : Nat} (h : m ρ = some (.ok d ρ')) : sSet i m ρ = some (.nx (ρ'.set i (some d))) := by
  unfold sSet M.run
  rw [h]
theorem exp_run {m : M D} {ρ ρ' : Rho} {d : D} (h : m ρ = some (.ok d ρ')) : sExp m ρ = some (.nx ρ') := by
  unfold sExp M.run
  rw [h]
  rfl
theorem ret_run {m : M D} {ρ ρ' : Rho} {d : D} (h : m ρ = some (.ok d ρ')) : sRet m ρ = some (.rt d ρ') := by
  unfold sRet M.run
  rw [h]
theorem seq_run {a b : SM} {ρ ρ' : Rho} {r : Option SR} (h : a ρ = some (.nx ρ')) (hb : b ρ' = r) : sSeq a b ρ = r := by
  unfold sSeq
  rw [h]
  exact hb
theorem seq_rt {a b : SM} {ρ ρ' : Rho} {d : D} (h : a ρ = some (.rt d ρ')) : sSeq a b ρ = some (.rt d ρ') := by
  unfold sSeq
  rw [h]
theorem if_t {t : M Bool} {a b : SM} {ρ ρ' : Rho} {r : Option SR} (h : t ρ = some (.ok true ρ')) (hb : a ρ' = r) : sIf t a b ρ = r := by
  unfold sIf M.run
  rw [h]
  exact hb
theorem if_f {t : M Bool} {a b : SM} {ρ ρ' : Rho} {r : Option SR} (h : t ρ = some (.ok false ρ')) (hb : b ρ' = r) : sIf t a b ρ = r := by
  unfold sIf M.run
  rw [h]
  exact hb
theorem for_run {items : Rho → Option (List D)} {bind : D → Rho → Option Rho} {body : SM} {ρ : Rho} {ds : List D} {r : Option SR} (h : items ρ = some ds) (hb : loopF bind body ds ρ = r) : sFor items bind body ρ = r := by
  unfold sFor
  rw [h, Option.bind_some]
  exact hb
theorem loop_cons {bind : D → Rho → Option Rho} {body : SM} {ρ ρ1 ρ2 : Rho} {d : D} {ds : List D} {r : Option SR} (h1 : bind d ρ = some ρ1) (h2 : body ρ1 = some (.nx ρ2)) (h3 : loopF bind body ds ρ2 = r) : loopF bind body (d :: ds) ρ = r := by
  unfold loopF
  rw [h1, Option.bind_some, h2]
  exact h3
theorem fn_rt {n : Nat} {ks : List Nat} {body : SM} {ds outs : List D} {d : D} {ρ : Rho} (h : body (ds.map some ++ List.replicate (n - ds.length) none) = some (.rt d ρ)) (ho : outsOf ks ds ρ = some outs) : fnD n ks body ds = some (.rt d outs) := by
  unfold fnD
  rw [h]
  simp only [ho, Option.map_some]
theorem tab_body {n : Nat} {way : Int} {T : List (List Int)} {row : D} {f g : Option D} {d x : Int} (hn : n ≤ 6) (hT : T.length < 6) (hf : FeedOk d x) :
    ∃ (r : List Int) (some5 : Option D) (d' x' : Int), tabB [some (feedD d x), some (.int n), some (.lst (enc T)), some (.int way), some row, f, g] = some (.nx [some (feedD d' x'), some (.int n), some (.lst (enc (T ++ [r]))), some (.int way), some row, some5, none]) ∧ r.length = n ∧ (∀ z ∈ r, 0 ≤ z) ∧ FeedOk d' x' := by
  obtain ⟨choices, h1, h2, h3⟩ := some_run way (some (feedD d x)) (some (.int n)) (some (.lst (enc T))) (some row) f g
  obtain ⟨r, d', x', h4, h5, h6, h7⟩ := row_loop (way := way) (n := .int n) (found := .lst (enc T)) (row := row) h2 h3 (rgD 0 n) [] d x hf
  refine ⟨r, some (.lst choices), d', x', ?_, by rw [h5, rgD_len], h6, h7⟩
  have hr : r.length ≤ cap := le_cap (by rw [h5, rgD_len]; omega)
  have hrg : rgOk 0 (n : Int) = true := rg6 hn
  have hc : T.length < cap := lt_cap (by omega)
  have hi : iRg1 (eVar 1) [some (feedD d x), some (.int n), some (.lst (enc T)), some (.int way), some row, some (.lst choices), g] = some (rgD 0 n) := iRg1_run (by rfl) hn
  have hr' := tupleD_lst (ds := li r) (by rw [li_len]; exact hr)
  have hc' := appD_lst (ds := enc T) (d := .tup (li r)) (by rw [enc_len]; exact hc)
  rw [List.nil_append] at h4
  have a1 := m1of_run (mComp_run (mt := mbY) (ma := cellM) (ws := [6]) (bind := bName 6) hi h4) hr'
  have a2 := mMu_run (i := 2) (ρ := [some (feedD d x), some (.int n), some (.lst (enc T)), some (.int way), some row, some (.lst choices), g]) rfl rfl (l1_run a1) rfl hc'
  rw [← enc_snoc] at a2
  exact seq_run (set_run (lift_run h1)) (exp_run a2)
theorem tab_loop {n : Nat} {way : Int} (hn : n ≤ 6) : ∀ (ds : List D) (T : List (List Int)) (c4 f g : Option D) (d x : Int), T.length + ds.length ≤ 6 → FeedOk d x → (∀ r ∈ T, r.length = n ∧ ∀ z ∈ r, 0 ≤ z) →
    ∃ (T' : List (List Int)) (c4' f' g' : Option D) (d' x' : Int), loopF (bName 4) tabB ds [some (feedD d x), some (.int n), some (.lst (enc T)), some (.int way), c4, f, g] = some (.nx [some (feedD d' x'), some (.int n), some (.lst (enc T')), some (.int way), c4', f', g']) ∧
      T'.length = T.length + ds.length ∧ (∀ r ∈ T', r.length = n ∧ ∀ z ∈ r, 0 ≤ z) ∧ FeedOk d' x'
  | [], T, c4, f, g, d, x, hl, hf, hT => ⟨T, c4, f, g, d, x, rfl, rfl, hT, hf⟩
  | e :: ds, T, c4, f, g, d, x, hl, hf, hT => by
    simp only [List.length_cons] at hl
    obtain ⟨r, s5, d1, x1, h1, h2, h3, h4⟩ := tab_body (n := n) (way := way) (T := T) (row := e) (f := f) (g := g) hn (by omega) hf
    obtain ⟨T', c4', f', g', d2, x2, k1, k2, k3, k4⟩ := tab_loop (way := way) hn ds (T ++ [r]) (some e) s5 none d1 x1 (by simp; omega) h4 (fun q hq => by
      rcases List.mem_append.mp hq with hq | hq
      · exact hT q hq
      · have : q = r := by simpa using hq
        subst this; exact ⟨h2, h3⟩)
    refine ⟨T', c4', f', g', d2, x2, ?_, by rw [k2]; simp; omega, k3, k4⟩
    simp only [loopF, bName, List.set_cons_succ, List.set_cons_zero, Option.bind_some, h1]
    exact k1
theorem den_table {n : Nat} {d x : Int} (hn : n ≤ 6) (hf : FeedOk d x) : ∃ (T : List (List Int)) (d' x' : Int), den__law_table [feedD d x, .int n] = some (.rt (.tup (enc T)) [feedD d' x', .int n]) ∧ T.length = n ∧ (∀ r ∈ T, r.length = n ∧ ∀ z ∈ r, 0 ≤ z) ∧ FeedOk d' x' := by
  obtain ⟨w, d1, x1, e, hw, h1, h2, h3⟩ := den_take (size := 5) hf.1 hf.2 (by decide)
  obtain ⟨T', c4', f', g', d2, x2, k1, k2, k3, k4⟩ := tab_loop (way := w) hn (rgD 0 n) [] none none none d1 x1 (by rw [rgD_len]; simp; omega) ⟨h1, h2, h3⟩ (by simp)
  refine ⟨T', d2, x2, ?_, by rw [k2, rgD_len]; simp, k3, k4⟩
  have hrg : rgOk 0 (n : Int) = true := rg6 hn
  have hl : (enc T').length ≤ cap := le_cap (by rw [enc_len, k2, rgD_len]; simp; omega)
  have hc : 0 ≤ cap := Nat.zero_le _
  have k1' : loopF (bName 4) tabB (rgD 0 n) [some (feedD d1 x1), some (.int n), some (.lst []), some (.int w), none, none, none] = some (.nx [some (feedD d2 x2), some (.int n), some (.lst (enc T')), some (.int w), c4', f', g']) := k1
  show den__law_table _ = _
  unfold den__law_table
  have hs : sem__law_table = sSeq (sSet 2 (M.lift (eL sNil))) (sSeq (sSet 3 (mCall (den__law_take) [some 0, none] (lMv 0 (lCons (M.lift (eC (.int 5))) lNil)))) (sSeq (sFor (iRg1 (eVar 1)) (bName 4) tabB) (sRet (M.lift (e1 tupleD (eVar 2)))))) := rfl
  rw [hs]
  have hi : iRg1 (eVar 1) [some (feedD d1 x1), some (.int n), some (.lst []), some (.int w), none, none, none] = some (rgD 0 n) := iRg1_run (by rfl) hn
  have hl' := tupleD_lst hl
  have b0 : M.lift (eL sNil) [some (feedD d x), some (.int n), none, none, none, none, none] = some (.ok (.lst []) [some (feedD d x), some (.int n), none, none, none, none, none]) := by simp [fnD, sSeq, sIf, sRet, sSet, sExp, sTup, sFor, sPar, M.run, M.lift, M.bind, M.of, sNx, eVar, eC, e1, e2, eB, eIf, bNot, bOr, bAnd, vAnd, vOr, vNot, eCall, sCons, sNil, eL, eT, eChain, eCut, D.toB, outsOf, slotD, bName, bTup, bsCons, bsNil, mIf, m2of, m1of, mToB, mNot, mAnd, mOr, lNil, lCons, mMv, lMv, mCall, gb]
  have b1 : mCall (den__law_take) [some 0, none] (lMv 0 (lCons (M.lift (eC (.int 5))) lNil)) [some (feedD d x), some (.int n), some (.lst []), none, none, none, none] = some (.ok (.int w) [some (feedD d1 x1), some (.int n), some (.lst []), none, none, none, none]) := by simp [fnD, sSeq, sIf, sRet, sSet, sExp, sTup, sFor, sPar, M.run, M.lift, M.bind, M.of, sNx, eVar, eC, e1, e2, eB, eIf, bNot, bOr, bAnd, vAnd, vOr, vNot, eCall, sCons, sNil, eL, eT, eChain, eCut, D.toB, outsOf, slotD, bName, bTup, bsCons, bsNil, mIf, m2of, m1of, mToB, mNot, mAnd, mOr, lNil, lCons, mMv, lMv, mCall, gb, e]
  have b2 : M.lift (e1 tupleD (eVar 2)) [some (feedD d2 x2), some (.int n), some (.lst (enc T')), some (.int w), c4', f', g'] = some (.ok (.tup (enc T')) [some (feedD d2 x2), some (.int n), some (.lst (enc T')), some (.int w), c4', f', g']) := lift_run (by simp [e1, eVar, hl'])
  exact fn_rt (seq_run (set_run b0) (seq_run (set_run b1) (seq_run (for_run hi k1') (ret_run b2)))) (by simp [outsOf])
end K85
end

section
set_option Elab.async false
set_option linter.all false
set_option maxRecDepth 100000
set_option maxHeartbeats 4000000
namespace K85
open PySem L2 DL
theorem eqv_int (a b : Int) : eqv (.int a) (.int b) = (a == b) := rfl
theorem eqD_int (a b : Int) : eqD (.int a) (.int b) = some (.bl (a == b)) := rfl
theorem neD_int (a b : Int) : neD (.int a) (.int b) = some (.bl (!(a == b))) := rfl
def ln (ns : List Nat) : List D := ns.map fun n : Nat => D.int (n : Int)
theorem ln_len (ns : List Nat) : (ln ns).length = ns.length := by simp [ln]
theorem compL_cons {f : D → Option (Option D)} {d : D} {ds r : List D} (x : Option D) (h : f d = some x) (hr : compL f ds = some r) : compL f (d :: ds) = some (x.toList ++ r) := by
  unfold compL
  rw [h, Option.bind_some, hr]
  cases x <;> rfl
/-- a comprehension over ds, by what each turn gives -/
theorem compL_map {f : D → Option (Option D)} {α : Type} (g : α → D) (k : α → Option D) : ∀ (as : List α), (∀ a ∈ as, f (g a) = some (k a)) → compL f (as.map g) = some (as.filterMap k)
  | [], _ => rfl
  | a :: as, h => by
    rw [List.map_cons, compL_cons (k a) (h a (by simp)) (compL_map g k as fun b hb => h b (by simp [hb]))]
    cases hk : k a <;> simp [hk]
theorem comp_run {ws : List Nat} {items : Rho → Option (List D)} {bind : D → Rho → Option Rho} {tb : Rho → Option Bool} {p : Rho → Option D} {ρ : Rho} {ds r : List D} (hi : items ρ = some ds) (h : compL (compF ρ ws bind tb p) ds = some r) : eComp ws items bind tb p ρ = some (.lst r) := by
  unfold eComp
  rw [hi, Option.bind_some, h]; rfl
theorem compF_run {ws : List Nat} {bind : D → Rho → Option Rho} {tb : Rho → Option Bool} {p : Rho → Option D} {ρ ρ1 : Rho} {d : D} {b : Bool} {x : D} (h1 : bind d (wipeR ρ ws) = some ρ1) (h2 : tb ρ1 = some b) (h3 : b = true → p ρ1 = some x) : compF ρ ws bind tb p d = some (if b = true then some x else none) := by
  unfold compF
  rw [h1, Option.bind_some, h2, Option.bind_some]
  cases b with
  | true => simp [h3 rfl]
  | false => rfl
theorem call_run {den : Den} {psm : Rho → Option (List D)} {ρ : Rho} {ds outs : List D} {d : D} (h1 : psm ρ = some ds) (h2 : den ds = some (.rt d outs)) : eCall den psm ρ = some d := by
  unfold eCall
  rw [h1, Option.bind_some, h2]
theorem tup_run {bind : D → Rho → Option Rho} {ma : M D} {ρ ρ' ρ2 : Rho} {d : D} (h : ma ρ = some (.ok d ρ')) (hb : bind d ρ' = some ρ2) : sTup bind ma ρ = some (.nx ρ2) := by
  unfold sTup M.run
  rw [h]
  simp only [hb, Option.map_some]
/-- a cell -/
def cell (T : List (List Int)) (i j : Nat) : Int := (T.getD i []).getD j 0
theorem ix_cell {T : List (List Int)} {n i j : Nat} (hT : ∀ r ∈ T, r.length = n ∧ ∀ z ∈ r, 0 ≤ z) (hi : i < T.length) (hj : j < n) : (ixD (.tup (enc T)) (.int (i : Int))).bind (fun x => ixD x (.int (j : Int))) = some (.int (cell T i j)) := by
  have h1 : ixD (.tup (enc T)) (.int (i : Int)) = some (.tup (li T[i])) := by
    show atI (enc T) (i : Int) = _
    rw [atI_nat', enc, List.getElem?_map, List.getElem?_eq_getElem hi]; rfl
  have hr : T[i].length = n := (hT _ (List.getElem_mem hi)).1
  have hj' : j < T[i].length := by omega
  rw [h1, Option.bind_some]
  show atI (li T[i]) (j : Int) = _
  rw [atI_nat', li, List.getElem?_map, List.getElem?_eq_getElem hj']
  simp [cell, hi, hj']
theorem ix_row {T : List (List Int)} {i : Nat} (hi : i < T.length) : ixD (.tup (enc T)) (.int (i : Int)) = some (.tup (li T[i])) := by
  show atI (enc T) (i : Int) = _
  rw [atI_nat', enc, List.getElem?_map, List.getElem?_eq_getElem hi]; rfl
/-- the best way to give columns of those free to the rows from row on -/
def stepF (T : List (List Int)) (rec : List Nat → Int × List Nat) (row : Nat) (free : List Nat) (found : Int × List Nat) (col : Nat) : Int × List Nat :=
  let b := rec (free.filter fun x => x != col)
  if cell T row col + b.1 > found.1 then (cell T row col + b.1, col :: b.2) else found
def bestF (T : List (List Int)) : Nat → Nat → List Nat → Int × List Nat
  | 0, _, _ => (0, [])
  | j + 1, row, free => if row = T.length then (0, []) else free.foldl (stepF T (bestF T j (row + 1)) row free) (-1, [])
def encB (b : Int × List Nat) : D := .tup [.int b.1, .lst (ln b.2)]
section
variable {T : List (List Int)} {n : Nat}
def bodyB (den : Den) : SM := sSeq (sTup (bTup (bsCons (bName 5) (bsCons (bName 6) bsNil))) (M.lift (eCall den (sCons (eVar 0) (sCons (e2 addD (eVar 1) (eC (.int 1))) (sCons (eComp [7] (iItems (eVar 2)) (bName 7) (eB (e2 neD (eVar 7) (eVar 4))) (eVar 7)) sNil))))))
    (sIf (M.lift (eB (e2 gtD (e2 addD (e2 ixD (e2 ixD (eVar 0) (eVar 1)) (eVar 4)) (eVar 5)) (e2 ixD (eVar 3) (eC (.int 0))))))
    (sSet 3 (M.lift (eT (sCons (e2 addD (e2 ixD (e2 ixD (eVar 0) (eVar 1)) (eVar 4)) (eVar 5)) (sCons (e2 addD (eL (sCons (eVar 4) sNil)) (eVar 6)) sNil)))))
    sNx)
theorem filter_run {a b : D} {free : List Nat} {col : Nat} {c3 c5 c6 : Option D} : eComp [7] (iItems (eVar 2)) (bName 7) (eB (e2 neD (eVar 7) (eVar 4))) (eVar 7) [some a, some b, some (.lst (ln free)), c3, some (.int (col : Int)), c5, c6, none] = some (.lst (ln (free.filter fun x => x != col))) := by
  have h := compL_map (f := compF [some a, some b, some (.lst (ln free)), c3, some (.int (col : Int)), c5, c6, none] [7] (bName 7) (eB (e2 neD (eVar 7) (eVar 4))) (eVar 7)) (fun n : Nat => D.int (n : Int)) (fun x => if (!((x : Int) == (col : Int))) = true then some (D.int (x : Int)) else none) free fun x hx => compF_run (ρ1 := [some a, some b, some (.lst (ln free)), c3, some (.int (col : Int)), c5, c6, some (.int (x : Int))]) rfl rfl fun _ => rfl
  have e : (free.filterMap fun x : Nat => if (!((x : Int) == (col : Int))) = true then some (D.int (x : Int)) else none) = ln (free.filter fun x => x != col) := by
    clear h
    induction free with
    | nil => rfl
    | cons x free ih =>
      by_cases hx : x = col
      · subst hx
        simp [ln] at ih ⊢
        exact ih
      · have hx' : ¬ ((x : Int) = (col : Int)) := by omega
        simp [ln, hx, hx'] at ih ⊢
        exact ih
  rw [e] at h
  exact comp_run (by rfl) h
theorem body_run {den : Den} {rec : List Nat → Int × List Nat} {row col : Nat} {free : List Nat} {found : Int × List Nat} {c5 c6 : Option D} (hT : ∀ r ∈ T, r.length = n ∧ ∀ z ∈ r, 0 ≤ z) (hrow : row < T.length) (hcol : col < n)
    (hrec : ∃ outs, den [.tup (enc T), .int ((row : Int) + 1), .lst (ln (free.filter fun x => x != col))] = some (.rt (encB (rec (free.filter fun x => x != col))) outs)) (hlen : (rec (free.filter fun x => x != col)).2.length ≤ 100) :
    ∃ c5' c6', bodyB den [some (.tup (enc T)), some (.int (row : Int)), some (.lst (ln free)), some (encB found), some (.int (col : Int)), c5, c6, none] = some (.nx [some (.tup (enc T)), some (.int (row : Int)), some (.lst (ln free)), some (encB (stepF T rec row free found col)), some (.int (col : Int)), c5', c6', none]) := by
  obtain ⟨outs, hrec⟩ := hrec
  generalize hb : rec (free.filter fun x => x != col) = b at hrec hlen
  refine ⟨some (.int b.1), some (.lst (ln b.2)), ?_⟩
  have h1 : M.lift (eCall den (sCons (eVar 0) (sCons (e2 addD (eVar 1) (eC (.int 1))) (sCons (eComp [7] (iItems (eVar 2)) (bName 7) (eB (e2 neD (eVar 7) (eVar 4))) (eVar 7)) sNil)))) [some (.tup (enc T)), some (.int (row : Int)), some (.lst (ln free)), some (encB found), some (.int (col : Int)), c5, c6, none] = some (.ok (encB b) [some (.tup (enc T)), some (.int (row : Int)), some (.lst (ln free)), some (encB found), some (.int (col : Int)), c5, c6, none]) := by
    refine lift_run (call_run (ds := [.tup (enc T), .int ((row : Int) + 1), .lst (ln (free.filter fun x => x != col))]) ?_ hrec)
    simp only [sCons, sNil, filter_run, Option.bind_some, Option.map_some]
    rfl
  have hv : e2 addD (e2 ixD (e2 ixD (eVar 0) (eVar 1)) (eVar 4)) (eVar 5) [some (.tup (enc T)), some (.int (row : Int)), some (.lst (ln free)), some (encB found), some (.int (col : Int)), some (.int b.1), some (.lst (ln b.2)), none] = some (.int (cell T row col + b.1)) := by
    have := ix_cell hT hrow hcol
    rw [ix_row hrow, Option.bind_some] at this
    simp [e2, eVar, ix_row hrow, this, addD]
  have ht : M.lift (eB (e2 gtD (e2 addD (e2 ixD (e2 ixD (eVar 0) (eVar 1)) (eVar 4)) (eVar 5)) (e2 ixD (eVar 3) (eC (.int 0))))) [some (.tup (enc T)), some (.int (row : Int)), some (.lst (ln free)), some (encB found), some (.int (col : Int)), some (.int b.1), some (.lst (ln b.2)), none] = some (.ok (decide (found.1 < cell T row col + b.1)) [some (.tup (enc T)), some (.int (row : Int)), some (.lst (ln free)), some (encB found), some (.int (col : Int)), some (.int b.1), some (.lst (ln b.2)), none]) := by
    refine lift_run ?_
    unfold eB
    have : e2 gtD (e2 addD (e2 ixD (e2 ixD (eVar 0) (eVar 1)) (eVar 4)) (eVar 5)) (e2 ixD (eVar 3) (eC (.int 0))) [some (.tup (enc T)), some (.int (row : Int)), some (.lst (ln free)), some (encB found), some (.int (col : Int)), some (.int b.1), some (.lst (ln b.2)), none] = some (.bl (decide (found.1 < cell T row col + b.1))) := by
      unfold e2 at hv ⊢
      rw [hv]
      rfl
    rw [this]; rfl
  refine seq_run (tup_run h1 rfl) ?_
  by_cases hc : found.1 < cell T row col + b.1
  · rw [decide_eq_true hc] at ht
    refine if_t ht ?_
    have hs : stepF T rec row free found col = (cell T row col + b.1, col :: b.2) := by
      unfold stepF
      rw [hb]
      exact if_pos hc
    rw [hs]
    have hl : eT (sCons (e2 addD (e2 ixD (e2 ixD (eVar 0) (eVar 1)) (eVar 4)) (eVar 5)) (sCons (e2 addD (eL (sCons (eVar 4) sNil)) (eVar 6)) sNil)) [some (.tup (enc T)), some (.int (row : Int)), some (.lst (ln free)), some (encB found), some (.int (col : Int)), some (.int b.1), some (.lst (ln b.2)), none] = some (encB (cell T row col + b.1, col :: b.2)) := by
      have h2 : e2 addD (eL (sCons (eVar 4) sNil)) (eVar 6) [some (.tup (enc T)), some (.int (row : Int)), some (.lst (ln free)), some (encB found), some (.int (col : Int)), some (.int b.1), some (.lst (ln b.2)), none] = some (.lst (ln (col :: b.2))) := by
        have : addD (.lst [.int (col : Int)]) (.lst (ln b.2)) = some (.lst ([.int (col : Int)] ++ ln b.2)) := by
          unfold addD
          simp only
          rw [if_pos (le_cap (by rw [ln_len]; simp; omega))]
        unfold e2
        have e1 : eL (sCons (eVar 4) sNil) [some (.tup (enc T)), some (.int (row : Int)), some (.lst (ln free)), some (encB found), some (.int (col : Int)), some (.int b.1), some (.lst (ln b.2)), none] = some (.lst [.int (col : Int)]) := by
          show (if ([D.int (col : Int)]).length ≤ cap then some (D.lst [D.int (col : Int)]) else none) = _
          exact if_pos (le_cap (by simp))
        rw [e1, Option.bind_some]
        exact this
      have h3 : sCons (e2 addD (e2 ixD (e2 ixD (eVar 0) (eVar 1)) (eVar 4)) (eVar 5)) (sCons (e2 addD (eL (sCons (eVar 4) sNil)) (eVar 6)) sNil) [some (.tup (enc T)), some (.int (row : Int)), some (.lst (ln free)), some (encB found), some (.int (col : Int)), some (.int b.1), some (.lst (ln b.2)), none] = some [.int (cell T row col + b.1), .lst (ln (col :: b.2))] := by
        simp only [sCons, hv, h2, sNil, Option.bind_some, Option.map_some]
      unfold eT
      rw [h3, Option.bind_some]
      show (if ([D.int (cell T row col + b.1), D.lst (ln (col :: b.2))]).length ≤ cap then some (D.tup [D.int (cell T row col + b.1), D.lst (ln (col :: b.2))]) else none) = _
      exact if_pos (le_cap (by simp))
    exact set_run (lift_run hl)
  · rw [decide_eq_false hc] at ht
    refine if_f ht ?_
    have hs : stepF T rec row free found col = found := by
      unfold stepF
      rw [hb]
      exact if_neg hc
    rw [hs]
    rfl
theorem loop_best {den : Den} {rec : List Nat → Int × List Nat} {row : Nat} {free : List Nat} (hT : ∀ r ∈ T, r.length = n ∧ ∀ z ∈ r, 0 ≤ z) (hrow : row < T.length) :
    ∀ (cols : List Nat) (found : Int × List Nat) (c4 c5 c6 : Option D), (∀ col ∈ cols, col < n ∧ (∃ outs, den [.tup (enc T), .int ((row : Int) + 1), .lst (ln (free.filter fun x => x != col))] = some (.rt (encB (rec (free.filter fun x => x != col))) outs)) ∧ (rec (free.filter fun x => x != col)).2.length ≤ 100) →
    ∃ c4' c5' c6', loopF (bName 4) (bodyB den) (ln cols) [some (.tup (enc T)), some (.int (row : Int)), some (.lst (ln free)), some (encB found), c4, c5, c6, none] = some (.nx [some (.tup (enc T)), some (.int (row : Int)), some (.lst (ln free)), some (encB (cols.foldl (stepF T rec row free) found)), c4', c5', c6', none])
  | [], found, c4, c5, c6, _ => ⟨c4, c5, c6, rfl⟩
  | col :: cols, found, c4, c5, c6, h => by
    obtain ⟨h1, h2, h3⟩ := h col (by simp)
    obtain ⟨c5', c6', hb⟩ := body_run (c5 := c5) (c6 := c6) (found := found) hT hrow h1 h2 h3
    obtain ⟨d4, d5, d6, hl⟩ := loop_best hT hrow cols (stepF T rec row free found col) (some (.int (col : Int))) c5' c6' fun c hc => h c (by simp [hc])
    exact ⟨d4, d5, d6, loop_cons rfl hb hl⟩
theorem bestF_len : ∀ (j row : Nat) (free : List Nat), (bestF T j row free).2.length ≤ j
  | 0, row, free => by simp [bestF]
  | j + 1, row, free => by
    unfold bestF
    split
    · simp
    · have : ∀ (cols : List Nat) (found : Int × List Nat), found.2.length ≤ j + 1 → (cols.foldl (stepF T (bestF T j (row + 1)) row free) found).2.length ≤ j + 1 := by
        intro cols
        induction cols with
        | nil => intro found h; exact h
        | cons col cols ih =>
          intro found h
          refine ih _ ?_
          unfold stepF
          simp only
          split
          · have := bestF_len j (row + 1) (free.filter fun x => x != col)
            simp; omega
          · exact h
      exact this free _ (by simp)
theorem den_best (hT : ∀ r ∈ T, r.length = n ∧ ∀ z ∈ r, 0 ≤ z) (hn : T.length ≤ 6) : ∀ (j row : Nat) (free : List Nat), row ≤ T.length → T.length < row + j → j ≤ 8 → (∀ c ∈ free, c < n) →
    den_best_from j [.tup (enc T), .int (row : Int), .lst (ln free)] = some (.rt (encB (bestF T j row free)) [.tup (enc T), .int (row : Int), .lst (ln free)])
  | 0, row, free, h1, h2, _, _ => by omega
  | j + 1, row, free, h1, h2, hj, hf => by
    have hs : sem_best_from (den_best_from j) = sSeq (sIf (M.lift (eB (e2 eqD (eVar 1) (e1 lenD (eVar 0))))) (sRet (M.lift (eT (sCons (eC (.int 0)) (sCons (eL sNil) sNil))))) sNx)
      (sSeq (sSet 3 (M.lift (eT (sCons (e1 negD (eC (.int 1))) (sCons (eL sNil) sNil))))) (sSeq (sFor (iItems (eVar 2)) (bName 4) (bodyB (den_best_from j))) (sRet (M.lift (eVar 3))))) := rfl
    have hd : den_best_from (j + 1) = fnD 8 [0, 0, 0] (sem_best_from (den_best_from j)) := rfl
    rw [hd, hs]
    have hlen : lenD (.tup (enc T)) = some (.int (T.length : Int)) := by
      show some (D.int ((enc T).length : Int)) = _
      rw [enc_len]
    have ht : M.lift (eB (e2 eqD (eVar 1) (e1 lenD (eVar 0)))) [some (.tup (enc T)), some (.int (row : Int)), some (.lst (ln free)), none, none, none, none, none] = some (.ok ((row : Int) == (T.length : Int)) [some (.tup (enc T)), some (.int (row : Int)), some (.lst (ln free)), none, none, none, none, none]) := by
      refine lift_run ?_
      have : e2 eqD (eVar 1) (e1 lenD (eVar 0)) [some (.tup (enc T)), some (.int (row : Int)), some (.lst (ln free)), none, none, none, none, none] = some (.bl ((row : Int) == (T.length : Int))) := by
        simp [e2, e1, eVar, hlen, eqD_int]
      unfold eB
      rw [this]; rfl
    by_cases hr : row = T.length
    · have e1' : ((row : Int) == (T.length : Int)) = true := by simp [hr]
      rw [e1'] at ht
      have hb : bestF T (j + 1) row free = (0, []) := by unfold bestF; exact if_pos hr
      rw [hb]
      exact fn_rt (seq_rt (if_t ht (ret_run (lift_run rfl)))) rfl
    · have e1' : ((row : Int) == (T.length : Int)) = false := by simp; omega
      rw [e1'] at ht
      have hb : bestF T (j + 1) row free = free.foldl (stepF T (bestF T j (row + 1)) row free) (-1, []) := by rw [bestF]; exact if_neg hr
      rw [hb]
      obtain ⟨c4, c5, c6, hl⟩ := loop_best (n := n) (den := den_best_from j) (rec := bestF T j (row + 1)) (row := row) (free := free) hT (by omega) free (-1, []) none none none fun col hc => ⟨hf col hc, ⟨_, den_best hT hn j (row + 1) (free.filter fun x => x != col) (by omega) (by omega) (by omega) fun c hc => hf c (List.mem_filter.mp hc).1⟩, by
        have := bestF_len (T := T) j (row + 1) (free.filter fun x => x != col)
        omega⟩
      refine fn_rt (seq_run (if_f ht rfl) (seq_run (set_run (d := encB (-1, [])) (lift_run ?_)) (seq_run (for_run (ds := ln free) rfl hl) (ret_run (lift_run rfl))))) rfl
      rfl
end
end K85
end

section
set_option Elab.async false
set_option linter.all false
set_option maxRecDepth 100000
set_option maxHeartbeats 4000000
namespace K85
open PySem L2 DL
theorem enumD_li (k : Nat) (ns : List Int) : enumD k (li ns) = (ns.zipIdx k).map fun p => D.tup [.int (p.2 : Int), .int p.1] := by
  induction ns generalizing k with
  | nil => rfl
  | cons z ns ih => simp only [li, List.map_cons, enumD, List.zipIdx_cons] at ih ⊢; rw [ih]
theorem enumD_ln (k : Nat) (ns : List Nat) : enumD k (ln ns) = (ns.zipIdx k).map fun p => D.tup [.int (p.2 : Int), .int (p.1 : Int)] := by
  induction ns generalizing k with
  | nil => rfl
  | cons z ns ih => simp only [ln, List.map_cons, enumD, List.zipIdx_cons] at ih ⊢; rw [ih]
theorem enumD_enc (k : Nat) (T : List (List Int)) : enumD k (enc T) = (T.zipIdx k).map fun p => D.tup [.int (p.2 : Int), .tup (li p.1)] := by
  induction T generalizing k with
  | nil => rfl
  | cons z T ih => simp only [enc, List.map_cons, enumD, List.zipIdx_cons] at ih ⊢; rw [ih]
/-- prices as a list of a function's values -/
def fl (n : Nat) (p : Nat → Int) : List Int := (List.range n).map p
theorem fl_len (n : Nat) (p : Nat → Int) : (fl n p).length = n := by simp [fl]
theorem fl_get {n : Nat} {p : Nat → Int} {j : Nat} (h : j < n) : (fl n p)[j]? = some (p j) := by simp [fl, h]
theorem ix_fl {n : Nat} {p : Nat → Int} {j : Nat} (h : j < n) : ixD (.lst (li (fl n p))) (.int (j : Int)) = some (.int (p j)) := by
  show atI (li (fl n p)) (j : Int) = _
  rw [atI_nat', li, List.getElem?_map, fl_get h]; rfl
theorem ix_ln {cs : List Nat} {i : Nat} (h : i < cs.length) : ixD (.lst (ln cs)) (.int (i : Int)) = some (.int (cs.getD i 0 : Nat)) := by
  show atI (ln cs) (i : Int) = _
  rw [atI_nat', ln, List.getElem?_map, List.getElem?_eq_getElem h]
  simp [List.getD, h]
theorem ix_li {ns : List Int} {i : Nat} (h : i < ns.length) : ixD (.tup (li ns)) (.int (i : Int)) = some (.int (ns.getD i 0)) := by
  show atI (li ns) (i : Int) = _
  rw [atI_nat', li, List.getElem?_map, List.getElem?_eq_getElem h]
  simp [List.getD, h]
theorem set_fl {n : Nat} {p : Nat → Int} {j : Nat} {v : Int} (h : j < n) : (li (fl n p)).set j (.int v) = li (fl n fun x => if x = j then v else p x) := by
  apply List.ext_getElem?
  intro i
  by_cases hi : i < n
  · by_cases e : j = i
    · subst e
      rw [List.getElem?_set_self (by simp [li, fl]; exact h)]
      simp [li, fl, h]
    · rw [List.getElem?_set_ne e]
      simp [li, fl, hi, Ne.symm e]
  · rw [List.getElem?_eq_none (by simp [li, fl]; omega), List.getElem?_eq_none (by simp [li, fl]; omega)]
theorem maxI (a b : Int) : max2D (.int a) (.int b) = some (.int (max a b)) := by
  show some (D.int (if b > a then b else a)) = _
  congr 2
  split <;> omega
def stoB : SM := sSto 2 plVar (eVar 7) setD (M.lift (e2 max2D (e2 ixD (eVar 2) (eVar 7)) (e2 addD (eVar 6) (eVar 8))))
theorem sto_run {n : Nat} {p : Nat → Int} {j : Nat} {own z : Int} {a b c3 c4 c5 : Option D} (h : j < n) :
    stoB [a, b, some (.lst (li (fl n p))), c3, c4, c5, some (.int own), some (.int (j : Int)), some (.int z)] = some (.nx [a, b, some (.lst (li (fl n fun x => if x = j then max (p j) (own + z) else p x))), c3, c4, c5, some (.int own), some (.int (j : Int)), some (.int z)]) := by
  have hv : M.lift (e2 max2D (e2 ixD (eVar 2) (eVar 7)) (e2 addD (eVar 6) (eVar 8))) [a, b, some (.lst (li (fl n p))), c3, c4, c5, some (.int own), some (.int (j : Int)), some (.int z)] = some (.ok (.int (max (p j) (own + z))) [a, b, some (.lst (li (fl n p))), c3, c4, c5, some (.int own), some (.int (j : Int)), some (.int z)]) := by
    refine lift_run ?_
    have h1 : e2 ixD (eVar 2) (eVar 7) [a, b, some (.lst (li (fl n p))), c3, c4, c5, some (.int own), some (.int (j : Int)), some (.int z)] = some (.int (p j)) := ix_fl h
    have h2 : e2 addD (eVar 6) (eVar 8) [a, b, some (.lst (li (fl n p))), c3, c4, c5, some (.int own), some (.int (j : Int)), some (.int z)] = some (.int (own + z)) := rfl
    unfold e2 at h1 h2 ⊢
    rw [h1, Option.bind_some, h2, Option.bind_some, maxI]
  have hs : setD (.lst (li (fl n p))) [.int (j : Int), .int (max (p j) (own + z))] = some (.lst (li (fl n fun x => if x = j then max (p j) (own + z) else p x)), .non) := by
    have hx : ixN (li (fl n p)).length (j : Int) = some j := by
      have hl : (li (fl n p)).length = n := by simp [li, fl]
      rw [hl]
      unfold ixN
      simp [h]
    unfold setD
    simp only [hx, Option.map_some, set_fl h]
  unfold stoB sSto M.run
  rw [hv]
  simp only [plVar, Option.bind_some, slotD, List.getElem?_cons_succ, List.getElem?_cons_zero, Option.join_some, getP, eVar, hs, Option.map_some, setP, List.set_cons_succ, List.set_cons_zero]
theorem rowT_fl {n m : Nat} {own : Int} {ti : Nat → Int} {p : Nat → Int} : fl n (fun x => if x = m then max (MA.rowT own ti m p m) (own + ti m) else MA.rowT own ti m p x) = fl n (MA.rowT own ti (m + 1) p) := rfl
/-- a row's turn, from column s on -/
theorem row_run {n : Nat} {own : Int} {ti : Nat → Int} {p : Nat → Int} {a b c3 c4 c5 : Option D} : ∀ (ns : List Int) (s : Nat) (c7 c8 : Option D), s + ns.length = n → (∀ i, i < ns.length → ns.getD i 0 = ti (s + i)) →
    ∃ c7' c8', loopF (bTup (bsCons (bName 7) (bsCons (bName 8) bsNil))) stoB ((ns.zipIdx s).map fun q => D.tup [.int (q.2 : Int), .int q.1]) [a, b, some (.lst (li (fl n (MA.rowT own ti s p)))), c3, c4, c5, some (.int own), c7, c8] = some (.nx [a, b, some (.lst (li (fl n (MA.rowT own ti n p)))), c3, c4, c5, some (.int own), c7', c8'])
  | [], s, c7, c8, hs, _ => by
    have : s = n := by simpa using hs
    subst this
    exact ⟨c7, c8, rfl⟩
  | z :: ns, s, c7, c8, hs, h => by
    simp only [List.length_cons] at hs h
    have hz : z = ti s := by have := h 0 (by omega); simpa using this
    subst hz
    obtain ⟨c7', c8', hl⟩ := row_run (n := n) (own := own) (ti := ti) (p := p) (a := a) (b := b) (c3 := c3) (c4 := c4) (c5 := c5) ns (s + 1) (some (.int (s : Int))) (some (.int (ti s))) (by omega) fun i hi => by
      have := h (i + 1) (by omega)
      rw [show s + 1 + i = s + (i + 1) by omega, ← this]
      simp
    refine ⟨c7', c8', ?_⟩
    rw [List.zipIdx_cons, List.map_cons]
    exact loop_cons rfl (sto_run (p := MA.rowT own ti s p) (by omega)) hl
def roundB : SM := sSeq (sSet 6 (M.lift (e2 subD (e2 ixD (eVar 2) (e2 ixD (eVar 1) (eVar 4))) (e2 ixD (eVar 5) (e2 ixD (eVar 1) (eVar 4)))))) (sFor (iEnumD (eVar 5)) (bTup (bsCons (bName 7) (bsCons (bName 8) bsNil))) stoB)
section
variable {T : List (List Int)} {n : Nat} {cs : List Nat}
abbrev cf (cs : List Nat) : Nat → Nat := fun i => cs.getD i 0
theorem cell_get {i j : Nat} (hi : i < T.length) : cell T i j = T[i].getD j 0 := by simp [cell, hi]
theorem turn_run (hT : ∀ r ∈ T, r.length = n ∧ ∀ z ∈ r, 0 ≤ z) (hcs : cs.length = n) (hc : ∀ x ∈ cs, x < n) (hn : T.length = n) {i : Nat} (hi : i < n) {q : Nat → Int} {a c3 c6 c7 c8 : Option D} :
    ∃ c6' c7' c8', roundB [a, some (.lst (ln cs)), some (.lst (li (fl n q))), c3, some (.int (i : Int)), some (.tup (li (T.getD i []))), c6, c7, c8] = some (.nx [a, some (.lst (ln cs)), some (.lst (li (fl n (MA.rowT (q (cf cs i) - cell T i (cf cs i)) (cell T i) n q)))), c3, some (.int (i : Int)), some (.tup (li (T.getD i []))), c6', c7', c8']) := by
  have hi' : i < T.length := by omega
  have hrow : T.getD i [] = T[i] := by simp [List.getD, hi']
  have hl : T[i].length = n := (hT _ (List.getElem_mem hi')).1
  have hci : cf cs i < n := by
    have h1 : i < cs.length := by omega
    have : cf cs i = cs[i] := by simp [cf, List.getD, h1]
    rw [this]; exact hc _ (List.getElem_mem h1)
  have h1 : M.lift (e2 subD (e2 ixD (eVar 2) (e2 ixD (eVar 1) (eVar 4))) (e2 ixD (eVar 5) (e2 ixD (eVar 1) (eVar 4)))) [a, some (.lst (ln cs)), some (.lst (li (fl n q))), c3, some (.int (i : Int)), some (.tup (li (T.getD i []))), c6, c7, c8] = some (.ok (.int (q (cf cs i) - cell T i (cf cs i))) [a, some (.lst (ln cs)), some (.lst (li (fl n q))), c3, some (.int (i : Int)), some (.tup (li (T.getD i []))), c6, c7, c8]) := by
    refine lift_run ?_
    have e1 : e2 ixD (eVar 1) (eVar 4) [a, some (.lst (ln cs)), some (.lst (li (fl n q))), c3, some (.int (i : Int)), some (.tup (li (T.getD i []))), c6, c7, c8] = some (.int ((cf cs i : Nat) : Int)) := ix_ln (by omega)
    have e2' : ixD (.lst (li (fl n q))) (.int ((cf cs i : Nat) : Int)) = some (.int (q (cf cs i))) := ix_fl hci
    have e3 : ixD (.tup (li (T.getD i []))) (.int ((cf cs i : Nat) : Int)) = some (.int (cell T i (cf cs i))) := ix_li (by rw [hrow, hl]; exact hci)
    unfold e2 at e1 ⊢
    rw [e1]
    simp only [Option.bind_some, eVar, List.getElem?_cons_succ, List.getElem?_cons_zero, Option.join_some, e2', e3, subD]
  obtain ⟨c7', c8', h2⟩ := row_run (n := n) (own := q (cf cs i) - cell T i (cf cs i)) (ti := cell T i) (p := q) (a := a) (b := some (.lst (ln cs))) (c3 := c3) (c4 := some (.int (i : Int))) (c5 := some (.tup (li (T.getD i [])))) (T.getD i []) 0 c7 c8 (by rw [hrow, hl]; omega) fun j hj => by
    rw [Nat.zero_add]; rfl
  refine ⟨_, c7', c8', seq_run (set_run h1) (for_run (ds := (((T.getD i []).zipIdx 0).map fun p => D.tup [.int (p.2 : Int), .int p.1])) ?_ h2)⟩
  show some (enumD 0 (li (T.getD i []))) = _
  rw [enumD_li]
theorem round_run (hT : ∀ r ∈ T, r.length = n ∧ ∀ z ∈ r, 0 ≤ z) (hcs : cs.length = n) (hc : ∀ x ∈ cs, x < n) (hn : T.length = n) {p : Nat → Int} {a c3 : Option D} : ∀ (rows : List (List Int)) (s : Nat) (c4 c5 c6 c7 c8 : Option D), s + rows.length = n → (∀ i, i < rows.length → rows.getD i [] = T.getD (s + i) []) →
    ∃ c4' c5' c6' c7' c8', loopF (bTup (bsCons (bName 4) (bsCons (bName 5) bsNil))) roundB ((rows.zipIdx s).map fun p => D.tup [.int (p.2 : Int), .tup (li p.1)]) [a, some (.lst (ln cs)), some (.lst (li (fl n (MA.roundT n (cell T) (cf cs) s p)))), c3, c4, c5, c6, c7, c8] = some (.nx [a, some (.lst (ln cs)), some (.lst (li (fl n (MA.roundT n (cell T) (cf cs) n p)))), c3, c4', c5', c6', c7', c8'])
  | [], s, c4, c5, c6, c7, c8, hs, _ => by
    have : s = n := by simpa using hs
    subst this
    exact ⟨c4, c5, c6, c7, c8, rfl⟩
  | r :: rows, s, c4, c5, c6, c7, c8, hs, h => by
    simp only [List.length_cons] at hs h
    have hr : r = T.getD s [] := by have := h 0 (by omega); simpa using this
    subst hr
    obtain ⟨c6', c7', c8', h1⟩ := turn_run hT hcs hc hn (i := s) (by omega) (q := MA.roundT n (cell T) (cf cs) s p) (a := a) (c3 := c3) (c6 := c6) (c7 := c7) (c8 := c8)
    obtain ⟨d4, d5, d6, d7, d8, hl⟩ := round_run hT hcs hc hn (p := p) (a := a) (c3 := c3) rows (s + 1) (some (.int (s : Int))) (some (.tup (li (T.getD s [])))) c6' c7' c8' (by omega) fun i hi => by
      have := h (i + 1) (by omega)
      rw [show s + 1 + i = s + (i + 1) by omega, ← this]
      simp
    refine ⟨d4, d5, d6, d7, d8, ?_⟩
    rw [List.zipIdx_cons, List.map_cons]
    exact loop_cons rfl h1 hl
theorem rounds_run (hT : ∀ r ∈ T, r.length = n ∧ ∀ z ∈ r, 0 ≤ z) (hcs : cs.length = n) (hc : ∀ x ∈ cs, x < n) (hn : T.length = n) : ∀ (ds : List D) (k : Nat) (c3 c4 c5 c6 c7 c8 : Option D),
    ∃ c3' c4' c5' c6' c7' c8', loopF (bName 3) (sFor (iEnumD (eVar 0)) (bTup (bsCons (bName 4) (bsCons (bName 5) bsNil))) roundB) ds [some (.tup (enc T)), some (.lst (ln cs)), some (.lst (li (fl n (MA.pricesT n (cell T) (cf cs) k)))), c3, c4, c5, c6, c7, c8] = some (.nx [some (.tup (enc T)), some (.lst (ln cs)), some (.lst (li (fl n (MA.pricesT n (cell T) (cf cs) (k + ds.length))))), c3', c4', c5', c6', c7', c8'])
  | [], k, c3, c4, c5, c6, c7, c8 => ⟨c3, c4, c5, c6, c7, c8, rfl⟩
  | d :: ds, k, c3, c4, c5, c6, c7, c8 => by
    obtain ⟨d4, d5, d6, d7, d8, h1⟩ := round_run hT hcs hc hn (p := MA.pricesT n (cell T) (cf cs) k) (a := some (.tup (enc T))) (c3 := some d) T 0 c4 c5 c6 c7 c8 (by omega) fun i _ => by rw [Nat.zero_add]
    obtain ⟨f3, f4, f5, f6, f7, f8, h2⟩ := rounds_run hT hcs hc hn ds (k + 1) (some d) d4 d5 d6 d7 d8
    rw [show k + 1 + ds.length = k + (d :: ds).length by simp; omega] at h2
    refine ⟨f3, f4, f5, f6, f7, f8, loop_cons rfl (for_run (ds := ((T.zipIdx 0).map fun p => D.tup [.int (p.2 : Int), .tup (li p.1)])) ?_ h1) h2⟩
    show some (enumD 0 (enc T)) = _
    rw [enumD_enc]
theorem den_prices (hT : ∀ r ∈ T, r.length = n ∧ ∀ z ∈ r, 0 ≤ z) (hcs : cs.length = n) (hc : ∀ x ∈ cs, x < n) (hn : T.length = n) (h6 : n ≤ 6) :
    den_column_prices [.tup (enc T), .lst (ln cs)] = some (.rt (.lst (li (fl n (MA.pricesT n (cell T) (cf cs) n)))) [.tup (enc T), .lst (ln cs)]) := by
  have hs : sem_column_prices = sSeq (sSet 2 (M.lift (e2 mulD (eL (sCons (eC (.int 0)) sNil)) (e1 lenD (eVar 0))))) (sSeq (sFor (iRg1 (e1 lenD (eVar 0))) (bName 3) (sFor (iEnumD (eVar 0)) (bTup (bsCons (bName 4) (bsCons (bName 5) bsNil))) roundB)) (sRet (mMv 2))) := rfl
  have hd : den_column_prices = fnD 9 [0, 0] sem_column_prices := rfl
  rw [hd, hs]
  have hlen : lenD (.tup (enc T)) = some (.int (n : Int)) := by
    show some (D.int ((enc T).length : Int)) = _
    rw [enc_len, hn]
  have h0 : e2 mulD (eL (sCons (eC (.int 0)) sNil)) (e1 lenD (eVar 0)) [some (.tup (enc T)), some (.lst (ln cs)), none, none, none, none, none, none, none] = some (.lst (li (fl n (MA.pricesT n (cell T) (cf cs) 0)))) := by
    have e1' : e1 lenD (eVar 0) [some (.tup (enc T)), some (.lst (ln cs)), none, none, none, none, none, none, none] = some (.int (n : Int)) := hlen
    have e3 : eL (sCons (eC (.int 0)) sNil) [some (.tup (enc T)), some (.lst (ln cs)), none, none, none, none, none, none, none] = some (.lst [.int 0]) := by
      show (if ([D.int 0]).length ≤ cap then some (D.lst [D.int 0]) else none) = _
      exact if_pos (le_cap (by simp))
    unfold e2
    rw [e3, e1', Option.bind_some, Option.bind_some]
    have : mulD (.lst [.int 0]) (.int (n : Int)) = some (.lst (List.replicate (n : Int).toNat [D.int 0]).flatten) := by
      unfold mulD
      simp only
      rw [if_pos ⟨by omega, by omega, le_cap (by simp; omega)⟩]
    rw [this]
    congr 2
    rw [Int.toNat_natCast]
    simp only [li, fl, MA.pricesT]
    clear this e1' e3 hlen hd hs hn hcs hT h6 hc
    induction n with
    | zero => rfl
    | succ n ih => rw [List.replicate_succ', List.flatten_append, ih, List.range_succ, List.map_append, List.map_append]; rfl
  obtain ⟨c3, c4, c5, c6, c7, c8, hl⟩ := rounds_run hT hcs hc hn (rgD 0 n) 0 none none none none none none
  rw [rgD_len, Nat.zero_add] at hl
  have hi : iRg1 (e1 lenD (eVar 0)) [some (.tup (enc T)), some (.lst (ln cs)), some (.lst (li (fl n (MA.pricesT n (cell T) (cf cs) 0)))), none, none, none, none, none, none] = some (rgD 0 n) := iRg1_run hlen h6
  exact fn_rt (seq_run (set_run (lift_run h0)) (seq_run (for_run hi hl) (ret_run (d := .lst (li (fl n (MA.pricesT n (cell T) (cf cs) n)))) rfl))) rfl
end
end K85
end

section
set_option Elab.async false
set_option linter.all false
set_option maxRecDepth 100000
set_option maxHeartbeats 4000000
namespace K85
open PySem L2 DL
section
variable {T : List (List Int)} {n : Nat}
theorem cell_nn (hT : ∀ r ∈ T, r.length = n ∧ ∀ z ∈ r, 0 ≤ z) (i j : Nat) : 0 ≤ cell T i j := by
  unfold cell
  rw [List.getD_eq_getElem?_getD, List.getD_eq_getElem?_getD]
  cases hi : T[i]? with
  | none => simp
  | some r =>
    simp only [Option.getD_some]
    cases hj : r[j]? with
    | none => simp
    | some z => exact (hT r (List.mem_of_getElem? hi)).2 z (List.mem_of_getElem? hj)
def wsum (T : List (List Int)) : Nat → List Nat → Int
  | _, [] => 0
  | row, c :: cs => cell T row c + wsum T (row + 1) cs
theorem wsum_nn (hT : ∀ r ∈ T, r.length = n ∧ ∀ z ∈ r, 0 ≤ z) : ∀ (cs : List Nat) (row : Nat), 0 ≤ wsum T row cs
  | [], row => Int.le_refl 0
  | c :: cs, row => by
    have := cell_nn hT row c
    have := wsum_nn hT cs (row + 1)
    simp only [wsum]; omega
theorem best_spec (hT : ∀ r ∈ T, r.length = n ∧ ∀ z ∈ r, 0 ≤ z) : ∀ (j row : Nat) (free : List Nat), row + free.length = T.length → T.length < row + j → free.Nodup →
    (bestF T j row free).2.Perm free ∧ (bestF T j row free).1 = wsum T row (bestF T j row free).2 ∧ ∀ ds : List Nat, ds.Perm free → wsum T row ds ≤ (bestF T j row free).1
  | 0, row, free, h1, h2, _ => by omega
  | j + 1, row, free, h1, h2, nd => by
    by_cases hr : row = T.length
    · have : free = [] := List.eq_nil_of_length_eq_zero (by omega)
      subst this
      have hb : bestF T (j + 1) row [] = (0, []) := by rw [bestF]; exact if_pos hr
      rw [hb]
      refine ⟨List.Perm.refl _, rfl, fun ds hd => ?_⟩
      have := hd.length_eq
      have : ds = [] := List.eq_nil_of_length_eq_zero (by simpa using this)
      subst this
      exact Int.le_refl 0
    · have hb : bestF T (j + 1) row free = free.foldl (stepF T (bestF T j (row + 1)) row free) (-1, []) := by rw [bestF]; exact if_neg hr
      rw [hb]
      have step : ∀ (cols : List Nat) (found : Int × List Nat) (S : List Nat), (∀ c ∈ cols, c ∈ free) → (∀ ds : List Nat, ds.Perm free → (∃ c ∈ S, ds.head? = some c) → wsum T row ds ≤ found.1) → ((found = (-1, []) ∧ S = []) ∨ (found.2.Perm free ∧ found.1 = wsum T row found.2)) →
          let f := cols.foldl (stepF T (bestF T j (row + 1)) row free) found
          (∀ ds : List Nat, ds.Perm free → (∃ c ∈ S ++ cols, ds.head? = some c) → wsum T row ds ≤ f.1) ∧ ((f = (-1, []) ∧ S ++ cols = []) ∨ (f.2.Perm free ∧ f.1 = wsum T row f.2)) := by
        intro cols
        induction cols with
        | nil => intro found S _ h3 h4; simp only [List.foldl_nil, List.append_nil]; exact ⟨h3, h4⟩
        | cons col cols ih =>
          intro found S hc h3 h4
          have hcol : col ∈ free := hc col (by simp)
          have he : free.filter (fun x => x != col) = free.erase col := (List.Nodup.erase_eq_filter nd col).symm
          have hp : free.Perm (col :: free.filter fun x => x != col) := by rw [he]; exact List.perm_cons_erase hcol
          have hl := hp.length_eq
          simp only [List.length_cons] at hl
          obtain ⟨i1, i2, i3⟩ := best_spec hT j (row + 1) (free.filter fun x => x != col) (by omega) (by omega) (nd.filter _)
          have hnn := wsum_nn hT (bestF T j (row + 1) (free.filter fun x => x != col)).2 (row + 1)
          have hcn := cell_nn hT row col
          have key : ∀ ds : List Nat, ds.Perm free → ds.head? = some col → wsum T row ds ≤ cell T row col + (bestF T j (row + 1) (free.filter fun x => x != col)).1 := fun ds hd hh => by
            cases ds with
            | nil => simp at hh
            | cons d ds =>
              have : d = col := by simpa using hh
              subst this
              have := i3 ds (List.Perm.cons_inv (hd.trans hp))
              simp only [wsum]; omega
          simp only [List.foldl_cons]
          have e : S ++ col :: cols = (S ++ [col]) ++ cols := by simp
          rw [e]
          refine ih _ (S ++ [col]) (fun c hc' => hc c (by simp [hc'])) ?_ ?_
          · intro ds hd ⟨c, hcS, hh⟩
            unfold stepF
            simp only
            rcases List.mem_append.mp hcS with q | q
            · have := h3 ds hd ⟨c, q, hh⟩
              split
              · simp only; omega
              · exact this
            · have : c = col := by simpa using q
              subst this
              have := key ds hd hh
              split
              · exact this
              · omega
          · right
            unfold stepF
            simp only
            split
            · refine ⟨(List.Perm.cons col i1).trans hp.symm, ?_⟩
              simp only [wsum]; rw [i2]
            · rename_i hv
              rcases h4 with ⟨q, _⟩ | q
              · rw [q] at hv
                simp only at hv
                omega
              · exact q
      obtain ⟨s1, s2⟩ := step free (-1, []) [] (fun _ h => h) (fun ds _ ⟨c, hc, _⟩ => by simp at hc) (.inl ⟨rfl, rfl⟩)
      simp only [List.nil_append] at s1 s2
      have hne : free ≠ [] := fun q => by subst q; simp at h1; omega
      rcases s2 with ⟨_, q⟩ | ⟨q1, q2⟩
      · exact absurd q hne
      · refine ⟨q1, q2, fun ds hd => s1 ds hd ?_⟩
        cases ds with
        | nil => exact absurd hd.symm.eq_nil hne
        | cons d ds => exact ⟨d, hd.subset (by simp), rfl⟩
end
end K85
end

section
set_option Elab.async false
set_option linter.all false
set_option maxRecDepth 100000
set_option maxHeartbeats 4000000
namespace K85
open PySem L2 DL
theorem sumN_front (f : Nat → Int) : ∀ n, MA.sumN (n + 1) f = f 0 + MA.sumN n fun i => f (i + 1)
  | 0 => by simp [MA.sumN]
  | n + 1 => by
    have := sumN_front f n
    simp only [MA.sumN] at this ⊢
    omega
theorem perm_range {l : List Nat} {n : Nat} (nd : l.Nodup) (hl : l.length = n) (h : ∀ x ∈ l, x < n) : l.Perm (List.range n) := by
  rw [List.perm_ext_iff_of_nodup nd List.nodup_range]
  intro a
  rw [List.mem_range]
  refine ⟨h a, fun ha => ?_⟩
  by_cases hm : a ∈ l
  · exact hm
  · have := MA.nodup_len n (a :: l) (List.nodup_cons.mpr ⟨hm, nd⟩) fun x hx => by
      rcases List.mem_cons.mp hx with rfl | hx
      · exact ha
      · exact h x hx
    simp at this; omega
theorem perm_sum {l1 l2 : List Nat} (f : Nat → Int) (h : l1.Perm l2) : (l1.map f).sum = (l2.map f).sum := by
  induction h with
  | nil => rfl
  | cons a _ ih => simp [ih]
  | swap a b l => simp; omega
  | trans _ _ i1 i2 => rw [i1, i2]
theorem fl_sum (f : Nat → Int) : ∀ n, (fl n f).sum = MA.sumN n f
  | 0 => rfl
  | n + 1 => by
    have := fl_sum f n
    simp only [fl] at this
    simp [fl, List.range_succ, MA.sumN, this]
section
variable {T : List (List Int)} {n : Nat}
theorem wsum_sumN : ∀ (cs : List Nat) (row : Nat), wsum T row cs = MA.sumN cs.length fun i => cell T (row + i) (cs.getD i 0)
  | [], row => rfl
  | c :: cs, row => by
    rw [List.length_cons, sumN_front]
    simp only [wsum]
    rw [wsum_sumN cs (row + 1)]
    have : (fun i => cell T (row + 1 + i) (cs.getD i 0)) = fun i => cell T (row + (i + 1)) ((c :: cs).getD (i + 1) 0) := by
      funext i
      rw [show row + 1 + i = row + (i + 1) by omega]
      simp
    rw [this]
    simp
/-- what is needed of the best columns -/
structure Good (T : List (List Int)) (n : Nat) (cs : List Nat) (m : Int) : Prop where
  perm : cs.Perm (List.range n)
  sum : m = wsum T 0 cs
  most : ∀ ds : List Nat, ds.Perm (List.range n) → wsum T 0 ds ≤ m
theorem good_best (hT : ∀ r ∈ T, r.length = n ∧ ∀ z ∈ r, 0 ≤ z) (hn : T.length = n) (h6 : n ≤ 6) : Good T n (bestF T 8 0 (List.range n)).2 (bestF T 8 0 (List.range n)).1 := by
  obtain ⟨h1, h2, h3⟩ := best_spec hT 8 0 (List.range n) (by simp [hn]) (by omega) List.nodup_range
  exact ⟨h1, h2, h3⟩
variable {cs : List Nat} {m : Int}
theorem Good.len (g : Good T n cs m) : cs.length = n := by simpa using g.perm.length_eq
theorem Good.lt (g : Good T n cs m) : ∀ x ∈ cs, x < n := fun x hx => List.mem_range.mp (g.perm.subset hx)
theorem Good.nd (g : Good T n cs m) : cs.Nodup := g.perm.nodup_iff.mpr List.nodup_range
theorem cf_get {cs : List Nat} {i : Nat} (h : i < cs.length) : cf cs i = cs[i] := by simp [cf, List.getD, h]
theorem Good.asg (g : Good T n cs m) : MA.Asg n (cf cs) := by
  have hl := g.len
  refine ⟨fun i hi => ?_, fun i j hi hj e => ?_⟩
  · rw [cf_get (by omega)]; exact g.lt _ (List.getElem_mem _)
  · rw [cf_get (by omega), cf_get (by omega)] at e
    exact (List.getElem_inj g.nd).mp e
theorem Good.best (g : Good T n cs m) : MA.Best n (cell T) (cf cs) := by
  have hl := g.len
  refine ⟨g.asg, fun d hd => ?_⟩
  have hp : ((List.range n).map d).Perm (List.range n) := by
    refine perm_range ?_ (by simp) fun x hx => ?_
    · rw [List.nodup_iff_pairwise_ne, List.pairwise_map]
      refine List.Pairwise.imp_of_mem ?_ (List.nodup_iff_pairwise_ne.mp (List.nodup_range (n := n)))
      intro a b ha hb hab e
      exact hab (hd.inj a b (List.mem_range.mp ha) (List.mem_range.mp hb) e)
    · obtain ⟨y, hy, rfl⟩ := List.mem_map.mp hx
      exact hd.lt y (List.mem_range.mp hy)
  have h1 := g.most _ hp
  have h2 := g.sum
  rw [wsum_sumN] at h1 h2
  simp only [List.length_map, List.length_range, Nat.zero_add] at h1
  rw [hl] at h2
  unfold MA.wt
  have e1 : MA.sumN n (fun i => cell T i (((List.range n).map d).getD i 0)) = MA.sumN n fun i => cell T i (d i) := MA.sumN_congr fun i hi => by simp [List.getD, hi]
  rw [e1] at h1
  have e2 : MA.sumN n (fun i => cell T (0 + i) (cs.getD i 0)) = MA.sumN n fun i => cell T i (cf cs i) := MA.sumN_congr fun i hi => by rw [Nat.zero_add]
  rw [e2] at h2
  omega
theorem Good.sur (g : Good T n cs m) : ∀ j, j < n → ∃ k, k < n ∧ cf cs k = j := fun j hj => by
  have : j ∈ cs := g.perm.symm.subset (List.mem_range.mpr hj)
  obtain ⟨k, hk, e⟩ := List.getElem_of_mem this
  exact ⟨k, by rw [← g.len]; exact hk, by rw [cf_get hk]; exact e⟩
/-- the prices -/
def pf (T : List (List Int)) (n : Nat) (cs : List Nat) : Nat → Int := MA.pricesT n (cell T) (cf cs) n
def rf (T : List (List Int)) (n : Nat) (cs : List Nat) : Nat → Int := fun i => cell T i (cf cs i) - pf T n cs (cf cs i)
theorem Good.prices (g : Good T n cs m) (hT : ∀ r ∈ T, r.length = n ∧ ∀ z ∈ r, 0 ≤ z) :
    (∀ j, 0 ≤ pf T n cs j) ∧ (∀ i, i < n → 0 ≤ rf T n cs i) ∧ (∀ i j, i < n → j < n → cell T i j ≤ rf T n cs i + pf T n cs j) ∧ (fl n (rf T n cs)).sum + (fl n (pf T n cs)).sum = m := by
  obtain ⟨h1, h2, h3⟩ := MA.prices_ok g.best g.sur fun i j _ _ => cell_nn hT i j
  refine ⟨h1, h2, h3, ?_⟩
  have e1 : (fl n (pf T n cs)).sum = MA.sumN n fun i => pf T n cs (cf cs i) := by
    have := perm_sum (pf T n cs) g.perm
    have e2 : cs.map (pf T n cs) = fl n fun i => pf T n cs (cf cs i) := by
      apply List.ext_getElem?
      intro i
      by_cases hi : i < n
      · have hi' : i < cs.length := by rw [g.len]; exact hi
        rw [fl_get hi, List.getElem?_map, List.getElem?_eq_getElem hi', cf_get hi']; rfl
      · rw [List.getElem?_eq_none (by simp [g.len]; omega), List.getElem?_eq_none (by simp [fl]; omega)]
    rw [e2, fl_sum] at this
    exact this.symm
  rw [e1, fl_sum]
  have : MA.sumN n (rf T n cs) = MA.sumN n (fun i => cell T i (cf cs i)) - MA.sumN n fun i => pf T n cs (cf cs i) := MA.sumN_sub n
  rw [this, g.sum, wsum_sumN, g.len]
  have e3 : MA.sumN n (fun i => cell T (0 + i) (cs.getD i 0)) = MA.sumN n fun i => cell T i (cf cs i) := MA.sumN_congr fun i hi => by rw [Nat.zero_add]
  rw [e3]; omega
end
end K85
end

section
set_option Elab.async false
set_option linter.all false
set_option maxRecDepth 100000
set_option maxHeartbeats 4000000
namespace K85
open PySem L2 DL
theorem rgD_ln (n : Nat) : rgD 0 (n : Int) = ln (List.range n) := by
  unfold rgD ln
  rw [show ((n : Int) - 0).toNat = n by omega]
  apply List.map_congr_left
  intro a _
  rw [Int.zero_add]
theorem lrg_run {n : Nat} (h : n ≤ 6) : lrgD1 (.int (n : Int)) = some (.lst (ln (List.range n))) := by
  unfold lrgD1
  simp only
  rw [if_pos (rg6 h), rgD_ln]
section
variable {T : List (List Int)} {n : Nat} {cs : List Nat} {m : Int}
def prD (T : List (List Int)) (cs : List Nat) (s : Nat) : List D := (cs.zipIdx s).map fun q => if 0 < cell T q.2 q.1 then D.int (q.1 : Int) else .non
def pairB : SM := sIf (M.lift (eB (e2 gtD (e2 ixD (e2 ixD (eVar 0) (eVar 4)) (eVar 5)) (eC (.int 0))))) (sExp (mMu 6 appD (lCons (M.lift (eVar 5)) lNil))) (sExp (mMu 6 appD (lCons (M.lift (eC .non)) lNil)))
theorem pair_loop (hT : ∀ r ∈ T, r.length = n ∧ ∀ z ∈ r, 0 ≤ z) (hn : T.length = n) {c1 c2 c3 : Option D} : ∀ (cs : List Nat) (s : Nat) (acc : List D) (c4 c5 : Option D), (∀ x ∈ cs, x < n) → s + cs.length ≤ n → acc.length + cs.length ≤ 100 →
    ∃ c4' c5', loopF (bTup (bsCons (bName 4) (bsCons (bName 5) bsNil))) pairB ((cs.zipIdx s).map fun p => D.tup [.int (p.2 : Int), .int (p.1 : Int)]) [some (.tup (enc T)), c1, c2, c3, c4, c5, some (.lst acc)] = some (.nx [some (.tup (enc T)), c1, c2, c3, c4', c5', some (.lst (acc ++ prD T cs s))])
  | [], s, acc, c4, c5, _, _, _ => ⟨c4, c5, by simp [prD, loopF, sNx]⟩
  | c :: cs, s, acc, c4, c5, hc, hs, hl => by
    simp only [List.length_cons] at hs hl
    have hcn := hc c (by simp)
    have hx : e2 ixD (e2 ixD (eVar 0) (eVar 4)) (eVar 5) [some (.tup (enc T)), c1, c2, c3, some (.int (s : Int)), some (.int (c : Int)), some (.lst acc)] = some (.int (cell T s c)) := by
      have := ix_cell hT (i := s) (j := c) (by omega) hcn
      rw [ix_row (by omega), Option.bind_some] at this
      simp [e2, eVar, ix_row (T := T) (i := s) (by omega), this]
    have ht : M.lift (eB (e2 gtD (e2 ixD (e2 ixD (eVar 0) (eVar 4)) (eVar 5)) (eC (.int 0)))) [some (.tup (enc T)), c1, c2, c3, some (.int (s : Int)), some (.int (c : Int)), some (.lst acc)] = some (.ok (decide (0 < cell T s c)) [some (.tup (enc T)), c1, c2, c3, some (.int (s : Int)), some (.int (c : Int)), some (.lst acc)]) := by
      refine lift_run ?_
      have : e2 gtD (e2 ixD (e2 ixD (eVar 0) (eVar 4)) (eVar 5)) (eC (.int 0)) [some (.tup (enc T)), c1, c2, c3, some (.int (s : Int)), some (.int (c : Int)), some (.lst acc)] = some (.bl (decide (0 < cell T s c))) := by
        unfold e2 at hx ⊢
        rw [hx]
        rfl
      unfold eB
      rw [this]; rfl
    have ha : ∀ d : D, appD (.lst acc) [d] = some (.lst (acc ++ [d]), .non) := fun d => appD_lst (lt_cap (by omega))
    have hb : pairB [some (.tup (enc T)), c1, c2, c3, some (.int (s : Int)), some (.int (c : Int)), some (.lst acc)] = some (.nx [some (.tup (enc T)), c1, c2, c3, some (.int (s : Int)), some (.int (c : Int)), some (.lst (acc ++ [if 0 < cell T s c then D.int (c : Int) else .non]))]) := by
      by_cases h0 : 0 < cell T s c
      · rw [decide_eq_true h0] at ht
        rw [if_pos h0]
        exact if_t ht (exp_run (mMu_run (i := 6) rfl rfl (l1_run (lift_run rfl)) rfl (ha _)))
      · rw [decide_eq_false h0] at ht
        rw [if_neg h0]
        exact if_f ht (exp_run (mMu_run (i := 6) rfl rfl (l1_run (lift_run rfl)) rfl (ha _)))
    obtain ⟨c4', c5', hl'⟩ := pair_loop hT hn (c1 := c1) (c2 := c2) (c3 := c3) cs (s + 1) (acc ++ [if 0 < cell T s c then D.int (c : Int) else .non]) (some (.int (s : Int))) (some (.int (c : Int))) (fun x hx => hc x (by simp [hx])) (by omega) (by simp; omega)
    refine ⟨c4', c5', ?_⟩
    rw [List.zipIdx_cons, List.map_cons]
    have e : acc ++ prD T (c :: cs) s = (acc ++ [if 0 < cell T s c then D.int (c : Int) else .non]) ++ prD T cs (s + 1) := by
      simp only [prD, List.zipIdx_cons, List.map_cons, List.append_assoc, List.singleton_append]
    rw [e]
    exact loop_cons rfl hb hl'
theorem Good.pf_eq (g : Good T n cs m) : MA.pricesT n (cell T) (cf cs) n = pf T n cs := rfl
theorem rows_run (hT : ∀ r ∈ T, r.length = n ∧ ∀ z ∈ r, 0 ≤ z) (hn : T.length = n) (g : Good T n cs m) {c3 c4 c5 c6 : Option D} :
    eComp [4, 5] (iEnumD (eVar 1)) (bTup (bsCons (bName 4) (bsCons (bName 5) bsNil))) tbY (e2 subD (e2 ixD (e2 ixD (eVar 0) (eVar 4)) (eVar 5)) (e2 ixD (eVar 2) (eVar 5))) [some (.tup (enc T)), some (.lst (ln cs)), some (.lst (li (fl n (pf T n cs)))), c3, c4, c5, c6] = some (.lst (li (fl n (rf T n cs)))) := by
  have hl := g.len
  have hm : ∀ q ∈ cs.zipIdx 0, q.2 < n ∧ q.1 < n ∧ q.1 = cf cs q.2 := fun q hq => by
    obtain ⟨x, i⟩ := q
    have := List.mem_zipIdx hq
    have hi : i < cs.length := by omega
    refine ⟨by simp only; omega, ?_, ?_⟩
    · exact g.lt _ (by rw [this.2.2]; exact List.getElem_mem _)
    · show x = cf cs i
      rw [cf_get hi, this.2.2]; simp
  have h := compL_map (f := compF [some (.tup (enc T)), some (.lst (ln cs)), some (.lst (li (fl n (pf T n cs)))), c3, c4, c5, c6] [4, 5] (bTup (bsCons (bName 4) (bsCons (bName 5) bsNil))) tbY (e2 subD (e2 ixD (e2 ixD (eVar 0) (eVar 4)) (eVar 5)) (e2 ixD (eVar 2) (eVar 5)))) (fun p : Nat × Nat => D.tup [.int (p.2 : Int), .int (p.1 : Int)]) (fun p => some (D.int (rf T n cs p.2))) (cs.zipIdx 0) fun q hq => by
    obtain ⟨h1, h2, h3⟩ := hm q hq
    have := compF_run (ws := [4, 5]) (bind := bTup (bsCons (bName 4) (bsCons (bName 5) bsNil))) (tb := tbY) (p := e2 subD (e2 ixD (e2 ixD (eVar 0) (eVar 4)) (eVar 5)) (e2 ixD (eVar 2) (eVar 5))) (ρ := [some (.tup (enc T)), some (.lst (ln cs)), some (.lst (li (fl n (pf T n cs)))), c3, c4, c5, c6])
      (ρ1 := [some (.tup (enc T)), some (.lst (ln cs)), some (.lst (li (fl n (pf T n cs)))), c3, some (.int (q.2 : Int)), some (.int (q.1 : Int)), c6]) (d := .tup [.int (q.2 : Int), .int (q.1 : Int)]) (b := true) (x := .int (rf T n cs q.2)) rfl rfl fun _ => by
        have hx := ix_cell hT (i := q.2) (j := q.1) (by omega) h2
        rw [ix_row (by omega), Option.bind_some] at hx
        have hp := ix_fl (p := pf T n cs) h2
        have hr : rf T n cs q.2 = cell T q.2 q.1 - pf T n cs q.1 := by unfold rf; rw [← h3]
        rw [hr]
        simp [e2, eVar, ix_row (T := T) (i := q.2) (by omega), hx, hp, subD]
    simpa using this
  have hk : ((cs.zipIdx 0).filterMap fun p => some (D.int (rf T n cs p.2))) = li (fl n (rf T n cs)) := by
    rw [List.filterMap_eq_map']
    apply List.ext_getElem?
    intro i
    by_cases hi : i < n
    · have hi' : i < cs.length := by omega
      simp [li, fl, hi, hi']
    · rw [List.getElem?_eq_none (by simp; omega), List.getElem?_eq_none (by simp [li, fl]; omega)]
  rw [hk] at h
  refine comp_run (ds := (cs.zipIdx 0).map fun p => D.tup [.int (p.2 : Int), .int (p.1 : Int)]) ?_ h
  show some (enumD 0 (ln cs)) = _
  rw [enumD_ln]
theorem mT_run {ml : M (List D)} {ρ ρ' : Rho} {ds : List D} (h : ml ρ = some (.ok ds ρ')) (hl : ds.length ≤ cap) : mT ml ρ = some (.ok (.tup ds) ρ') := by
  unfold mT M.bind
  rw [h]
  simp only [M.of]
  rw [if_pos hl]; rfl
theorem lc_run {ma : M D} {ml : M (List D)} {ρ ρ' ρ2 : Rho} {a : D} {ds : List D} (h : ma ρ = some (.ok a ρ')) (hr : ml ρ' = some (.ok ds ρ2)) : lCons ma ml ρ = some (.ok (a :: ds) ρ2) := by
  unfold lCons M.bind
  rw [h]
  simp only [hr]
  rfl
def told (T : List (List Int)) (n : Nat) (cs : List Nat) : List D := [.tup (prD T cs 0), .lst (li (fl n (rf T n cs))), .lst (li (fl n (pf T n cs)))]
theorem den_heav (hT : ∀ r ∈ T, r.length = n ∧ ∀ z ∈ r, 0 ≤ z) (hn : T.length = n) (h6 : n ≤ 6) : den_heaviest [.tup (enc T)] = some (.rt (.tup (told T n (bestF T 8 0 (List.range n)).2)) [.tup (enc T)]) := by
  have g := good_best hT hn h6
  have hb := den_best (n := n) hT (by omega) 8 0 (List.range n) (by omega) (by omega) (by omega) fun c hc => List.mem_range.mp hc
  generalize (bestF T 8 0 (List.range n)) = b at g hb
  obtain ⟨m, cs⟩ := b
  simp only at g ⊢
  have hlen : lenD (.tup (enc T)) = some (.int (n : Int)) := by
    show some (D.int ((enc T).length : Int)) = _
    rw [enc_len, hn]
  have hs : sem_heaviest = sSeq (sSet 1 (M.lift (e2 ixD (eCall (den_best_from 8) (sCons (eVar 0) (sCons (eC (.int 0)) (sCons (e1 lrgD1 (e1 lenD (eVar 0))) sNil)))) (eC (.int 1)))))
    (sSeq (sSet 2 (M.lift (eCall (den_column_prices) (sCons (eVar 0) (sCons (eVar 1) sNil)))))
    (sSeq (sSet 3 (M.lift (eComp [4, 5] (iEnumD (eVar 1)) (bTup (bsCons (bName 4) (bsCons (bName 5) bsNil))) tbY (e2 subD (e2 ixD (e2 ixD (eVar 0) (eVar 4)) (eVar 5)) (e2 ixD (eVar 2) (eVar 5))))))
    (sSeq (sSet 6 (M.lift (eL sNil)))
    (sSeq (sFor (iEnumD (eVar 1)) (bTup (bsCons (bName 4) (bsCons (bName 5) bsNil))) pairB)
    (sRet (mT (lCons (M.lift (e1 tupleD (eVar 6))) (lCons (mMv 3) (lCons (mMv 2) lNil)))))))))  := rfl
  have hd : den_heaviest = fnD 7 [0] sem_heaviest := rfl
  rw [hd, hs]
  have a1 : e2 ixD (eCall (den_best_from 8) (sCons (eVar 0) (sCons (eC (.int 0)) (sCons (e1 lrgD1 (e1 lenD (eVar 0))) sNil)))) (eC (.int 1)) [some (.tup (enc T)), none, none, none, none, none, none] = some (.lst (ln cs)) := by
    have e0 : e1 lrgD1 (e1 lenD (eVar 0)) [some (.tup (enc T)), none, none, none, none, none, none] = some (.lst (ln (List.range n))) := by
      have : e1 lenD (eVar 0) [some (.tup (enc T)), none, none, none, none, none, none] = some (.int (n : Int)) := hlen
      unfold e1 at this ⊢
      rw [this, Option.bind_some, lrg_run h6]
    have e1' : eCall (den_best_from 8) (sCons (eVar 0) (sCons (eC (.int 0)) (sCons (e1 lrgD1 (e1 lenD (eVar 0))) sNil))) [some (.tup (enc T)), none, none, none, none, none, none] = some (encB (m, cs)) := by
      refine call_run (ds := [.tup (enc T), .int ((0 : Nat) : Int), .lst (ln (List.range n))]) ?_ hb
      simp only [sCons, sNil, e0, Option.bind_some, Option.map_some]
      rfl
    unfold e2
    rw [e1', Option.bind_some]
    rfl
  have a2 := den_prices hT g.len g.lt hn h6
  have a3 := rows_run hT hn g (c3 := none) (c4 := none) (c5 := none) (c6 := none)
  obtain ⟨c4, c5, a5⟩ := pair_loop hT hn (c1 := some (.lst (ln cs))) (c2 := some (.lst (li (fl n (pf T n cs))))) (c3 := some (.lst (li (fl n (rf T n cs))))) cs 0 [] none none g.lt (by rw [g.len]; omega) (by rw [g.len]; simp; omega)
  rw [List.nil_append] at a5
  have a4 : iEnumD (eVar 1) [some (.tup (enc T)), some (.lst (ln cs)), some (.lst (li (fl n (pf T n cs)))), some (.lst (li (fl n (rf T n cs)))), none, none, some (.lst [])] = some ((cs.zipIdx 0).map fun p => D.tup [.int (p.2 : Int), .int (p.1 : Int)]) := by
    show some (enumD 0 (ln cs)) = _
    rw [enumD_ln]
  have hpl : (prD T cs 0).length = n := by simp [prD, g.len]
  refine fn_rt (seq_run (set_run (lift_run a1)) (seq_run (set_run (d := D.lst (li (fl n (pf T n cs)))) (lift_run (call_run rfl a2))) (seq_run (set_run (lift_run a3)) (seq_run (set_run (d := D.lst []) (lift_run ?_)) (seq_run (for_run a4 a5) (ret_run (mT_run (lc_run (lift_run (a := D.tup (prD T cs 0)) ?_) (lc_run rfl (lc_run rfl rfl))) (show (3 : Nat) ≤ cap from le_cap (by decide))))))))) rfl
  · show (if ([] : List D).length ≤ cap then some (D.lst []) else none) = _
    exact if_pos (le_cap (by simp))
  · rfl
end
end K85
end

section
set_option Elab.async false
set_option linter.all false
set_option maxRecDepth 100000
set_option maxHeartbeats 4000000
namespace K85
open PySem L2 DL
theorem intsOf_li : ∀ ns : List Int, intsOf (li ns) = some ns
  | [] => rfl
  | n :: ns => by
    have := intsOf_li ns
    simp only [li, List.map_cons, intsOf] at this ⊢
    rw [this]; rfl
theorem li_ln (ns : List Nat) : ln ns = li (ns.map fun n : Nat => (n : Int)) := by simp [ln, li]
theorem okEs_li (k : Nat) : ∀ ns : List Int, okE.okEs k (li ns) = true
  | [] => rfl
  | n :: ns => by
    have := okEs_li k ns
    simp only [li, List.map_cons, okE.okEs] at this ⊢
    rw [this]
    cases k <;> rfl
theorem okE_li (ns : List Int) : okE 64 (.lst (li ns)) = true := okEs_li 63 ns
theorem memb_ln {c : Nat} {cs : List Nat} : memb (.int (c : Int)) (.lst (ln cs)) = some (decide (c ∈ cs)) := by
  unfold memb
  simp only
  have h1 : okE 64 (.int (c : Int)) = true := rfl
  have h2 : okE 64 (.lst (ln cs)) = true := by rw [li_ln]; exact okE_li _
  rw [h1, h2]
  simp only [Bool.and_self, if_true]
  congr 1
  clear h1 h2
  induction cs with
  | nil => rfl
  | cons a cs ih =>
    simp only [ln, List.map_cons, List.any_cons] at ih ⊢
    rw [ih, eqv_int]
    by_cases e : a = c
    · subst e; simp
    · have : ¬ ((a : Int) = (c : Int)) := by omega
      simp [this, Ne.symm e]
theorem e2_run {f : D → D → Option D} {p q : Rho → Option D} {ρ : Rho} {x y d : D} (h1 : p ρ = some x) (h2 : q ρ = some y) (h : f x y = some d) : e2 f p q ρ = some d := by
  unfold e2
  rw [h1, Option.bind_some, h2]
  exact h
theorem e1_run {f : D → Option D} {p : Rho → Option D} {ρ : Rho} {x d : D} (h1 : p ρ = some x) (h : f x = some d) : e1 f p ρ = some d := by
  unfold e1
  rw [h1]
  exact h
theorem eB_run {p : Rho → Option D} {ρ : Rho} {b : Bool} (h : p ρ = some (.bl b)) : eB p ρ = some b := by
  unfold eB
  rw [h]; rfl
section
variable {T : List (List Int)} {n : Nat} {cs : List Nat} {m : Int}
def ext (n : Nat) (s : List Nat) : List (List Nat) := ((List.range n).filter fun c => !decide (c ∈ s)).map fun c => s ++ [c]
def allC (n : Nat) : Nat → List (List Nat)
  | 0 => [[]]
  | k + 1 => (allC n k).flatMap (ext n)
theorem ext_len (s : List Nat) : (ext n s).length ≤ n := by
  unfold ext
  rw [List.length_map]
  exact Nat.le_trans (List.length_filter_le _ _) (by simp)
theorem flat_len (L : List (List Nat)) : (L.flatMap (ext n)).length ≤ L.length * n := by
  induction L with
  | nil => simp
  | cons s L ih =>
    rw [List.flatMap_cons, List.length_append, List.length_cons, Nat.succ_mul]
    have := ext_len (n := n) s
    omega
theorem allC_len : ∀ k, (allC n k).length ≤ n ^ k
  | 0 => by simp [allC]
  | k + 1 => by
    unfold allC
    rw [Nat.pow_succ]
    exact Nat.le_trans (flat_len _) (Nat.mul_le_mul_right n (allC_len k))
theorem mem_allC : ∀ {k : Nat} {L : List Nat}, L ∈ allC n k ↔ L.length = k ∧ L.Nodup ∧ ∀ x ∈ L, x < n
  | 0, L => by
    simp only [allC, List.mem_singleton]
    constructor
    · rintro rfl; simp
    · rintro ⟨h, _⟩; exact List.eq_nil_of_length_eq_zero h
  | k + 1, L => by
    simp only [allC, List.mem_flatMap, ext, List.mem_map, List.mem_filter, List.mem_range]
    constructor
    · rintro ⟨s, hs, c, ⟨hc, hn⟩, rfl⟩
      obtain ⟨h1, h2, h3⟩ := mem_allC.mp hs
      have hn' : c ∉ s := by simpa using hn
      refine ⟨by simp [h1], ?_, fun x hx => ?_⟩
      · rw [List.nodup_append]
        exact ⟨h2, by simp, fun a ha b hb e => by
          have : b = c := by simpa using hb
          subst this; subst e; exact hn' ha⟩
      · rcases List.mem_append.mp hx with hx | hx
        · exact h3 x hx
        · have : x = c := by simpa using hx
          subst this; exact hc
    · rintro ⟨h1, h2, h3⟩
      have hne : L ≠ [] := fun e => by subst e; simp at h1
      have e := List.dropLast_concat_getLast hne
      have nd2 : (L.dropLast ++ [L.getLast hne]).Nodup := by rw [e]; exact h2
      rw [List.nodup_append] at nd2
      refine ⟨L.dropLast, mem_allC.mpr ⟨by simp [h1], nd2.1, fun x hx => h3 x (List.dropLast_subset _ hx)⟩, L.getLast hne, ⟨h3 _ (List.getLast_mem hne), ?_⟩, e⟩
      simp only [Bool.not_eq_true', decide_eq_false_iff_not]
      exact fun q => nd2.2.2 _ q _ (by simp) rfl
theorem addD_lst {xs ys : List D} (h : xs.length + ys.length ≤ cap) : addD (.lst xs) (.lst ys) = some (.lst (xs ++ ys)) := by
  unfold addD
  simp only
  rw [if_pos h]
def eLL (L : List (List Nat)) : List D := L.map fun s => .lst (ln s)
theorem eL1 {p : Rho → Option D} {ρ : Rho} {d : D} (h : p ρ = some d) : eL (sCons p sNil) ρ = some (.lst [d]) := by
  unfold eL sCons sNil
  simp only [h, Option.bind_some, Option.map_some]
  exact if_pos (le_cap (by simp))
theorem ext_run (h6 : n ≤ 6) {s : List Nat} (hs : s.length ≤ 100) {c1 c2 c3 : Option D} : eComp [5] (iRg1 (eVar 0)) (bName 5) (eB (e2 notInD (eVar 5) (eVar 4))) (e2 addD (eVar 4) (eL (sCons (eVar 5) sNil))) [some (.int (n : Int)), c1, c2, c3, some (.lst (ln s)), none] = some (.lst (eLL (ext n s))) := by
  have h := compL_map (f := compF [some (.int (n : Int)), c1, c2, c3, some (.lst (ln s)), none] [5] (bName 5) (eB (e2 notInD (eVar 5) (eVar 4))) (e2 addD (eVar 4) (eL (sCons (eVar 5) sNil)))) (fun c : Nat => D.int (c : Int)) (fun c => if (!decide (c ∈ s)) = true then some (D.lst (ln (s ++ [c]))) else none) (List.range n) fun c hc => by
    refine compF_run (ρ1 := [some (.int (n : Int)), c1, c2, c3, some (.lst (ln s)), some (.int (c : Int))]) rfl ?_ fun _ => ?_
    · have : e2 notInD (eVar 5) (eVar 4) [some (.int (n : Int)), c1, c2, c3, some (.lst (ln s)), some (.int (c : Int))] = some (.bl (!decide (c ∈ s))) := by
        show (memb (.int (c : Int)) (.lst (ln s))).map (fun b => D.bl !b) = _
        rw [memb_ln]; rfl
      unfold eB
      rw [this]; rfl
    · have e1' : eL (sCons (eVar 5) sNil) [some (.int (n : Int)), c1, c2, c3, some (.lst (ln s)), some (.int (c : Int))] = some (.lst [.int (c : Int)]) := eL1 rfl
      unfold e2
      rw [e1']
      show addD (.lst (ln s)) (.lst [.int (c : Int)]) = _
      rw [addD_lst (le_cap (by rw [ln_len]; simp; omega))]
      simp [ln]
  have hk : ((List.range n).filterMap fun c => if (!decide (c ∈ s)) = true then some (D.lst (ln (s ++ [c]))) else none) = eLL (ext n s) := by
    unfold eLL ext
    rw [List.map_map]
    generalize List.range n = l
    induction l with
    | nil => rfl
    | cons c l ih =>
      by_cases hc : c ∈ s
      · simp only [List.filterMap_cons, List.filter_cons, hc, decide_true, Bool.not_true, Bool.false_eq_true, if_false]
        exact ih
      · simp only [List.filterMap_cons, List.filter_cons, hc, decide_false, Bool.not_false, if_true, List.map_cons]
        rw [ih]; rfl
  rw [hk] at h
  refine comp_run (ds := (List.range n).map fun c : Nat => D.int (c : Int)) ?_ h
  have := iRg1_run (p := eVar 0) (ρ := [some (.int (n : Int)), c1, c2, c3, some (.lst (ln s)), none]) (n := n) rfl h6
  rw [this, rgD_ln]; rfl
def longB : SM := sSet 3 (M.lift (e2 addD (eVar 3) (eComp [5] (iRg1 (eVar 0)) (bName 5) (eB (e2 notInD (eVar 5) (eVar 4))) (e2 addD (eVar 4) (eL (sCons (eVar 5) sNil))))))
theorem le_cap2 {a : Nat} (h : a ≤ 300000) : a ≤ cap := Nat.le_trans h (by decide +kernel)
theorem long_loop (h6 : n ≤ 6) {c1 c2 : Option D} : ∀ (L : List (List Nat)) (acc : List (List Nat)) (c4 : Option D), (∀ s ∈ L, s.length ≤ 100) → acc.length + L.length * n ≤ 300000 →
    ∃ c4', loopF (bName 4) longB (eLL L) [some (.int (n : Int)), c1, c2, some (.lst (eLL acc)), c4, none] = some (.nx [some (.int (n : Int)), c1, c2, some (.lst (eLL (acc ++ L.flatMap (ext n)))), c4', none])
  | [], acc, c4, _, _ => ⟨c4, by simp [eLL, loopF, sNx]⟩
  | s :: L, acc, c4, hs, hl => by
    rw [List.length_cons, Nat.succ_mul] at hl
    have hel := ext_len (n := n) s
    have hb : longB [some (.int (n : Int)), c1, c2, some (.lst (eLL acc)), some (.lst (ln s)), none] = some (.nx [some (.int (n : Int)), c1, c2, some (.lst (eLL (acc ++ ext n s))), some (.lst (ln s)), none]) := by
      refine set_run (ρ' := [some (.int (n : Int)), c1, c2, some (.lst (eLL acc)), some (.lst (ln s)), none]) (d := .lst (eLL (acc ++ ext n s))) (i := 3) (lift_run ?_)
      refine e2_run (x := .lst (eLL acc)) rfl (ext_run h6 (hs s (by simp))) ?_
      rw [addD_lst (le_cap2 (by simp [eLL]; omega))]
      simp [eLL]
    obtain ⟨c4', h⟩ := long_loop h6 (c1 := c1) (c2 := c2) L (acc ++ ext n s) (some (.lst (ln s))) (fun q hq => hs q (by simp [hq])) (by rw [List.length_append]; omega)
    refine ⟨c4', ?_⟩
    have e : acc ++ (s :: L).flatMap (ext n) = (acc ++ ext n s) ++ L.flatMap (ext n) := by simp
    rw [e]
    exact loop_cons rfl hb h
def placeB : SM := sSeq (sSet 3 (M.lift (eL sNil))) (sSeq (sFor (iItems (eVar 1)) (bName 4) longB) (sSet 1 (M.lift (eVar 3))))
theorem pow6 (h6 : n ≤ 6) {k : Nat} (hk : k ≤ 6) : n ^ k ≤ 46656 := Nat.le_trans (Nat.pow_le_pow_left h6 k) (Nat.le_trans (Nat.pow_le_pow_right (by decide) hk) (by decide))
theorem place_loop (h6 : n ≤ 6) : ∀ (ds : List D) (k : Nat) (c2 c3 c4 : Option D), k + ds.length ≤ 6 →
    ∃ c2' c3' c4', loopF (bName 2) placeB ds [some (.int (n : Int)), some (.lst (eLL (allC n k))), c2, c3, c4, none] = some (.nx [some (.int (n : Int)), some (.lst (eLL (allC n (k + ds.length)))), c2', c3', c4', none])
  | [], k, c2, c3, c4, _ => ⟨c2, c3, c4, rfl⟩
  | d :: ds, k, c2, c3, c4, hk => by
    rw [List.length_cons] at hk
    have h1 := allC_len (n := n) k
    have h2 := pow6 h6 (k := k) (by omega)
    obtain ⟨c4', hl⟩ := long_loop h6 (c1 := some (.lst (eLL (allC n k)))) (c2 := some d) (allC n k) [] c4 (fun s hs => by have := (mem_allC.mp hs).1; omega) (by
      have : (allC n k).length * n ≤ 46656 * 6 := Nat.mul_le_mul (by omega) h6
      simp; omega)
    rw [List.nil_append] at hl
    obtain ⟨e2', e3, e4, h3⟩ := place_loop h6 ds (k + 1) (some d) (some (.lst (eLL (allC n (k + 1))))) c4' (by omega)
    rw [show k + 1 + ds.length = k + (d :: ds).length by simp; omega] at h3
    refine ⟨e2', e3, e4, loop_cons rfl (seq_run (set_run (d := D.lst []) (lift_run ?_)) (seq_run (for_run rfl hl) (set_run (d := D.lst (eLL (allC n (k + 1)))) (lift_run rfl)))) h3⟩
    show (if ([] : List D).length ≤ cap then some (D.lst []) else none) = _
    exact if_pos (le_cap (by simp))
theorem den_allC (h6 : n ≤ 6) : den__law_all_columns [.int (n : Int)] = some (.rt (.lst (eLL (allC n n))) [.int (n : Int)]) := by
  have hs : sem__law_all_columns = sSeq (sSet 1 (M.lift (eL (sCons (eL sNil) sNil)))) (sSeq (sFor (iRg1 (eVar 0)) (bName 2) placeB) (sRet (M.lift (eVar 1)))) := rfl
  have hd : den__law_all_columns = fnD 6 [0] sem__law_all_columns := rfl
  rw [hd, hs]
  obtain ⟨c2, c3, c4, hl⟩ := place_loop h6 (rgD 0 n) 0 none none none (by rw [rgD_len]; omega)
  rw [rgD_len, Nat.zero_add] at hl
  refine fn_rt (seq_run (set_run (d := D.lst (eLL (allC n 0))) (lift_run ?_)) (seq_run (for_run (iRg1_run (p := eVar 0) rfl h6) hl) (ret_run (lift_run rfl)))) rfl
  refine eL1 ?_
  show (if ([] : List D).length ≤ cap then some (D.lst []) else none) = _
  exact if_pos (le_cap (by simp))
end
end K85
end

section
set_option Elab.async false
set_option linter.all false
set_option maxRecDepth 100000
set_option maxHeartbeats 4000000
namespace K85
open PySem L2 DL
theorem sumD_li (ns : List Int) : sumD (.lst (li ns)) = some (.int ns.sum) := by
  show (intsOf (li ns)).map (fun ns => D.int ns.sum) = _
  rw [intsOf_li]; rfl
theorem fm_some {α β : Type} (f : α → β) : ∀ l : List α, l.filterMap (fun a => some (f a)) = l.map f
  | [] => rfl
  | a :: l => by simp [fm_some f l]
section
variable {T : List (List Int)} {n : Nat} {cs : List Nat} {m : Int}
def cellsOf (T : List (List Int)) (L : List Nat) (s : Nat) : List Int := (L.zipIdx s).map fun q => cell T q.2 q.1
theorem cellsOf_sum : ∀ (L : List Nat) (s : Nat), (cellsOf T L s).sum = wsum T s L
  | [], s => rfl
  | c :: L, s => by
    have := cellsOf_sum L (s + 1)
    simp only [cellsOf] at this
    simp only [cellsOf, List.zipIdx_cons, List.map_cons, List.sum_cons, wsum, this]
theorem zi {L : List Nat} (hl : L.length ≤ n) (hx : ∀ x ∈ L, x < n) : ∀ q ∈ L.zipIdx 0, q.2 < n ∧ q.1 < n := fun q hq => by
  obtain ⟨x, i⟩ := q
  have := List.mem_zipIdx hq
  refine ⟨by simp only; omega, hx _ ?_⟩
  rw [this.2.2]; exact List.getElem_mem _
theorem cell2_run (hT : ∀ r ∈ T, r.length = n ∧ ∀ z ∈ r, 0 ≤ z) {a b p : Rho → Option D} {ρ : Rho} {i j : Nat} (hi : i < T.length) (hj : j < n) (h0 : p ρ = some (.tup (enc T))) (h1 : a ρ = some (.int (i : Int))) (h2 : b ρ = some (.int (j : Int))) : e2 ixD (e2 ixD p a) b ρ = some (.int (cell T i j)) := by
  have hx := ix_cell hT hi hj
  rw [ix_row hi, Option.bind_some] at hx
  exact e2_run (e2_run h0 h1 (ix_row hi)) h2 hx
theorem sums_run (hT : ∀ r ∈ T, r.length = n ∧ ∀ z ∈ r, 0 ≤ z) (hn : T.length = n) {L : List Nat} (hl : L.length ≤ n) (hx : ∀ x ∈ L, x < n) {c1 c2 : Option D} :
    e1 sumD (eComp [1, 2] (iEnumD (eVar 3)) (bTup (bsCons (bName 1) (bsCons (bName 2) bsNil))) tbY (e2 ixD (e2 ixD (eVar 0) (eVar 1)) (eVar 2))) [some (.tup (enc T)), c1, c2, some (.lst (ln L))] = some (.int (wsum T 0 L)) := by
  have h := compL_map (f := compF [some (.tup (enc T)), c1, c2, some (.lst (ln L))] [1, 2] (bTup (bsCons (bName 1) (bsCons (bName 2) bsNil))) tbY (e2 ixD (e2 ixD (eVar 0) (eVar 1)) (eVar 2))) (fun p : Nat × Nat => D.tup [.int (p.2 : Int), .int (p.1 : Int)]) (fun q => some (D.int (cell T q.2 q.1))) (L.zipIdx 0) fun q hq => by
    obtain ⟨h1, h2⟩ := zi hl hx q hq
    exact compF_run (ρ1 := [some (.tup (enc T)), some (.int (q.2 : Int)), some (.int (q.1 : Int)), some (.lst (ln L))]) (b := true) rfl rfl fun _ => cell2_run hT (i := q.2) (j := q.1) (by omega) h2 rfl rfl rfl
  rw [fm_some] at h
  have e : (L.zipIdx 0).map (fun q => D.int (cell T q.2 q.1)) = li (cellsOf T L 0) := by simp [li, cellsOf]
  rw [e] at h
  refine e1_run (comp_run ?_ h) (by rw [sumD_li, cellsOf_sum])
  show some (enumD 0 (ln L)) = _
  rw [enumD_ln]
theorem max1_run {ns : List Int} {m : Int} (h1 : m ∈ ns) (h2 : ∀ y ∈ ns, y ≤ m) : max1D (.lst (li ns)) = some (.int m) := by
  show ((intsOf (li ns)).bind maxL).map D.int = _
  rw [intsOf_li, Option.bind_some]
  cases ns with
  | nil => simp at h1
  | cons a ns =>
    obtain ⟨h3, h4⟩ := maxL_spec (ns := a :: ns) (m := ns.foldl max a) rfl
    have : ns.foldl max a = m := Int.le_antisymm (h2 _ h3) (h4 _ h1)
    show some (D.int (ns.foldl max a)) = _
    rw [this]
theorem den_most (hT : ∀ r ∈ T, r.length = n ∧ ∀ z ∈ r, 0 ≤ z) (hn : T.length = n) (h6 : n ≤ 6) (g : Good T n cs m) : den__law_most [.tup (enc T)] = some (.rt (.int m) [.tup (enc T)]) := by
  have hs : sem__law_most = sRet (M.lift (e1 max1D (eComp [3] (iItems (eCall (den__law_all_columns) (sCons (e1 lenD (eVar 0)) sNil))) (bName 3) tbY (e1 sumD (eComp [1, 2] (iEnumD (eVar 3)) (bTup (bsCons (bName 1) (bsCons (bName 2) bsNil))) tbY (e2 ixD (e2 ixD (eVar 0) (eVar 1)) (eVar 2))))))) := rfl
  have hd : den__law_most = fnD 4 [0] sem__law_most := rfl
  rw [hd, hs]
  have hlen : lenD (.tup (enc T)) = some (.int (n : Int)) := by
    show some (D.int ((enc T).length : Int)) = _
    rw [enc_len, hn]
  have h := compL_map (f := compF [some (.tup (enc T)), none, none, none] [3] (bName 3) tbY (e1 sumD (eComp [1, 2] (iEnumD (eVar 3)) (bTup (bsCons (bName 1) (bsCons (bName 2) bsNil))) tbY (e2 ixD (e2 ixD (eVar 0) (eVar 1)) (eVar 2))))) (fun s : List Nat => D.lst (ln s)) (fun s => some (D.int (wsum T 0 s))) (allC n n) fun s hs => by
    obtain ⟨h1, h2, h3⟩ := mem_allC.mp hs
    exact compF_run (ρ1 := [some (.tup (enc T)), none, none, some (.lst (ln s))]) (b := true) rfl rfl fun _ => sums_run hT hn (by omega) h3
  rw [fm_some] at h
  have e : (allC n n).map (fun s => D.int (wsum T 0 s)) = li ((allC n n).map (wsum T 0)) := by simp [li]
  rw [e] at h
  have hp : ∀ s, s ∈ allC n n → s.Perm (List.range n) := fun s hs => by
    obtain ⟨h1, h2, h3⟩ := mem_allC.mp hs
    exact perm_range h2 h1 h3
  refine fn_rt (ret_run (lift_run (e1_run (comp_run ?_ h) (max1_run (m := m) ?_ ?_)))) rfl
  · have : eCall (den__law_all_columns) (sCons (e1 lenD (eVar 0)) sNil) [some (.tup (enc T)), none, none, none] = some (.lst (eLL (allC n n))) := by
      refine call_run (ds := [.int (n : Int)]) ?_ (den_allC h6)
      have : e1 lenD (eVar 0) [some (.tup (enc T)), none, none, none] = some (.int (n : Int)) := hlen
      simp only [sCons, sNil, this, Option.bind_some, Option.map_some]
    show (eCall (den__law_all_columns) (sCons (e1 lenD (eVar 0)) sNil) [some (.tup (enc T)), none, none, none]).bind seqD = _
    rw [this]; rfl
  · exact List.mem_map.mpr ⟨cs, mem_allC.mpr ⟨g.len, g.nd, g.lt⟩, g.sum.symm⟩
  · intro y hy
    obtain ⟨s, hs, rfl⟩ := List.mem_map.mp hy
    exact g.most s (hp s hs)
/-! the pairing, looked at -/
def prd (T : List (List Int)) (q : Nat × Nat) : D := if 0 < cell T q.2 q.1 then D.int (q.1 : Int) else .non
theorem prD_eq : prD T cs 0 = (cs.zipIdx 0).map (prd T) := rfl
theorem enumD_pr : ∀ (cs : List Nat) (s : Nat), enumD s (prD T cs s) = (cs.zipIdx s).map fun q => D.tup [.int (q.2 : Int), prd T q]
  | [], s => rfl
  | c :: cs, s => by
    have := enumD_pr cs (s + 1)
    simp only [prD, List.zipIdx_cons, List.map_cons, enumD] at this ⊢
    rw [this]; rfl
theorem notNon_prd (q : Nat × Nat) : notNonD (prd T q) .non = some (.bl (decide (0 < cell T q.2 q.1))) := by
  unfold prd
  by_cases h : 0 < cell T q.2 q.1
  · rw [if_pos h, decide_eq_true h]; rfl
  · rw [if_neg h, decide_eq_false h]; rfl
/-- the columns that are taken -/
def tk (T : List (List Int)) (cs : List Nat) : List Nat := ((cs.zipIdx 0).filter fun q => decide (0 < cell T q.2 q.1)).map (·.1)
theorem tk_nd (g : Good T n cs m) : (tk T cs).Nodup := by
  have h1 : ((cs.zipIdx 0).filter fun q => decide (0 < cell T q.2 q.1)).map (·.1) |>.Sublist ((cs.zipIdx 0).map (·.1)) := List.Sublist.map _ List.filter_sublist
  have h2 : (cs.zipIdx 0).map (·.1) = cs := by simp
  rw [h2] at h1
  exact h1.nodup g.nd
theorem tk_lt (g : Good T n cs m) : ∀ c ∈ tk T cs, c < n := fun c hc => by
  obtain ⟨q, hq, rfl⟩ := List.mem_map.mp hc
  exact (zi (by rw [g.len]; exact Nat.le_refl _) g.lt q (List.mem_filter.mp hq).1).2
theorem tk_len (g : Good T n cs m) : (tk T cs).length ≤ n := MA.nodup_len n _ (tk_nd g) (tk_lt g)
theorem fm_ite {α β : Type} (p : α → Bool) (f : α → β) : ∀ l : List α, (l.filterMap fun a => if p a = true then some (f a) else none) = (l.filter p).map f
  | [] => rfl
  | a :: l => by
    cases h : p a <;> simp [h, fm_ite p f l]
theorem prd_pos {q : Nat × Nat} (h : 0 < cell T q.2 q.1) : prd T q = .int (q.1 : Int) := if_pos h
def pcs (T : List (List Int)) (cs : List Nat) (s : Nat) : List Int := ((cs.zipIdx s).filter fun q => decide (0 < cell T q.2 q.1)).map fun q => cell T q.2 q.1
theorem pcs_sum (hT : ∀ r ∈ T, r.length = n ∧ ∀ z ∈ r, 0 ≤ z) : ∀ (cs : List Nat) (s : Nat), (pcs T cs s).sum = wsum T s cs
  | [], s => rfl
  | c :: cs, s => by
    have ih := pcs_sum hT cs (s + 1)
    have := cell_nn hT s c
    simp only [pcs] at ih
    by_cases h : 0 < cell T s c
    · simp [pcs, List.zipIdx_cons, h, wsum, ih]
    · simp [pcs, List.zipIdx_cons, h, wsum, ih]; omega
theorem pcs_pos {cs : List Nat} {s : Nat} : ∀ z ∈ pcs T cs s, 0 < z := fun z hz => by
  obtain ⟨q, hq, rfl⟩ := List.mem_map.mp hz
  simpa using (List.mem_filter.mp hq).2
end
end K85
end

section
set_option Elab.async false
set_option linter.all false
set_option maxRecDepth 100000
set_option maxHeartbeats 4000000
namespace K85
open PySem L2 DL
theorem bOr_ff {p q : Rho → Option Bool} {ρ : Rho} (h1 : p ρ = some false) (h2 : q ρ = some false) : bOr p q ρ = some false := by
  unfold bOr
  rw [h1]
  exact h2
theorem bOr_f {p q : Rho → Option Bool} {ρ : Rho} {b : Bool} (h1 : p ρ = some false) (h2 : q ρ = some b) : bOr p q ρ = some b := by
  unfold bOr
  rw [h1]
  exact h2
theorem bNot_t {p : Rho → Option Bool} {ρ : Rho} (h1 : p ρ = some true) : bNot p ρ = some false := by
  unfold bNot
  rw [h1]; rfl
theorem whole_run (c : Int) : den__law_is_whole [.int c] = some (.rt (.bl true) [.int c]) := rfl
theorem chain_run {p q r : Rho → Option D} {ρ : Rho} {a b c : Int} (h1 : p ρ = some (.int a)) (h2 : q ρ = some (.int b)) (h3 : r ρ = some (.int c)) (h4 : a ≤ b) (h5 : b < c) : eChain (cmpD fun i j => decide (i ≤ j)) (cmpD fun i j => decide (i < j)) p q r ρ = some (.bl true) := by
  unfold eChain
  rw [h1, Option.bind_some, h2, Option.bind_some]
  show ((some (D.bl (decide (a ≤ b)))).bind D.toB).bind _ = _
  rw [decide_eq_true h4]
  simp only [Option.bind_some, D.toB, if_true, h3, cmpD]
  rw [decide_eq_true h5]
section
variable {T : List (List Int)} {n : Nat} {cs : List Nat} {m : Int}
theorem len_run {p : Rho → Option D} {ρ : Rho} (hn : T.length = n) (h : p ρ = some (.tup (enc T))) : e1 lenD p ρ = some (.int (n : Int)) := e1_run h (by
  show some (D.int ((enc T).length : Int)) = _
  rw [enc_len, hn])
def chkB : SM := sIf (M.lift (bOr (bNot (eB (eCall (den__law_is_whole) (sCons (eVar 3) sNil)))) (bOr (bNot (eB (eChain (cmpD (fun i j => decide (i ≤ j))) (cmpD (fun i j => decide (i < j))) (eC (.int 0)) (eVar 3) (e1 lenD (eVar 0))))) (eB (e2 gtD (e2 cntD (eVar 2) (eVar 3)) (eC (.int 1)))))))
    (sRet (M.lift (eC .non)))
    sNx
theorem count_le {l : List Nat} (nd : l.Nodup) (c : Nat) : (l.map fun n : Nat => (n : Int)).count (c : Int) ≤ 1 := by
  refine List.nodup_iff_count.mp ?_ _
  rw [List.nodup_iff_pairwise_ne, List.pairwise_map]
  exact (List.nodup_iff_pairwise_ne.mp nd).imp fun h e => h (by omega)
theorem chk_run (hn : T.length = n) {l : List Nat} {c : Nat} (nd : l.Nodup) (hc : c < n) {c1 c4 c5 : Option D} : chkB [some (.tup (enc T)), c1, some (.lst (ln l)), some (.int (c : Int)), c4, c5] = some (.nx [some (.tup (enc T)), c1, some (.lst (ln l)), some (.int (c : Int)), c4, c5]) := by
  refine if_f (lift_run (bOr_ff (bNot_t (eB_run (call_run (ds := [.int (c : Int)]) rfl (whole_run _)))) (bOr_ff (bNot_t (eB_run (chain_run (a := 0) (b := c) (c := n) rfl rfl (len_run hn rfl) (by omega) (by omega)))) (eB_run ?_)))) rfl
  refine e2_run (x := .int (((l.map fun n : Nat => (n : Int)).count (c : Int) : Nat) : Int)) (y := .int 1) (e2_run (x := .lst (ln l)) (y := .int (c : Int)) rfl rfl ?_) rfl ?_
  · show (intsOf (ln l)).map (fun ns => D.int (ns.count (c : Int) : Nat)) = _
    rw [li_ln, intsOf_li]; rfl
  · show some (D.bl (decide ((1 : Int) < _))) = _
    have := count_le nd c
    rw [decide_eq_false (by omega)]
theorem chk_loop (hn : T.length = n) {l : List Nat} (nd : l.Nodup) {c1 c4 c5 : Option D} : ∀ (cl : List Nat) (c3 : Option D), (∀ c ∈ cl, c < n) → ∃ c3', loopF (bName 3) chkB (ln cl) [some (.tup (enc T)), c1, some (.lst (ln l)), c3, c4, c5] = some (.nx [some (.tup (enc T)), c1, some (.lst (ln l)), c3', c4, c5])
  | [], c3, _ => ⟨c3, rfl⟩
  | c :: cl, c3, h => by
    obtain ⟨c3', hl⟩ := chk_loop hn nd (c1 := c1) (c4 := c4) (c5 := c5) cl (some (.int (c : Int))) fun x hx => h x (by simp [hx])
    exact ⟨c3', loop_cons rfl (chk_run hn nd (h c (by simp))) hl⟩
theorem taken_run (g : Good T n cs m) {c0 c2 c4 c5 : Option D} : eComp [3] (iItems (eVar 1)) (bName 3) (eB (e2 notNonD (eVar 3) (eC .non))) (eVar 3) [c0, some (.tup (prD T cs 0)), c2, none, c4, c5] = some (.lst (ln (tk T cs))) := by
  have h := compL_map (f := compF [c0, some (.tup (prD T cs 0)), c2, none, c4, c5] [3] (bName 3) (eB (e2 notNonD (eVar 3) (eC .non))) (eVar 3)) (prd T) (fun q => if (decide (0 < cell T q.2 q.1)) = true then some (prd T q) else none) (cs.zipIdx 0) fun q hq =>
    compF_run (ρ1 := [c0, some (.tup (prD T cs 0)), c2, some (prd T q), c4, c5]) rfl (eB_run (e2_run (x := prd T q) (y := .non) rfl rfl (notNon_prd q))) fun _ => rfl
  rw [fm_ite] at h
  have e : ((cs.zipIdx 0).filter fun q => decide (0 < cell T q.2 q.1)).map (prd T) = ln (tk T cs) := by
    unfold ln tk
    rw [List.map_map]
    refine List.map_congr_left fun q hq => ?_
    have := (List.mem_filter.mp hq).2
    exact prd_pos (by simpa using this)
  rw [e] at h
  exact comp_run rfl h
theorem cells_run (hT : ∀ r ∈ T, r.length = n ∧ ∀ z ∈ r, 0 ≤ z) (hn : T.length = n) (g : Good T n cs m) {c2 c4 c5 : Option D} : eComp [5, 3] (iEnumD (eVar 1)) (bTup (bsCons (bName 5) (bsCons (bName 3) bsNil))) (eB (e2 notNonD (eVar 3) (eC .non))) (e2 ixD (e2 ixD (eVar 0) (eVar 5)) (eVar 3)) [some (.tup (enc T)), some (.tup (prD T cs 0)), c2, c5, c4, none] = some (.lst (li (pcs T cs 0))) := by
  have h := compL_map (f := compF [some (.tup (enc T)), some (.tup (prD T cs 0)), c2, c5, c4, none] [5, 3] (bTup (bsCons (bName 5) (bsCons (bName 3) bsNil))) (eB (e2 notNonD (eVar 3) (eC .non))) (e2 ixD (e2 ixD (eVar 0) (eVar 5)) (eVar 3))) (fun q : Nat × Nat => D.tup [.int (q.2 : Int), prd T q]) (fun q => if (decide (0 < cell T q.2 q.1)) = true then some (D.int (cell T q.2 q.1)) else none) (cs.zipIdx 0) fun q hq => by
    obtain ⟨h1, h2⟩ := zi (by rw [g.len]; exact Nat.le_refl _) g.lt q hq
    refine compF_run (ρ1 := [some (.tup (enc T)), some (.tup (prD T cs 0)), c2, some (prd T q), c4, some (.int (q.2 : Int))]) rfl (eB_run (e2_run (x := prd T q) (y := .non) rfl rfl (notNon_prd q))) fun hb => ?_
    have hp := prd_pos (of_decide_eq_true hb)
    exact cell2_run hT (i := q.2) (j := q.1) (by omega) h2 rfl rfl (by show some (prd T q) = _; rw [hp])
  rw [fm_ite] at h
  have e : ((cs.zipIdx 0).filter fun q => decide (0 < cell T q.2 q.1)).map (fun q => D.int (cell T q.2 q.1)) = li (pcs T cs 0) := by
    unfold li pcs
    rw [List.map_map]; rfl
  rw [e] at h
  refine comp_run ?_ h
  show some (enumD 0 (prD T cs 0)) = _
  rw [enumD_pr]
theorem memb_li {c : Int} {ns : List Int} : memb (.int c) (.lst (li ns)) = some (decide (c ∈ ns)) := by
  unfold memb
  simp only
  have h1 : okE 64 (.int c) = true := rfl
  have h2 : okE 64 (.lst (li ns)) = true := okE_li _
  rw [h1, h2]
  simp only [Bool.and_self, if_true]
  congr 1
  clear h1 h2
  induction ns with
  | nil => rfl
  | cons a ns ih =>
    simp only [li, List.map_cons, List.any_cons] at ih ⊢
    rw [ih, eqv_int]
    by_cases e : a = c
    · subst e; simp
    · simp [e, Ne.symm e]
theorem neD_int_eq {a b : Int} (h : a = b) : neD (.int a) (.int b) = some (.bl false) := by
  rw [neD_int, h]; simp
theorem isi_tup (ds : List D) : isiD "tuple" (.tup ds) = some (.bl true) := rfl
theorem isi_lst (ds : List D) : isiD "list" (.lst ds) = some (.bl true) := rfl
theorem pr_len (g : Good T n cs m) : (prD T cs 0).length = n := by simp [prD, g.len]
theorem den_lweight (hT : ∀ r ∈ T, r.length = n ∧ ∀ z ∈ r, 0 ≤ z) (hn : T.length = n) (g : Good T n cs m) : den__law_weight [.tup (enc T), .tup (prD T cs 0)] = some (.rt (.int m) [.tup (enc T), .tup (prD T cs 0)]) := by
  have hs : sem__law_weight = sSeq (sIf (M.lift (bOr (bNot (eB (e1 (isiD "tuple") (eVar 1)))) (eB (e2 neD (e1 lenD (eVar 1)) (e1 lenD (eVar 0)))))) (sRet (M.lift (eC .non))) sNx)
    (sSeq (sSet 2 (M.lift (eComp [3] (iItems (eVar 1)) (bName 3) (eB (e2 notNonD (eVar 3) (eC .non))) (eVar 3))))
    (sSeq (sFor (iItems (eVar 2)) (bName 3) chkB)
    (sSeq (sSet 4 (M.lift (eComp [5, 3] (iEnumD (eVar 1)) (bTup (bsCons (bName 5) (bsCons (bName 3) bsNil))) (eB (e2 notNonD (eVar 3) (eC .non))) (e2 ixD (e2 ixD (eVar 0) (eVar 5)) (eVar 3)))))
    (sRet (M.lift (eIf (eB (e2 inD (eC (.int 0)) (eVar 4))) (eC .non) (e1 sumD (eVar 4)))))))) := rfl
  have hd : den__law_weight = fnD 6 [0, 0] sem__law_weight := rfl
  rw [hd, hs]
  obtain ⟨c3, hl⟩ := chk_loop hn (tk_nd g) (c1 := some (.tup (prD T cs 0))) (c4 := none) (c5 := none) (tk T cs) none (tk_lt g)
  refine fn_rt (seq_run (if_f (lift_run (bOr_ff (bNot_t (eB_run (e1_run rfl (isi_tup _)))) (eB_run (e2_run (x := .int (n : Int)) (e1_run (x := .tup (prD T cs 0)) rfl ?_) (len_run hn rfl) (neD_int_eq rfl))))) rfl) (seq_run (set_run (lift_run (taken_run g))) (seq_run (for_run rfl hl) (seq_run (set_run (lift_run (cells_run hT hn g))) (ret_run (lift_run ?_)))))) rfl
  · show some (D.int ((prD T cs 0).length : Int)) = _
    rw [pr_len g]
  · have h0 : eB (e2 inD (eC (.int 0)) (eVar 4)) [some (.tup (enc T)), some (.tup (prD T cs 0)), some (.lst (ln (tk T cs))), c3, some (.lst (li (pcs T cs 0))), none] = some false := by
      refine eB_run (e2_run (x := .int 0) (y := .lst (li (pcs T cs 0))) rfl rfl ?_)
      show (memb (.int 0) (.lst (li (pcs T cs 0)))).map D.bl = _
      rw [memb_li]
      have : ¬ (0 : Int) ∈ pcs T cs 0 := fun h => by have := pcs_pos 0 h; omega
      rw [decide_eq_false this]; rfl
    have h1 : e1 sumD (eVar 4) [some (.tup (enc T)), some (.tup (prD T cs 0)), some (.lst (ln (tk T cs))), c3, some (.lst (li (pcs T cs 0))), none] = some (.int m) := e1_run (x := .lst (li (pcs T cs 0))) rfl (by rw [sumD_li, pcs_sum hT, g.sum])
    show eIf _ _ _ [some (.tup (enc T)), some (.tup (prD T cs 0)), some (.lst (ln (tk T cs))), c3, some (.lst (li (pcs T cs 0))), none] = _
    unfold eIf
    rw [h0, Option.bind_some]
    exact h1
end
end K85
end

section
set_option Elab.async false
set_option linter.all false
set_option maxRecDepth 100000
set_option maxHeartbeats 4000000
namespace K85
open PySem L2 DL
theorem fm_none {α β : Type} : ∀ l : List α, l.filterMap (fun _ => (none : Option β)) = []
  | [] => rfl
  | a :: l => by simp [fm_none l]
theorem ne_nil : neD (.lst []) (.lst []) = some (.bl false) := rfl
section
variable {T : List (List Int)} {n : Nat} {cs : List Nat} {m : Int}
/-! prices, looked at by the law -/
def lineB : SM := sSeq (sIf (M.lift (bOr (bNot (eB (e1 (isiD "list") (eVar 3)))) (eB (e2 neD (e1 lenD (eVar 3)) (e1 lenD (eVar 0)))))) (sRet (M.lift (eC (.bl false)))) sNx)
    (sIf (M.lift (eB (e2 neD (eComp [4] (iItems (eVar 3)) (bName 4) (bOr (bNot (eB (eCall (den__law_is_whole) (sCons (eVar 4) sNil)))) (eB (e2 ltD (eVar 4) (eC (.int 0))))) (eVar 4)) (eL sNil)))) (sRet (M.lift (eC (.bl false)))) sNx)
theorem eL0 (ρ : Rho) : eL sNil ρ = some (.lst []) := by
  show (if ([] : List D).length ≤ cap then some (D.lst []) else none) = _
  exact if_pos (le_cap (by decide))
theorem line_run (hn : T.length = n) {f : Nat → Int} (hf : ∀ j, j < n → 0 ≤ f j) {c1 c2 c4 c5 c6 c7 c8 : Option D} (h4 : c4 = none) :
    lineB [some (.tup (enc T)), c1, c2, some (.lst (li (fl n f))), c4, c5, c6, c7, c8] = some (.nx [some (.tup (enc T)), c1, c2, some (.lst (li (fl n f))), c4, c5, c6, c7, c8]) := by
  subst h4
  have hlen : e1 lenD (eVar 3) [some (.tup (enc T)), c1, c2, some (.lst (li (fl n f))), none, c5, c6, c7, c8] = some (.int (n : Int)) := e1_run (x := .lst (li (fl n f))) rfl (by
    show some (D.int ((li (fl n f)).length : Int)) = _
    rw [li_len, fl_len])
  have h := compL_map (f := compF [some (.tup (enc T)), c1, c2, some (.lst (li (fl n f))), none, c5, c6, c7, c8] [4] (bName 4) (bOr (bNot (eB (eCall (den__law_is_whole) (sCons (eVar 4) sNil)))) (eB (e2 ltD (eVar 4) (eC (.int 0))))) (eVar 4)) (fun j : Nat => D.int (f j)) (fun _ => none) (List.range n) fun j hj => by
    have hj' := hf j (List.mem_range.mp hj)
    have := compF_run (ws := [4]) (bind := bName 4) (tb := bOr (bNot (eB (eCall (den__law_is_whole) (sCons (eVar 4) sNil)))) (eB (e2 ltD (eVar 4) (eC (.int 0))))) (p := eVar 4) (ρ := [some (.tup (enc T)), c1, c2, some (.lst (li (fl n f))), none, c5, c6, c7, c8]) (ρ1 := [some (.tup (enc T)), c1, c2, some (.lst (li (fl n f))), some (.int (f j)), c5, c6, c7, c8]) (d := .int (f j)) (b := false) (x := .non) rfl
      (bOr_ff (bNot_t (eB_run (call_run (ds := [.int (f j)]) rfl (whole_run _)))) (eB_run (e2_run (x := .int (f j)) (y := .int 0) rfl rfl (by
        show some (D.bl (decide (f j < 0))) = _
        rw [decide_eq_false (by omega)])))) (fun q => by cases q)
    exact this
  rw [fm_none] at h
  have e : (List.range n).map (fun j => D.int (f j)) = li (fl n f) := by simp [li, fl]
  rw [e] at h
  exact seq_run (if_f (lift_run (bOr_ff (bNot_t (eB_run (e1_run rfl (isi_lst _)))) (eB_run (e2_run hlen (len_run hn rfl) (neD_int_eq rfl))))) rfl)
    (if_f (lift_run (eB_run (e2_run (comp_run rfl h) (eL0 _) ne_nil))) rfl)
def rowsB : SM := sIf (M.lift (eB (e2 neD (eComp [7, 8] (iEnumD (eVar 6)) (bTup (bsCons (bName 7) (bsCons (bName 8) bsNil))) (eB (e2 gtD (eVar 8) (e2 addD (e2 ixD (eVar 1) (eVar 5)) (e2 ixD (eVar 2) (eVar 7))))) (eC (.int 1))) (eL sNil)))) (sRet (M.lift (eC (.bl false)))) sNx
theorem rowsB_run (hT : ∀ r ∈ T, r.length = n ∧ ∀ z ∈ r, 0 ≤ z) (hn : T.length = n) {r p : Nat → Int} (hc : ∀ i j, i < n → j < n → cell T i j ≤ r i + p j) {i : Nat} (hi : i < n) {c0 c3 c4 : Option D} :
    rowsB [c0, some (.lst (li (fl n r))), some (.lst (li (fl n p))), c3, c4, some (.int (i : Int)), some (.tup (li (T.getD i []))), none, none] = some (.nx [c0, some (.lst (li (fl n r))), some (.lst (li (fl n p))), c3, c4, some (.int (i : Int)), some (.tup (li (T.getD i []))), none, none]) := by
  have hi' : i < T.length := by omega
  have hrow : T.getD i [] = T[i] := by simp [List.getD, hi']
  have hl : T[i].length = n := (hT _ (List.getElem_mem hi')).1
  have h := compL_map (f := compF [c0, some (.lst (li (fl n r))), some (.lst (li (fl n p))), c3, c4, some (.int (i : Int)), some (.tup (li (T.getD i []))), none, none] [7, 8] (bTup (bsCons (bName 7) (bsCons (bName 8) bsNil))) (eB (e2 gtD (eVar 8) (e2 addD (e2 ixD (eVar 1) (eVar 5)) (e2 ixD (eVar 2) (eVar 7))))) (eC (.int 1))) (fun q : Int × Nat => D.tup [.int (q.2 : Int), .int q.1]) (fun _ => none) ((T.getD i []).zipIdx 0) fun q hq => by
    obtain ⟨z, j⟩ := q
    have hm := List.mem_zipIdx hq
    have hll : (T.getD i []).length = n := by rw [hrow, hl]
    have hj : j < n := by omega
    have hz : z = cell T i j := by
      show z = (T.getD i []).getD j 0
      rw [List.getD_eq_getElem?_getD, List.getElem?_eq_getElem (by omega), Option.getD_some]
      exact hm.2.2
    have hle := hc i j hi hj
    have := compF_run (ws := [7, 8]) (bind := bTup (bsCons (bName 7) (bsCons (bName 8) bsNil))) (tb := eB (e2 gtD (eVar 8) (e2 addD (e2 ixD (eVar 1) (eVar 5)) (e2 ixD (eVar 2) (eVar 7))))) (p := eC (.int 1)) (ρ := [c0, some (.lst (li (fl n r))), some (.lst (li (fl n p))), c3, c4, some (.int (i : Int)), some (.tup (li (T.getD i []))), none, none])
      (ρ1 := [c0, some (.lst (li (fl n r))), some (.lst (li (fl n p))), c3, c4, some (.int (i : Int)), some (.tup (li (T.getD i []))), some (.int (j : Int)), some (.int z)]) (d := .tup [.int (j : Int), .int z]) (b := false) (x := .non) rfl
      (eB_run (e2_run (x := .int z) (y := .int (r i + p j)) rfl (e2_run (x := .int (r i)) (y := .int (p j)) (e2_run (x := .lst (li (fl n r))) (y := .int (i : Int)) rfl rfl (ix_fl hi)) (e2_run (x := .lst (li (fl n p))) (y := .int (j : Int)) rfl rfl (ix_fl hj)) rfl) (by
        show some (D.bl (decide (r i + p j < z))) = _
        rw [decide_eq_false (by omega)]))) (fun q => by cases q)
    exact this
  rw [fm_none] at h
  refine if_f (lift_run (eB_run (e2_run (comp_run ?_ h) (eL0 _) ne_nil))) rfl
  show some (enumD 0 (li (T.getD i []))) = _
  rw [enumD_li]
theorem rows_loop (hT : ∀ r ∈ T, r.length = n ∧ ∀ z ∈ r, 0 ≤ z) (hn : T.length = n) {r p : Nat → Int} (hc : ∀ i j, i < n → j < n → cell T i j ≤ r i + p j) {c0 c3 c4 : Option D} : ∀ (rows : List (List Int)) (s : Nat) (c5 c6 : Option D), s + rows.length = n → (∀ i, i < rows.length → rows.getD i [] = T.getD (s + i) []) →
    ∃ c5' c6', loopF (bTup (bsCons (bName 5) (bsCons (bName 6) bsNil))) rowsB ((rows.zipIdx s).map fun q => D.tup [.int (q.2 : Int), .tup (li q.1)]) [c0, some (.lst (li (fl n r))), some (.lst (li (fl n p))), c3, c4, c5, c6, none, none] = some (.nx [c0, some (.lst (li (fl n r))), some (.lst (li (fl n p))), c3, c4, c5', c6', none, none])
  | [], s, c5, c6, _, _ => ⟨c5, c6, rfl⟩
  | x :: rows, s, c5, c6, hs, h => by
    simp only [List.length_cons] at hs h
    have hx : x = T.getD s [] := by have := h 0 (by omega); simpa using this
    subst hx
    have h1 := rowsB_run hT hn hc (i := s) (by omega) (c0 := c0) (c3 := c3) (c4 := c4)
    obtain ⟨d5, d6, hl⟩ := rows_loop hT hn hc (c0 := c0) (c3 := c3) (c4 := c4) rows (s + 1) (some (.int (s : Int))) (some (.tup (li (T.getD s [])))) (by omega) fun i hi => by
      have := h (i + 1) (by omega)
      rw [show s + 1 + i = s + (i + 1) by omega, ← this]
      simp
    refine ⟨d5, d6, ?_⟩
    rw [List.zipIdx_cons, List.map_cons]
    exact loop_cons rfl h1 hl
theorem den_lprices (hT : ∀ r ∈ T, r.length = n ∧ ∀ z ∈ r, 0 ≤ z) (hn : T.length = n) {r p : Nat → Int} (hr : ∀ i, i < n → 0 ≤ r i) (hp : ∀ j, j < n → 0 ≤ p j) (hc : ∀ i j, i < n → j < n → cell T i j ≤ r i + p j) :
    den__law_are_prices [.tup (enc T), .lst (li (fl n r)), .lst (li (fl n p))] = some (.rt (.bl true) [.tup (enc T), .lst (li (fl n r)), .lst (li (fl n p))]) := by
  have hs : sem__law_are_prices = sSeq (sFor (iItems (eT (sCons (eVar 1) (sCons (eVar 2) sNil)))) (bName 3) lineB) (sSeq (sFor (iEnumD (eVar 0)) (bTup (bsCons (bName 5) (bsCons (bName 6) bsNil))) rowsB) (sRet (M.lift (eC (.bl true))))) := rfl
  have hd : den__law_are_prices = fnD 9 [0, 0, 0] sem__law_are_prices := rfl
  rw [hd, hs]
  obtain ⟨c5, c6, hl⟩ := rows_loop hT hn hc (c0 := some (.tup (enc T))) (c3 := some (.lst (li (fl n p)))) (c4 := none) T 0 none none (by omega) fun i _ => by rw [Nat.zero_add]
  refine fn_rt (seq_run (for_run (ds := [.lst (li (fl n r)), .lst (li (fl n p))]) ?_ (loop_cons rfl (line_run hn hr rfl) (loop_cons rfl (line_run hn hp rfl) rfl))) (seq_run (for_run ?_ hl) (ret_run (lift_run rfl)))) rfl
  · show (eT (sCons (eVar 1) (sCons (eVar 2) sNil)) [some (.tup (enc T)), some (.lst (li (fl n r))), some (.lst (li (fl n p))), none, none, none, none, none, none]).bind seqD = _
    have : eT (sCons (eVar 1) (sCons (eVar 2) sNil)) [some (.tup (enc T)), some (.lst (li (fl n r))), some (.lst (li (fl n p))), none, none, none, none, none, none] = some (.tup [.lst (li (fl n r)), .lst (li (fl n p))]) := by
      show (if ([D.lst (li (fl n r)), D.lst (li (fl n p))]).length ≤ cap then some (D.tup [D.lst (li (fl n r)), D.lst (li (fl n p))]) else none) = _
      exact if_pos (show (2 : Nat) ≤ cap from le_cap (by decide))
    rw [this]; rfl
  · show some (enumD 0 (enc T)) = _
    rw [enumD_enc]
end
end K85
end

section
set_option Elab.async false
set_option linter.all false
set_option maxRecDepth 100000
set_option maxHeartbeats 4000000
namespace K85
open PySem L2 DL
theorem dd_nodup : ∀ (ns acc : List Int), (acc ++ ns).Nodup → ns.foldl PyProof.Rows.step_dedup acc = acc ++ ns
  | [], acc, _ => by simp
  | k :: ns, acc, h => by
    have hk : ¬ (acc.any (· == k)) = true := fun q => by
      obtain ⟨x, hx, e⟩ := List.any_eq_true.mp q
      have : x = k := by simpa using e
      subst this
      exact (List.nodup_append.mp h).2.2 x hx x (by simp) rfl
    rw [List.foldl_cons]
    have e : PyProof.Rows.step_dedup acc k = acc ++ [k] := by
      unfold PyProof.Rows.step_dedup
      exact if_neg hk
    rw [e, dd_nodup ns (acc ++ [k]) (by simpa using h)]
    simp
theorem sc_run {p : Rho → Option D} {ps : Rho → Option (List D)} {ρ : Rho} {d : D} {ds : List D} (h : p ρ = some d) (hr : ps ρ = some ds) : sCons p ps ρ = some (d :: ds) := by
  unfold sCons
  rw [h, Option.bind_some, hr]; rfl
theorem iswhole_run (c : Int) : den_is_whole [.int c] = some (.rt (.bl true) [.int c]) := rfl
theorem vAnd_t {p q : Rho → Option D} {ρ : Rho} {d : D} (h1 : p ρ = some (.bl true)) (h2 : q ρ = some d) : vAnd p q ρ = some d := by
  unfold vAnd eB
  rw [h1]
  exact h2
theorem vOr_t {p q : Rho → Option D} {ρ : Rho} (h1 : p ρ = some (.bl true)) : vOr p q ρ = some (.bl true) := by
  unfold vOr eB
  rw [h1]; rfl
theorem vOr_f {p q : Rho → Option D} {ρ : Rho} {d : D} (h1 : p ρ = some (.bl false)) (h2 : q ρ = some d) : vOr p q ρ = some d := by
  unfold vOr eB
  rw [h1]
  exact h2
theorem fn_ret {n : Nat} {ks : List Nat} {p : Rho → Option D} {ds outs : List D} {d : D} (h : p (ds.map some ++ List.replicate (n - ds.length) none) = some d) (ho : outsOf ks ds (ds.map some ++ List.replicate (n - ds.length) none) = some outs) : fnD n ks (sRet (M.lift p)) ds = some (.rt d outs) := fn_rt (ret_run (lift_run h)) ho
theorem col_int {n c : Nat} (h : c < n) : den_is_column [.int (n : Int), .int (c : Int)] = some (.rt (.bl true) [.int (n : Int), .int (c : Int)]) :=
  fn_ret (vOr_f (e2_run (x := .int (c : Int)) (y := .non) rfl rfl rfl) (vAnd_t (call_run (ds := [.int (c : Int)]) rfl (iswhole_run _)) (chain_run (a := 0) (b := c) (c := n) rfl rfl rfl (by omega) (by omega)))) rfl
theorem col_non {n : Nat} : den_is_column [.int (n : Int), .non] = some (.rt (.bl true) [.int (n : Int), .non]) :=
  fn_ret (vOr_t (e2_run (x := .non) (y := .non) rfl rfl rfl)) rfl
theorem blsOf_t : ∀ k : Nat, blsOf (List.replicate k (D.bl true)) = some (List.replicate k true)
  | 0 => rfl
  | k + 1 => by
    rw [List.replicate_succ]
    show (blsOf (List.replicate k (D.bl true))).map (true :: ·) = _
    rw [blsOf_t k]; rfl
theorem allD_t (k : Nat) : allD (.lst (List.replicate k (D.bl true))) = some (.bl true) := by
  show (blsOf (List.replicate k (D.bl true))).map (fun ns => D.bl (ns.all id)) = _
  rw [blsOf_t]
  simp
section
variable {T : List (List Int)} {n : Nat} {cs : List Nat} {m : Int}
theorem all_t {α : Type} (l : List α) : l.map (fun _ => D.bl true) = List.replicate l.length (D.bl true) := by
  induction l with
  | nil => rfl
  | cons a l ih => simp [List.replicate_succ, ih]
theorem den_pairing (g : Good T n cs m) (h6 : n ≤ 6) : den_is_pairing [.int (n : Int), .tup (prD T cs 0)] = some (.rt (.bl true) [.int (n : Int), .tup (prD T cs 0)]) := by
  have hs : sem_is_pairing = sSeq (sIf (M.lift (bOr (bNot (eB (e1 (isiD "tuple") (eVar 1)))) (eB (e2 neD (e1 lenD (eVar 1)) (eVar 0))))) (sRet (M.lift (eC (.bl false)))) sNx)
    (sSeq (sIf (M.lift (bNot (eB (e1 allD (eComp [2] (iItems (eVar 1)) (bName 2) tbY (eCall (den_is_column) (sCons (eVar 0) (sCons (eVar 2) sNil)))))))) (sRet (M.lift (eC (.bl false)))) sNx)
    (sSeq (sSet 3 (M.lift (eComp [2] (iItems (eVar 1)) (bName 2) (eB (e2 notNonD (eVar 2) (eC .non))) (eVar 2)))) (sRet (M.lift (e2 eqD (e1 lenSetD (eVar 3)) (e1 lenD (eVar 3))))))) := rfl
  have hd : den_is_pairing = fnD 4 [0, 0] sem_is_pairing := rfl
  rw [hd, hs]
  have h1 := compL_map (f := compF [some (.int (n : Int)), some (.tup (prD T cs 0)), none, none] [2] (bName 2) tbY (eCall (den_is_column) (sCons (eVar 0) (sCons (eVar 2) sNil)))) (prd T) (fun _ => some (D.bl true)) (cs.zipIdx 0) fun q hq => by
    obtain ⟨k1, k2⟩ := zi (by rw [g.len]; exact Nat.le_refl _) g.lt q hq
    refine compF_run (ρ1 := [some (.int (n : Int)), some (.tup (prD T cs 0)), some (prd T q), none]) (b := true) rfl rfl fun _ => ?_
    by_cases h : 0 < cell T q.2 q.1
    · rw [prd_pos h]
      exact call_run (ds := [.int (n : Int), .int (q.1 : Int)]) rfl (col_int k2)
    · have : prd T q = .non := if_neg h
      rw [this]
      exact call_run (ds := [.int (n : Int), .non]) rfl col_non
  rw [fm_some, all_t] at h1
  have h2 := compL_map (f := compF [some (.int (n : Int)), some (.tup (prD T cs 0)), none, none] [2] (bName 2) (eB (e2 notNonD (eVar 2) (eC .non))) (eVar 2)) (prd T) (fun q => if (decide (0 < cell T q.2 q.1)) = true then some (prd T q) else none) (cs.zipIdx 0) fun q hq =>
    compF_run (ρ1 := [some (.int (n : Int)), some (.tup (prD T cs 0)), some (prd T q), none]) rfl (eB_run (e2_run (x := prd T q) (y := .non) rfl rfl (notNon_prd q))) fun _ => rfl
  rw [fm_ite] at h2
  have e : ((cs.zipIdx 0).filter fun q => decide (0 < cell T q.2 q.1)).map (prd T) = ln (tk T cs) := by
    unfold ln tk
    rw [List.map_map]
    refine List.map_congr_left fun q hq => ?_
    have := (List.mem_filter.mp hq).2
    exact prd_pos (by simpa using this)
  rw [e] at h2
  have hlen : e1 lenD (eVar 1) [some (.int (n : Int)), some (.tup (prD T cs 0)), none, none] = some (.int (n : Int)) := e1_run (x := .tup (prD T cs 0)) rfl (by
    show some (D.int ((prD T cs 0).length : Int)) = _
    rw [pr_len g])
  refine fn_rt (seq_run (if_f (lift_run (bOr_ff (bNot_t (eB_run (e1_run rfl (isi_tup _)))) (eB_run (e2_run hlen rfl (neD_int_eq rfl))))) rfl) (seq_run (if_f (lift_run (bNot_t (eB_run (e1_run (comp_run rfl h1) (allD_t _))))) rfl) (seq_run (set_run (lift_run (comp_run rfl h2))) (ret_run (lift_run ?_))))) rfl
  have hdd : lenSetD (.lst (ln (tk T cs))) = some (.int ((tk T cs).length : Int)) := by
    show (intsOf (ln (tk T cs))).bind (fun ns => if ns.length ≤ 4000 then some (D.int (dd ns).length) else none) = _
    rw [li_ln, intsOf_li, Option.bind_some, if_pos (by have := tk_len g; simp; omega)]
    have nd : ((tk T cs).map fun n : Nat => (n : Int)).Nodup := by
      rw [List.nodup_iff_pairwise_ne, List.pairwise_map]
      exact (List.nodup_iff_pairwise_ne.mp (tk_nd g)).imp fun h e => h (by omega)
    rw [show dd ((tk T cs).map fun n : Nat => (n : Int)) = [] ++ ((tk T cs).map fun n : Nat => (n : Int)) from dd_nodup _ [] (by simpa using nd), List.nil_append, List.length_map]
  refine e2_run (e1_run (x := .lst (ln (tk T cs))) rfl hdd) (e1_run (x := .lst (ln (tk T cs))) (d := .int ((tk T cs).length : Int)) rfl ?_) ?_
  · show some (D.int ((ln (tk T cs)).length : Int)) = _
    rw [ln_len]
  · rw [eqD_int]; simp
theorem den_cells : den_cells_of [.tup (prD T cs 0)] = some (.rt (.lst (((cs.zipIdx 0).filter fun q => decide (0 < cell T q.2 q.1)).map fun q => D.tup [.int (q.2 : Int), .int (q.1 : Int)])) [.tup (prD T cs 0)]) := by
  have h := compL_map (f := compF [some (.tup (prD T cs 0)), none, none] [1, 2] (bTup (bsCons (bName 1) (bsCons (bName 2) bsNil))) (eB (e2 notNonD (eVar 2) (eC .non))) (eT (sCons (eVar 1) (sCons (eVar 2) sNil)))) (fun q : Nat × Nat => D.tup [.int (q.2 : Int), prd T q]) (fun q => if (decide (0 < cell T q.2 q.1)) = true then some (D.tup [.int (q.2 : Int), prd T q]) else none) (cs.zipIdx 0) fun q hq =>
    compF_run (ρ1 := [some (.tup (prD T cs 0)), some (.int (q.2 : Int)), some (prd T q)]) rfl (eB_run (e2_run (x := prd T q) (y := .non) rfl rfl (notNon_prd q))) fun _ => by
      show (if ([D.int (q.2 : Int), prd T q]).length ≤ cap then some (D.tup [D.int (q.2 : Int), prd T q]) else none) = _
      exact if_pos (show (2 : Nat) ≤ cap from le_cap (by decide))
  rw [fm_ite] at h
  have e : ((cs.zipIdx 0).filter fun q => decide (0 < cell T q.2 q.1)).map (fun q => D.tup [.int (q.2 : Int), prd T q]) = ((cs.zipIdx 0).filter fun q => decide (0 < cell T q.2 q.1)).map fun q => D.tup [.int (q.2 : Int), .int (q.1 : Int)] := by
    refine List.map_congr_left fun q hq => ?_
    have := (List.mem_filter.mp hq).2
    rw [prd_pos (by simpa using this)]
  rw [e] at h
  refine fn_ret (comp_run ?_ h) rfl
  show some (enumD 0 (prD T cs 0)) = _
  rw [enumD_pr]
theorem den_within (hT : ∀ r ∈ T, r.length = n ∧ ∀ z ∈ r, 0 ≤ z) (hn : T.length = n) (g : Good T n cs m) (h6 : n ≤ 6) : den_is_within [.tup (enc T), .tup (prD T cs 0)] = some (.rt (.bl true) [.tup (enc T), .tup (prD T cs 0)]) := by
  have hs : sem_is_within = sSeq (sIf (M.lift (bNot (eB (eCall (den_is_pairing) (sCons (e1 lenD (eVar 0)) (sCons (eVar 1) sNil)))))) (sRet (M.lift (eC (.bl false)))) sNx)
    (sRet (M.lift (e1 allD (eComp [2, 3] (iItems (eCall (den_cells_of) (sCons (eVar 1) sNil))) (bTup (bsCons (bName 2) (bsCons (bName 3) bsNil))) tbY (e2 gtD (e2 ixD (e2 ixD (eVar 0) (eVar 2)) (eVar 3)) (eC (.int 0))))))) := rfl
  have hd : den_is_within = fnD 4 [0, 0] sem_is_within := rfl
  rw [hd, hs]
  have hl : e1 lenD (eVar 0) [some (.tup (enc T)), some (.tup (prD T cs 0)), none, none] = some (.int (n : Int)) := len_run hn rfl
  have h := compL_map (f := compF [some (.tup (enc T)), some (.tup (prD T cs 0)), none, none] [2, 3] (bTup (bsCons (bName 2) (bsCons (bName 3) bsNil))) tbY (e2 gtD (e2 ixD (e2 ixD (eVar 0) (eVar 2)) (eVar 3)) (eC (.int 0)))) (fun q : Nat × Nat => D.tup [.int (q.2 : Int), .int (q.1 : Int)]) (fun _ => some (D.bl true)) ((cs.zipIdx 0).filter fun q => decide (0 < cell T q.2 q.1)) fun q hq => by
    have hq2 := List.mem_filter.mp hq
    obtain ⟨k1, k2⟩ := zi (by rw [g.len]; exact Nat.le_refl _) g.lt q hq2.1
    have hpos : 0 < cell T q.2 q.1 := by simpa using hq2.2
    refine compF_run (ρ1 := [some (.tup (enc T)), some (.tup (prD T cs 0)), some (.int (q.2 : Int)), some (.int (q.1 : Int))]) (b := true) rfl rfl fun _ => e2_run (y := .int 0) (cell2_run hT (i := q.2) (j := q.1) (by omega) k2 rfl rfl rfl) rfl ?_
    show some (D.bl (decide (0 < cell T q.2 q.1))) = _
    rw [decide_eq_true hpos]
  rw [fm_some, all_t] at h
  refine fn_rt (seq_run (if_f (lift_run (bNot_t (eB_run (call_run (ds := [.int (n : Int), .tup (prD T cs 0)]) ?_ (den_pairing g h6))))) rfl) (ret_run (lift_run (e1_run (comp_run ?_ h) (allD_t _))))) rfl
  · exact sc_run hl (sc_run rfl rfl)
  · have : eCall (den_cells_of) (sCons (eVar 1) sNil) [some (.tup (enc T)), some (.tup (prD T cs 0)), none, none] = some (.lst (((cs.zipIdx 0).filter fun q => decide (0 < cell T q.2 q.1)).map fun q => D.tup [.int (q.2 : Int), .int (q.1 : Int)])) := call_run (ds := [.tup (prD T cs 0)]) rfl den_cells
    show (eCall (den_cells_of) (sCons (eVar 1) sNil) [some (.tup (enc T)), some (.tup (prD T cs 0)), none, none]).bind seqD = _
    rw [this]; rfl
theorem den_areprices {f : Nat → Int} (hf : ∀ j, j < n → 0 ≤ f j) : den_are_prices [.int (n : Int), .lst (li (fl n f))] = some (.rt (.bl true) [.int (n : Int), .lst (li (fl n f))]) := by
  have h := compL_map (f := compF [some (.int (n : Int)), some (.lst (li (fl n f))), none] [2] (bName 2) tbY (vAnd (eCall (den_is_whole) (sCons (eVar 2) sNil)) (e2 geD (eVar 2) (eC (.int 0))))) (fun j : Nat => D.int (f j)) (fun _ => some (D.bl true)) (List.range n) fun j hj => by
    have hj' := hf j (List.mem_range.mp hj)
    refine compF_run (ρ1 := [some (.int (n : Int)), some (.lst (li (fl n f))), some (.int (f j))]) (b := true) rfl rfl fun _ => vAnd_t (call_run (ds := [.int (f j)]) rfl (iswhole_run _)) (e2_run (x := .int (f j)) (y := .int 0) rfl rfl ?_)
    show some (D.bl (decide (0 ≤ f j))) = _
    rw [decide_eq_true hj']
  rw [fm_some, all_t] at h
  have e : (List.range n).map (fun j => D.int (f j)) = li (fl n f) := by simp [li, fl]
  rw [e] at h
  have hlen : e1 lenD (eVar 1) [some (.int (n : Int)), some (.lst (li (fl n f))), none] = some (.int (n : Int)) := e1_run (x := .lst (li (fl n f))) rfl (by
    show some (D.int ((li (fl n f)).length : Int)) = _
    rw [li_len, fl_len])
  exact fn_ret (vAnd_t (e1_run rfl (isi_lst _)) (vAnd_t (e2_run hlen (y := .int (n : Int)) rfl (by rw [eqD_int]; simp)) (e1_run (comp_run rfl h) (allD_t _)))) rfl
theorem den_pweight (hT : ∀ r ∈ T, r.length = n ∧ ∀ z ∈ r, 0 ≤ z) (hn : T.length = n) (g : Good T n cs m) : den_weight [.tup (enc T), .tup (prD T cs 0)] = some (.rt (.int m) [.tup (enc T), .tup (prD T cs 0)]) := by
  have h := compL_map (f := compF [some (.tup (enc T)), some (.tup (prD T cs 0)), none, none] [2, 3] (bTup (bsCons (bName 2) (bsCons (bName 3) bsNil))) (eB (e2 notNonD (eVar 3) (eC .non))) (e2 ixD (e2 ixD (eVar 0) (eVar 2)) (eVar 3))) (fun q : Nat × Nat => D.tup [.int (q.2 : Int), prd T q]) (fun q => if (decide (0 < cell T q.2 q.1)) = true then some (D.int (cell T q.2 q.1)) else none) (cs.zipIdx 0) fun q hq => by
    obtain ⟨h1, h2⟩ := zi (by rw [g.len]; exact Nat.le_refl _) g.lt q hq
    refine compF_run (ρ1 := [some (.tup (enc T)), some (.tup (prD T cs 0)), some (.int (q.2 : Int)), some (prd T q)]) rfl (eB_run (e2_run (x := prd T q) (y := .non) rfl rfl (notNon_prd q))) fun hb => ?_
    have hp := prd_pos (of_decide_eq_true hb)
    exact cell2_run hT (i := q.2) (j := q.1) (by omega) h2 rfl rfl (by show some (prd T q) = _; rw [hp])
  rw [fm_ite] at h
  have e : ((cs.zipIdx 0).filter fun q => decide (0 < cell T q.2 q.1)).map (fun q => D.int (cell T q.2 q.1)) = li (pcs T cs 0) := by
    unfold li pcs
    rw [List.map_map]; rfl
  rw [e] at h
  refine fn_ret (e1_run (comp_run ?_ h) (by rw [sumD_li, pcs_sum hT, g.sum])) rfl
  show some (enumD 0 (prD T cs 0)) = _
  rw [enumD_pr]
end
end K85
end

section
set_option Elab.async false
set_option linter.all false
set_option maxRecDepth 100000
set_option maxHeartbeats 4000000
namespace K85
open PySem L2 DL
section
variable {T : List (List Int)} {n : Nat} {cs : List Nat} {m : Int}
def cntB : SM := sIf (M.lift (eB (e2 gtD (eVar 8) (e2 addD (e2 ixD (eVar 3) (eVar 5)) (e2 ixD (eVar 4) (eVar 7)))))) (sRet (M.lift (eC (.bl false)))) sNx
theorem cnt_loop {r p ti : Nat → Int} {i : Nat} (hi : i < n) (hc : ∀ j, j < n → ti j ≤ r i + p j) {c0 c1 c2 c6 : Option D} : ∀ (ns : List Int) (s : Nat) (c7 c8 : Option D), s + ns.length = n → (∀ j, j < ns.length → ns.getD j 0 = ti (s + j)) →
    ∃ c7' c8', loopF (bTup (bsCons (bName 7) (bsCons (bName 8) bsNil))) cntB ((ns.zipIdx s).map fun q => D.tup [.int (q.2 : Int), .int q.1]) [c0, c1, c2, some (.lst (li (fl n r))), some (.lst (li (fl n p))), some (.int (i : Int)), c6, c7, c8] = some (.nx [c0, c1, c2, some (.lst (li (fl n r))), some (.lst (li (fl n p))), some (.int (i : Int)), c6, c7', c8'])
  | [], s, c7, c8, _, _ => ⟨c7, c8, rfl⟩
  | z :: ns, s, c7, c8, hs, h => by
    simp only [List.length_cons] at hs h
    have hz : z = ti s := by have := h 0 (by omega); simpa using this
    obtain ⟨d7, d8, hl⟩ := cnt_loop hi hc (c0 := c0) (c1 := c1) (c2 := c2) (c6 := c6) ns (s + 1) (some (.int (s : Int))) (some (.int z)) (by omega) fun j hj => by
      have := h (j + 1) (by omega)
      rw [show s + 1 + j = s + (j + 1) by omega, ← this]
      simp
    refine ⟨d7, d8, ?_⟩
    rw [List.zipIdx_cons, List.map_cons]
    refine loop_cons rfl (if_f (lift_run (eB_run (e2_run (x := .int z) (y := .int (r i + p s)) rfl (e2_run (x := .int (r i)) (y := .int (p s)) (e2_run (x := .lst (li (fl n r))) (y := .int (i : Int)) rfl rfl (ix_fl hi)) (e2_run (x := .lst (li (fl n p))) (y := .int (s : Int)) rfl rfl (ix_fl (by omega))) rfl) ?_))) rfl) hl
    show some (D.bl (decide (r i + p s < z))) = _
    have := hc s (by omega)
    rw [decide_eq_false (by omega)]
def outB : SM := sFor (iEnumD (eVar 6)) (bTup (bsCons (bName 7) (bsCons (bName 8) bsNil))) cntB
theorem out_loop (hT : ∀ r ∈ T, r.length = n ∧ ∀ z ∈ r, 0 ≤ z) (hn : T.length = n) {r p : Nat → Int} (hc : ∀ i j, i < n → j < n → cell T i j ≤ r i + p j) {c0 c1 c2 : Option D} : ∀ (rows : List (List Int)) (s : Nat) (c5 c6 c7 c8 : Option D), s + rows.length = n → (∀ i, i < rows.length → rows.getD i [] = T.getD (s + i) []) →
    ∃ c5' c6' c7' c8', loopF (bTup (bsCons (bName 5) (bsCons (bName 6) bsNil))) outB ((rows.zipIdx s).map fun q => D.tup [.int (q.2 : Int), .tup (li q.1)]) [c0, c1, c2, some (.lst (li (fl n r))), some (.lst (li (fl n p))), c5, c6, c7, c8] = some (.nx [c0, c1, c2, some (.lst (li (fl n r))), some (.lst (li (fl n p))), c5', c6', c7', c8'])
  | [], s, c5, c6, c7, c8, _, _ => ⟨c5, c6, c7, c8, rfl⟩
  | x :: rows, s, c5, c6, c7, c8, hs, h => by
    simp only [List.length_cons] at hs h
    have hx : x = T.getD s [] := by have := h 0 (by omega); simpa using this
    subst hx
    have hi' : s < T.length := by omega
    have hll : (T.getD s []).length = n := by
      have : T.getD s [] = T[s] := by simp [List.getD, hi']
      rw [this]; exact (hT _ (List.getElem_mem hi')).1
    obtain ⟨d7, d8, h1⟩ := cnt_loop (ti := cell T s) (r := r) (p := p) (i := s) (n := n) (by omega) (fun j hj => hc s j (by omega) hj) (c0 := c0) (c1 := c1) (c2 := c2) (c6 := some (.tup (li (T.getD s [])))) (T.getD s []) 0 c7 c8 (by omega) fun j hj => by rw [Nat.zero_add]; rfl
    obtain ⟨d5, d6, f7, f8, hl⟩ := out_loop hT hn hc (c0 := c0) (c1 := c1) (c2 := c2) rows (s + 1) (some (.int (s : Int))) (some (.tup (li (T.getD s [])))) d7 d8 (by omega) fun i hi => by
      have := h (i + 1) (by omega)
      rw [show s + 1 + i = s + (i + 1) by omega, ← this]
      simp
    refine ⟨d5, d6, f7, f8, ?_⟩
    rw [List.zipIdx_cons, List.map_cons]
    refine loop_cons rfl (for_run ?_ h1) hl
    show some (enumD 0 (li (T.getD s []))) = _
    rw [enumD_li]
theorem den_isheav (hT : ∀ r ∈ T, r.length = n ∧ ∀ z ∈ r, 0 ≤ z) (hn : T.length = n) (g : Good T n cs m) (h6 : n ≤ 6) : den_is_heaviest [.tup (enc T), .tup (told T n cs)] = some (.rt (.bl true) [.tup (enc T), .tup (told T n cs)]) := by
  have hs : sem_is_heaviest = sSeq (sTup (bTup (bsCons (bName 2) (bsCons (bName 3) (bsCons (bName 4) bsNil)))) (M.lift (eVar 1)))
    (sSeq (sIf (M.lift (bOr (bNot (eB (eCall (den_is_within) (sCons (eVar 0) (sCons (eVar 2) sNil))))) (bOr (bNot (eB (eCall (den_are_prices) (sCons (e1 lenD (eVar 0)) (sCons (eVar 3) sNil))))) (bNot (eB (eCall (den_are_prices) (sCons (e1 lenD (eVar 0)) (sCons (eVar 4) sNil)))))))) (sRet (M.lift (eC (.bl false)))) sNx)
    (sSeq (sFor (iEnumD (eVar 0)) (bTup (bsCons (bName 5) (bsCons (bName 6) bsNil))) outB)
    (sRet (M.lift (e2 eqD (e2 addD (e1 sumD (eVar 3)) (e1 sumD (eVar 4))) (eCall (den_weight) (sCons (eVar 0) (sCons (eVar 2) sNil)))))))) := rfl
  have hd : den_is_heaviest = fnD 9 [0, 0] sem_is_heaviest := rfl
  rw [hd, hs]
  obtain ⟨p1, p2, p3, p4⟩ := g.prices hT
  obtain ⟨c5, c6, c7, c8, hl⟩ := out_loop hT hn p3 (c0 := some (.tup (enc T))) (c1 := some (.tup (told T n cs))) (c2 := some (.tup (prD T cs 0))) T 0 none none none none (by omega) fun i _ => by rw [Nat.zero_add]
  have hlen : ∀ c1 c2 c3 c4 c5 c6 c7 c8 : Option D, e1 lenD (eVar 0) [some (.tup (enc T)), c1, c2, c3, c4, c5, c6, c7, c8] = some (.int (n : Int)) := fun _ _ _ _ _ _ _ _ => len_run hn rfl
  refine fn_rt (seq_run (tup_run (d := .tup (told T n cs)) (ρ2 := [some (.tup (enc T)), some (.tup (told T n cs)), some (.tup (prD T cs 0)), some (.lst (li (fl n (rf T n cs)))), some (.lst (li (fl n (pf T n cs)))), none, none, none, none]) (lift_run rfl) rfl) (seq_run (if_f (lift_run (bOr_ff (bNot_t (eB_run (call_run (ds := [.tup (enc T), .tup (prD T cs 0)]) rfl (den_within hT hn g h6)))) (bOr_ff (bNot_t (eB_run (call_run (sc_run (hlen _ _ _ _ _ _ _ _) (sc_run rfl rfl)) (den_areprices p2)))) (bNot_t (eB_run (call_run (sc_run (hlen _ _ _ _ _ _ _ _) (sc_run rfl rfl)) (den_areprices fun j _ => p1 j))))))) rfl) (seq_run (for_run ?_ hl) (ret_run (lift_run ?_))))) rfl
  · show some (enumD 0 (enc T)) = _
    rw [enumD_enc]
  · refine e2_run (x := .int m) (y := .int m) (e2_run (e1_run (x := .lst (li (fl n (rf T n cs)))) rfl (sumD_li _)) (e1_run (x := .lst (li (fl n (pf T n cs)))) rfl (sumD_li _)) ?_) (call_run (ds := [.tup (enc T), .tup (prD T cs 0)]) rfl (den_pweight hT hn g)) (by rw [eqD_int]; simp)
    show some (D.int ((fl n (rf T n cs)).sum + (fl n (pf T n cs)).sum)) = _
    rw [p4]
end
theorem mMuP_run {i : Nat} {pl : Rho → Option (List Nat)} {f : D → List D → Option (D × D)} {ps : Rho → Option (List D)} {ρ : Rho} {π : List Nat} {d x x' y : D} {ds : List D} (hπ : pl ρ = some π) (hd : slotD ρ i = some d) (hx : getP d π = some x) (hl : isLst x = true) (hps : ps ρ = some ds) (hf : f x ds = some (x', y)) : mMuP i pl f ps ρ = some (.ok y (ρ.set i (some (setP d π x')))) := by
  unfold mMuP
  rw [hπ, Option.bind_some, hd, Option.bind_some, hx, Option.bind_some, if_pos hl, hps, Option.bind_some, hf]; rfl
theorem cut_run {k : Nat} {p : Rho → Option D} {ρ : Rho} {d : D} (h : p ρ = some d) (hf : cutFlat k d = true) : eCut k p ρ = some d := by
  unfold eCut
  rw [h, Option.bind_some]
  exact if_pos hf
end K85
end

section
set_option Elab.async false
set_option linter.all false
set_option maxRecDepth 100000
set_option maxHeartbeats 4000000
namespace K85
open PySem L2 DL
theorem mcall_run {den : Den} {is : List (Option Nat)} {ml : M (List D)} {ρ ρ1 ρ2 : Rho} {ds outs : List D} {d : D} (h : ml ρ = some (.ok ds ρ1)) (hd : den ds = some (.rt d outs)) (hg : gb is outs ρ1 = some ρ2) : mCall den is ml ρ = some (.ok d ρ2) := by
  unfold mCall M.bind
  rw [h]
  simp only [hd, hg, Option.map_some]
theorem lmv_run {i : Nat} {ml : M (List D)} {ρ ρ1 : Rho} {ds : List D} {d0 d : D} (h0 : slotD ρ i = some d0) (h : ml ρ = some (.ok ds ρ1)) (hd : slotD ρ1 i = some d) : lMv i ml ρ = some (.ok (d :: ds) (ρ1.set i none)) := by
  unfold lMv M.bind
  rw [h0, Option.bind_some, h]
  simp only [hd, Option.map_some]
section
variable {T : List (List Int)} {n : Nat} {cs : List Nat} {m : Int}
def turnB : SM := (sSeq (sSet 6 (M.lift (eCall (den_heaviest) (sCons (eVar 3) sNil))))
    (sSeq (sIf (M.lift (bOr (bNot (eB (e1 (isiD "tuple") (eVar 6)))) (bOr (eB (e2 neD (e1 lenD (eVar 6)) (eC (.int 3)))) (eB (e2 neD (eCut 0 (eCall (den__law_weight) (sCons (eVar 3) (sCons (e2 ixD (eVar 6) (eC (.int 0))) sNil)))) (eVar 4))))))
    (sRet (M.lift (eC (.bl false))))
    sNx)
    (sSeq (sIf (M.lift (bOr (bNot (eB (eCut 0 (eCall (den__law_are_prices) (sCons (eVar 3) (sCons (e2 ixD (eVar 6) (eC (.int 1))) (sCons (e2 ixD (eVar 6) (eC (.int 2))) sNil))))))) (eB (e2 neD (e2 addD (e1 sumD (e2 ixD (eVar 6) (eC (.int 1)))) (e1 sumD (e2 ixD (eVar 6) (eC (.int 2))))) (eVar 4)))))
    (sRet (M.lift (eC (.bl false))))
    sNx)
    (sSeq (sIf (M.lift (eB (e2 notBlD (eCut 0 (eCall (den_is_heaviest) (sCons (eVar 3) (sCons (eVar 6) sNil)))) (eC (.bl true)))))
    (sRet (M.lift (eC (.bl false))))
    sNx)
    (sSeq (sExp (mMuP 6 (plIx 6 plVar (eC (.int 1))) appD (sCons (eC .non) sNil)))
    (sSeq (sIf (M.lift (eB (e2 inD (eC .non) (e2 ixD (eVar 6) (eC (.int 2))))))
    (sRet (M.lift (eC (.bl false))))
    sNx)
    (sExp (mMuP 6 (plIx 6 plVar (eC (.int 2))) clrD sNil))))))))
theorem memb_non (ns : List Int) : memb .non (.lst (li ns)) = some false := by
  unfold memb
  simp only
  have h1 : okE 64 .non = true := rfl
  have h2 : okE 64 (.lst (li ns)) = true := okE_li _
  rw [h1, h2]
  simp only [Bool.and_self, if_true]
  congr 1
  clear h1 h2
  induction ns with
  | nil => rfl
  | cons a ns ih =>
    simp only [li, List.map_cons, List.any_cons] at ih ⊢
    rw [ih]; rfl
theorem turnB_run (hT : ∀ r ∈ T, r.length = n ∧ ∀ z ∈ r, 0 ≤ z) (hn : T.length = n) (h6 : n ≤ 6) (hm : m = (bestF T 8 0 (List.range n)).1) {c0 c1 c2 c5 c6 : Option D} :
    ∃ c6', turnB [c0, c1, c2, some (.tup (enc T)), some (.int m), c5, c6] = some (.nx [c0, c1, c2, some (.tup (enc T)), some (.int m), c5, c6']) := by
  have hh := den_heav hT hn h6
  have g := good_best hT hn h6
  rw [← hm] at g
  generalize (bestF T 8 0 (List.range n)).2 = cs at g hh
  obtain ⟨p1, p2, p3, p4⟩ := g.prices hT
  have hnn : ((fl n (rf T n cs)).length) = n := fl_len _ _
  refine ⟨some (.tup [.tup (prD T cs 0), .lst (li (fl n (rf T n cs)) ++ [.non]), .lst []]), ?_⟩
  have e1' : e2 ixD (eVar 6) (eC (.int 1)) [c0, c1, c2, some (.tup (enc T)), some (.int m), c5, some (.tup (told T n cs))] = some (.lst (li (fl n (rf T n cs)))) := rfl
  have e2' : e2 ixD (eVar 6) (eC (.int 2)) [c0, c1, c2, some (.tup (enc T)), some (.int m), c5, some (.tup (told T n cs))] = some (.lst (li (fl n (pf T n cs)))) := rfl
  refine seq_run (set_run (lift_run (call_run (ds := [.tup (enc T)]) rfl hh))) ?_
  refine seq_run (if_f (lift_run (bOr_ff (bNot_t (eB_run (e1_run rfl (isi_tup _)))) (bOr_ff (eB_run (e2_run (x := .int 3) (y := .int 3) rfl rfl (neD_int_eq rfl))) (eB_run (e2_run (x := .int m) (y := .int m) (cut_run (call_run (ds := [.tup (enc T), .tup (prD T cs 0)]) rfl (den_lweight hT hn g)) rfl) rfl (neD_int_eq rfl)))))) rfl) ?_
  refine seq_run (if_f (lift_run (bOr_ff (bNot_t (eB_run (cut_run (call_run (sc_run rfl (sc_run e1' (sc_run e2' rfl))) (den_lprices hT hn p2 (fun j _ => p1 j) p3)) rfl))) (eB_run (e2_run (x := .int m) (y := .int m) (e2_run (e1_run e1' (sumD_li _)) (e1_run e2' (sumD_li _)) ?_) rfl (neD_int_eq rfl))))) rfl) ?_
  · show some (D.int ((fl n (rf T n cs)).sum + (fl n (pf T n cs)).sum)) = _
    rw [p4]
  refine seq_run (if_f (lift_run (eB_run (e2_run (x := .bl true) (y := .bl true) (cut_run (call_run (ds := [.tup (enc T), .tup (told T n cs)]) rfl (den_isheav hT hn g h6)) rfl) rfl rfl))) rfl) ?_
  refine seq_run (exp_run (mMuP_run (i := 6) (π := [1]) (d := .tup (told T n cs)) (x := .lst (li (fl n (rf T n cs)))) rfl rfl rfl rfl (ds := [.non]) rfl (appD_lst (lt_cap (by rw [li_len, fl_len]; omega))))) ?_
  refine seq_run (if_f (lift_run (eB_run (e2_run (x := .non) (y := .lst (li (fl n (pf T n cs)))) rfl rfl ?_))) rfl) ?_
  · show (memb .non (.lst (li (fl n (pf T n cs))))).map D.bl = _
    rw [memb_non]; rfl
  exact exp_run (mMuP_run (i := 6) (π := [2]) (d := .tup [.tup (prD T cs 0), .lst (li (fl n (rf T n cs)) ++ [.non]), .lst (li (fl n (pf T n cs)))]) (x := .lst (li (fl n (pf T n cs)))) rfl rfl rfl rfl (ds := []) rfl rfl)
def chE : Rho → Option D := e2 addD (eL (sCons (eC (.int 2)) (sCons (eC (.int 3)) (sCons (eC (.int 4)) (sCons (eC (.int 5)) sNil))))) (e2 mulD (eL (sCons (eC (.int 6)) sNil)) (e1 intD (e2 eqD (eVar 1) (eC (.int 0)))))
theorem ch_run {k : Nat} (hk : k < 3) (c0 c2 c3 c4 c5 c6 : Option D) : ∃ choices : List D, chE [c0, some (.int (k : Int)), c2, c3, c4, c5, c6] = some (.lst choices) ∧ (0 < choices.length ∧ choices.length < 1073741824) ∧ ∀ c ∈ choices, ∃ z : Nat, c = .int (z : Int) ∧ z ≤ 6 := by
  rcases (by omega : k = 0 ∨ k = 1 ∨ k = 2) with rfl | rfl | rfl
  · exact ⟨[.int 2, .int 3, .int 4, .int 5, .int 6], rfl, by decide, fun c hc => by
      simp only [List.mem_cons, List.not_mem_nil, or_false] at hc
      rcases hc with rfl | rfl | rfl | rfl | rfl
      · exact ⟨2, rfl, by decide⟩
      · exact ⟨3, rfl, by decide⟩
      · exact ⟨4, rfl, by decide⟩
      · exact ⟨5, rfl, by decide⟩
      · exact ⟨6, rfl, by decide⟩⟩
  · exact ⟨[.int 2, .int 3, .int 4, .int 5], rfl, by decide, fun c hc => by
      simp only [List.mem_cons, List.not_mem_nil, or_false] at hc
      rcases hc with rfl | rfl | rfl | rfl
      · exact ⟨2, rfl, by decide⟩
      · exact ⟨3, rfl, by decide⟩
      · exact ⟨4, rfl, by decide⟩
      · exact ⟨5, rfl, by decide⟩⟩
  · exact ⟨[.int 2, .int 3, .int 4, .int 5], rfl, by decide, fun c hc => by
      simp only [List.mem_cons, List.not_mem_nil, or_false] at hc
      rcases hc with rfl | rfl | rfl | rfl
      · exact ⟨2, rfl, by decide⟩
      · exact ⟨3, rfl, by decide⟩
      · exact ⟨4, rfl, by decide⟩
      · exact ⟨5, rfl, by decide⟩⟩
def kB : SM := sSeq (sSet 2 (M.lift (eCall (den__law_feed) (sCons (eVar 0) (sCons (eVar 1) sNil)))))
    (sSeq (sSet 3 (mCall (den__law_table) [some 2, none] (lMv 2 (lCons (mCall (den__law_pick) [some 2, none] (lMv 2 (lCons (M.lift chE) lNil))) lNil))))
    (sSeq (sSet 4 (M.lift (eCall (den__law_most) (sCons (eVar 3) sNil))))
    (sFor (iRg1 (eC (.int 2))) (bName 5) turnB)))
theorem kB_run {ns : List Int} {k : Nat} (hl : ns.length ≤ 63) (hk : k < 3) {c2 c3 c4 c5 c6 : Option D} : ∃ c2' c3' c4' c5' c6', kB [some (.scr ns), some (.int (k : Int)), c2, c3, c4, c5, c6] = some (.nx [some (.scr ns), some (.int (k : Int)), c2', c3', c4', c5', c6']) := by
  obtain ⟨d, x, f1, f2, f3⟩ := den_feed k hl hk
  obtain ⟨choices, h1, h2, h3⟩ := ch_run hk (some (.scr ns)) (some (feedD d x)) c3 c4 c5 c6
  obtain ⟨c, d', x', q1, q2, q3, q4⟩ := den_pick f2 f3 h2
  obtain ⟨n, rfl, h6⟩ := h3 c q2
  obtain ⟨T, d2, x2, t1, t2, t3, t4⟩ := den_table h6 ⟨q3, q4⟩
  have g := good_best t3 t2 h6
  have hm := den_most t3 t2 h6 g
  obtain ⟨c6', u1⟩ := turnB_run t3 t2 h6 rfl (c0 := some (.scr ns)) (c1 := some (.int (k : Int))) (c2 := some (feedD d2 x2)) (c5 := some (.int 0)) (c6 := c6)
  obtain ⟨c6'', u2⟩ := turnB_run t3 t2 h6 rfl (c0 := some (.scr ns)) (c1 := some (.int (k : Int))) (c2 := some (feedD d2 x2)) (c5 := some (.int 1)) (c6 := c6')
  refine ⟨_, _, _, _, _, seq_run (set_run (lift_run (call_run (ds := [.scr ns, .int (k : Int)]) rfl f1))) (seq_run (set_run (mcall_run (lmv_run rfl (l1_run (mcall_run (lmv_run rfl (l1_run (lift_run h1)) rfl) q1 rfl)) rfl) t1 rfl)) (seq_run (set_run (lift_run (call_run (ds := [.tup (enc T)]) rfl hm))) (for_run (iRg1_run (n := 2) rfl (by decide)) (loop_cons rfl u1 (loop_cons rfl u2 rfl)))))⟩
theorem k_loop {ns : List Int} (hl : ns.length ≤ 63) : ∀ (ks : List Nat) (c1 c2 c3 c4 c5 c6 : Option D), (∀ k ∈ ks, k < 3) → ∃ ρ, loopF (bName 1) kB (ln ks) [some (.scr ns), c1, c2, c3, c4, c5, c6] = some (.nx ([some (.scr ns)] ++ ρ))
  | [], c1, c2, c3, c4, c5, c6, _ => ⟨_, rfl⟩
  | k :: ks, c1, c2, c3, c4, c5, c6, h => by
    obtain ⟨d2, d3, d4, d5, d6, h1⟩ := kB_run hl (h k (by simp)) (c2 := c2) (c3 := c3) (c4 := c4) (c5 := c5) (c6 := c6)
    obtain ⟨ρ, h2⟩ := k_loop hl ks (some (.int (k : Int))) d2 d3 d4 d5 d6 fun x hx => h x (by simp [hx])
    exact ⟨ρ, loop_cons rfl h1 h2⟩
end
theorem tru : den_law.Tru := fun ns hl => by
  have hs : sem_law = sSeq (sFor (iRg1 (e2 max2D (eC (.int 1)) (e2 min2D (eC (.int 3)) (e1 lenD (eVar 0))))) (bName 1) kB) (sRet (M.lift (eC (.bl true)))) := rfl
  have hd : den_law = fnD 7 [0] sem_law := rfl
  rw [hd, hs]
  have hK : ∃ K : Nat, K ≤ 3 ∧ e2 max2D (eC (.int 1)) (e2 min2D (eC (.int 3)) (e1 lenD (eVar 0))) [some (.scr ns), none, none, none, none, none, none] = some (.int (K : Int)) := by
    have h1 : e2 min2D (eC (.int 3)) (e1 lenD (eVar 0)) [some (.scr ns), none, none, none, none, none, none] = some (.int (if (ns.length : Int) < 3 then (ns.length : Int) else 3)) := rfl
    have h2 : e2 max2D (eC (.int 1)) (e2 min2D (eC (.int 3)) (e1 lenD (eVar 0))) [some (.scr ns), none, none, none, none, none, none] = some (.int (if (if (ns.length : Int) < 3 then (ns.length : Int) else 3) > 1 then (if (ns.length : Int) < 3 then (ns.length : Int) else 3) else 1)) := rfl
    rw [h2]
    by_cases h3 : (ns.length : Int) < 3
    · rw [if_pos h3]
      by_cases h4 : (ns.length : Int) > 1
      · rw [if_pos h4]; exact ⟨ns.length, by omega, rfl⟩
      · rw [if_neg h4]; exact ⟨1, by decide, rfl⟩
    · rw [if_neg h3]
      exact ⟨3, by decide, rfl⟩
  obtain ⟨K, hK3, hK⟩ := hK
  obtain ⟨ρ, h⟩ := k_loop hl (List.range K) none none none none none none fun k hk => by have := List.mem_range.mp hk; omega
  exact ⟨_, fn_rt (seq_run (for_run ((iRg1_run hK (by omega)).trans (by rw [rgD_ln])) h) (ret_run (lift_run rfl))) rfl⟩
end K85
end

section
set_option Elab.async false
set_option linter.all false
set_option maxRecDepth 100000
set_option maxHeartbeats 4000000
namespace K85
open PySem PySem.Spec PyProof.Rows L2 DL
structure Top (K : PySem.W.Frag) (mg : Str → Option Value) where
  f_is_whole : Addr
  fd_is_whole : FuncData
  F_is_whole : L2.Fun K "is_whole" "is_whole" st_is_whole f_is_whole fd_is_whole
  b_is_whole : L2.Binds K fd_is_whole ["thing"] []
  g_is_whole : mg "is_whole" = some (.ref f_is_whole)
  f_is_column : Addr
  fd_is_column : FuncData
  F_is_column : L2.Fun K "is_column" "is_column" st_is_column f_is_column fd_is_column
  b_is_column : L2.Binds K fd_is_column ["n", "thing"] []
  g_is_column : mg "is_column" = some (.ref f_is_column)
  f_is_pairing : Addr
  fd_is_pairing : FuncData
  F_is_pairing : L2.Fun K "is_pairing" "is_pairing" st_is_pairing f_is_pairing fd_is_pairing
  b_is_pairing : L2.Binds K fd_is_pairing ["n", "thing"] []
  g_is_pairing : mg "is_pairing" = some (.ref f_is_pairing)
  f_cells_of : Addr
  fd_cells_of : FuncData
  F_cells_of : L2.Fun K "cells_of" "cells_of" st_cells_of f_cells_of fd_cells_of
  b_cells_of : L2.Binds K fd_cells_of ["pairing"] []
  g_cells_of : mg "cells_of" = some (.ref f_cells_of)
  f_is_within : Addr
  fd_is_within : FuncData
  F_is_within : L2.Fun K "is_within" "is_within" st_is_within f_is_within fd_is_within
  b_is_within : L2.Binds K fd_is_within ["table", "thing"] []
  g_is_within : mg "is_within" = some (.ref f_is_within)
  f_weight : Addr
  fd_weight : FuncData
  F_weight : L2.Fun K "weight" "weight" st_weight f_weight fd_weight
  b_weight : L2.Binds K fd_weight ["table", "pairing"] []
  g_weight : mg "weight" = some (.ref f_weight)
  f_best_from : Addr
  fd_best_from : FuncData
  F_best_from : L2.Fun K "best_from" "best_from" st_best_from f_best_from fd_best_from
  b_best_from : L2.Binds K fd_best_from ["table", "row", "free"] []
  g_best_from : mg "best_from" = some (.ref f_best_from)
  f_column_prices : Addr
  fd_column_prices : FuncData
  F_column_prices : L2.Fun K "column_prices" "column_prices" st_column_prices f_column_prices fd_column_prices
  b_column_prices : L2.Binds K fd_column_prices ["table", "columns"] []
  g_column_prices : mg "column_prices" = some (.ref f_column_prices)
  f_heaviest : Addr
  fd_heaviest : FuncData
  F_heaviest : L2.Fun K "heaviest" "heaviest" st_heaviest f_heaviest fd_heaviest
  b_heaviest : L2.Binds K fd_heaviest ["table"] []
  g_heaviest : mg "heaviest" = some (.ref f_heaviest)
  f_are_prices : Addr
  fd_are_prices : FuncData
  F_are_prices : L2.Fun K "are_prices" "are_prices" st_are_prices f_are_prices fd_are_prices
  b_are_prices : L2.Binds K fd_are_prices ["n", "thing"] []
  g_are_prices : mg "are_prices" = some (.ref f_are_prices)
  f_is_heaviest : Addr
  fd_is_heaviest : FuncData
  F_is_heaviest : L2.Fun K "is_heaviest" "is_heaviest" st_is_heaviest f_is_heaviest fd_is_heaviest
  b_is_heaviest : L2.Binds K fd_is_heaviest ["table", "told"] []
  g_is_heaviest : mg "is_heaviest" = some (.ref f_is_heaviest)
  f__law_feed : Addr
  fd__law_feed : FuncData
  F__law_feed : L2.Fun K "_law_feed" "_law_feed" st__law_feed f__law_feed fd__law_feed
  b__law_feed : L2.Binds K fd__law_feed ["script", "k"] []
  g__law_feed : mg "_law_feed" = some (.ref f__law_feed)
  f__law_take : Addr
  fd__law_take : FuncData
  F__law_take : L2.Fun K "_law_take" "_law_take" st__law_take f__law_take fd__law_take
  b__law_take : L2.Binds K fd__law_take ["feed", "size"] []
  g__law_take : mg "_law_take" = some (.ref f__law_take)
  f__law_pick : Addr
  fd__law_pick : FuncData
  F__law_pick : L2.Fun K "_law_pick" "_law_pick" st__law_pick f__law_pick fd__law_pick
  b__law_pick : L2.Binds K fd__law_pick ["feed", "choices"] []
  g__law_pick : mg "_law_pick" = some (.ref f__law_pick)
  f__law_is_whole : Addr
  fd__law_is_whole : FuncData
  F__law_is_whole : L2.Fun K "_law_is_whole" "_law_is_whole" st__law_is_whole f__law_is_whole fd__law_is_whole
  b__law_is_whole : L2.Binds K fd__law_is_whole ["thing"] []
  g__law_is_whole : mg "_law_is_whole" = some (.ref f__law_is_whole)
  f__law_table : Addr
  fd__law_table : FuncData
  F__law_table : L2.Fun K "_law_table" "_law_table" st__law_table f__law_table fd__law_table
  b__law_table : L2.Binds K fd__law_table ["feed", "n"] []
  g__law_table : mg "_law_table" = some (.ref f__law_table)
  f__law_all_columns : Addr
  fd__law_all_columns : FuncData
  F__law_all_columns : L2.Fun K "_law_all_columns" "_law_all_columns" st__law_all_columns f__law_all_columns fd__law_all_columns
  b__law_all_columns : L2.Binds K fd__law_all_columns ["n"] []
  g__law_all_columns : mg "_law_all_columns" = some (.ref f__law_all_columns)
  f__law_most : Addr
  fd__law_most : FuncData
  F__law_most : L2.Fun K "_law_most" "_law_most" st__law_most f__law_most fd__law_most
  b__law_most : L2.Binds K fd__law_most ["table"] []
  g__law_most : mg "_law_most" = some (.ref f__law_most)
  f__law_weight : Addr
  fd__law_weight : FuncData
  F__law_weight : L2.Fun K "_law_weight" "_law_weight" st__law_weight f__law_weight fd__law_weight
  b__law_weight : L2.Binds K fd__law_weight ["table", "pairing"] []
  g__law_weight : mg "_law_weight" = some (.ref f__law_weight)
  f__law_are_prices : Addr
  fd__law_are_prices : FuncData
  F__law_are_prices : L2.Fun K "_law_are_prices" "_law_are_prices" st__law_are_prices f__law_are_prices fd__law_are_prices
  b__law_are_prices : L2.Binds K fd__law_are_prices ["table", "rows", "columns"] []
  g__law_are_prices : mg "_law_are_prices" = some (.ref f__law_are_prices)
  f_law : Addr
  fd_law : FuncData
  F_law : L2.Fun K "law" "law" st_law f_law fd_law
  b_law : L2.Binds K fd_law ["script"] []
  g_law : mg "law" = some (.ref f_law)
  z_abs : mg "abs" = none
  z_all : mg "all" = none
  z_bool : mg "bool" = none
  z_enumerate : mg "enumerate" = none
  z_int : mg "int" = none
  z_isinstance : mg "isinstance" = none
  z_len : mg "len" = none
  z_list : mg "list" = none
  z_max : mg "max" = none
  z_min : mg "min" = none
  z_range : mg "range" = none
  z_set : mg "set" = none
  z_sum : mg "sum" = none
  z_tuple : mg "tuple" = none
section
variable {P : Program} {w : World} {K : PySem.W.Frag} {mg : Str → Option Value} {base : Heap} (t : Top K mg)
theorem ok_is_whole : FnOk P w K mg base (L2.CX P w) 1 t.f_is_whole t.fd_is_whole ["thing"] (spF mg [0] 0 den_is_whole) := by
  refine fn_ok (n := 1) (ks := [0]) (kl := []) (body := sem_is_whole) t.F_is_whole sc_is_whole rfl rfl (by decide) fun cdv A outer s H E hr iv W tk => ?_
  unfold sem_is_whole
  exact (s_one (s_ret (MD.le (m2 := .ow 0) (m_of (d_and (d_isi (t := "int") (pe_callB call_isi (by rfl) t.z_isinstance bb_isinstance (pa_cons (d_nm 0) (pa_cons (pe_bltn (by rfl) t.z_int bb_int rfl) pa_nil)))) (d_one (d_not (d_isi (t := "bool") (pe_callB call_isi (by rfl) t.z_isinstance bb_isinstance (pa_cons (d_nm 0) (pa_cons (pe_bltn (by rfl) t.z_bool bb_bool rfl) pa_nil)))))))))))
theorem ok_is_column : FnOk P w K mg base (L2.CX P w) 2 t.f_is_column t.fd_is_column ["n", "thing"] (spF mg [0, 0] 0 den_is_column) := by
  refine fn_ok (n := 2) (ks := [0, 0]) (kl := []) (body := sem_is_column) t.F_is_column sc_is_column rfl rfl (by decide) fun cdv A outer s H E hr iv W tk => ?_
  unfold sem_is_column
  exact (s_one (s_ret (MD.le (m2 := .ow 0) (m_of (d_or (d_cmp op_isN o_isN (d_nm 1) d_non) (d_one (d_and (d_call (ok_is_whole t) (hr.mono (by decide)) t.g_is_whole t.F_is_whole.kp t.b_is_whole (as_cons 0 (d_nm 1) as_nil)) (d_one (d_chain (f := (fun i j => decide (i ≤ j))) (g := (fun i j => decide (i < j))) op_le op_lt d_int (d_nm 1) (d_nm 0))))))))))
theorem ok_is_pairing : FnOk P w K mg base (L2.CX P w) 3 t.f_is_pairing t.fd_is_pairing ["n", "thing"] (spF mg [0, 0] 0 den_is_pairing) := by
  refine fn_ok (n := 4) (ks := [0, 0]) (kl := [0, 0]) (body := sem_is_pairing) t.F_is_pairing sc_is_pairing rfl rfl (by decide) fun cdv A outer s H E hr iv W tk => ?_
  unfold sem_is_pairing
  exact (s_cons (s_if (mb_of (TW.td (tw_or (td_not (td_val (d_isi (t := "tuple") (pe_callB call_isi (by rfl) t.z_isinstance bb_isinstance (pa_cons (d_nm 1) (pa_cons (pe_bltn (by rfl) t.z_tuple bb_tuple rfl) pa_nil)))))) (tw_one (td_cmp (op_neD hr.units) o_ne (d_call1 o_len (pe_callB r_len (by rfl) t.z_len bb_len (pa_cons (d_nm 1) pa_nil))) (d_nm 0))))))
      (s_one (s_ret (MD.le (m2 := .ow 0) (m_of d_bl))))
      s_nil)
      (s_cons (s_if (mb_of (td_not (td_val (d_call1 o_all (pe_callB (cr_all (by rfl)) (by rfl) t.z_all bb_all (pa_cons (d_comp (own := [("one", 2)]) 0 (by rfl) sc_is_pairing.nd (i_seq (d_nm 1)) (blk_of (by rfl)) (fun _ _ _ _ _ => (g_nm 2 sc_is_pairing.nd)) (fun _ _ _ _ _ => t_none) (fun _ _ _ _ _ => (d_call (ok_is_column t) (hr.mono (by decide)) t.g_is_column t.F_is_column.kp t.b_is_column (as_cons 0 (d_nm 0) (as_cons 0 (d_nm 2) as_nil))))) pa_nil))))))
      (s_one (s_ret (MD.le (m2 := .ow 0) (m_of d_bl))))
      s_nil)
      (s_cons (s_setLc0 (own := [("one", 2)]) 3 0 (by rfl) sc_is_pairing.nd (i_seq (d_nm 1)) (blk_of (by rfl)) (fun _ _ _ _ _ => (g_nm 2 sc_is_pairing.nd)) (fun _ _ _ _ _ => (t_one (td_cmp op_notN o_notN (d_nm 2) d_non))) (fun _ _ _ _ _ => (d_nm 2)))
      (s_one (s_ret (MD.le (m2 := .ow 0) (m_of (d_cmp (op_eqD hr.units) o_eq (d_lenSet (by rfl) t.z_len (by rfl) t.z_set (d_nm 3)) (d_call1 o_len (pe_callB r_len (by rfl) t.z_len bb_len (pa_cons (d_nm 3) pa_nil)))))))))))
theorem ok_cells_of : FnOk P w K mg base (L2.CX P w) 1 t.f_cells_of t.fd_cells_of ["pairing"] (spF mg [0] 0 den_cells_of) := by
  refine fn_ok (n := 3) (ks := [0]) (kl := [0, 0]) (body := sem_cells_of) t.F_cells_of sc_cells_of rfl rfl (by decide) fun cdv A outer s H E hr iv W tk => ?_
  unfold sem_cells_of
  exact (s_one (s_ret (MD.le (m2 := .ow 0) (m_of (d_comp (own := [("i", 1), ("j", 2)]) 0 (by rfl) sc_cells_of.nd (i_enum (by rfl) t.z_enumerate (d_nm 0)) (blk_of (by rfl)) (fun _ _ _ _ _ => (g_tup (by rfl) (gs_cons (g_nm 1 sc_cells_of.nd) (gs_cons (g_nm 2 sc_cells_of.nd) gs_nil)) (bs_lenS (bs_lenS bs_len0)))) (fun _ _ _ _ _ => (t_one (td_cmp op_notN o_notN (d_nm 2) d_non))) (fun _ _ _ _ _ => (d_tup (k := 0) (ds_cons (d_nm 1) (ds_cons (d_nm 2) ds_nil)))))))))
theorem ok_is_within : FnOk P w K mg base (L2.CX P w) 4 t.f_is_within t.fd_is_within ["table", "thing"] (spF mg [0, 0] 0 den_is_within) := by
  refine fn_ok (n := 4) (ks := [0, 0]) (kl := [0, 0]) (body := sem_is_within) t.F_is_within sc_is_within rfl rfl (by decide) fun cdv A outer s H E hr iv W tk => ?_
  unfold sem_is_within
  exact (s_cons (s_if (mb_of (td_not (td_val (d_call (ok_is_pairing t) (hr.mono (by decide)) t.g_is_pairing t.F_is_pairing.kp t.b_is_pairing (as_cons 0 (d_call1 o_len (pe_callB r_len (by rfl) t.z_len bb_len (pa_cons (d_nm 0) pa_nil))) (as_cons 0 (d_nm 1) as_nil))))))
      (s_one (s_ret (MD.le (m2 := .ow 0) (m_of d_bl))))
      s_nil)
      (s_one (s_ret (MD.le (m2 := .ow 0) (m_of (d_call1 o_all (pe_callB (cr_all (by rfl)) (by rfl) t.z_all bb_all (pa_cons (d_comp (own := [("i", 2), ("j", 3)]) 0 (by rfl) sc_is_within.nd (i_seq (d_call (ok_cells_of t) (hr.mono (by decide)) t.g_cells_of t.F_cells_of.kp t.b_cells_of (as_cons 0 (d_nm 1) as_nil))) (blk_of (by rfl)) (fun _ _ _ _ _ => (g_tup (by rfl) (gs_cons (g_nm 2 sc_is_within.nd) (gs_cons (g_nm 3 sc_is_within.nd) gs_nil)) (bs_lenS (bs_lenS bs_len0)))) (fun _ _ _ _ _ => t_none) (fun _ _ _ _ _ => (d_cmp op_gt o_cmp (d_op2 (o_ix0 rfl) (pe_ix (r_ix (hu_of hr)) (d_op2 (o_ix0 rfl) (pe_ix (r_ix (hu_of hr)) (d_nm 0) (d_nm 2) (fun _ _ => rfl))) (d_nm 3) (fun _ _ => rfl))) d_int))) pa_nil))))))))
theorem ok_weight : FnOk P w K mg base (L2.CX P w) 1 t.f_weight t.fd_weight ["table", "pairing"] (spF mg [0, 0] 0 den_weight) := by
  refine fn_ok (n := 4) (ks := [0, 0]) (kl := [0, 0]) (body := sem_weight) t.F_weight sc_weight rfl rfl (by decide) fun cdv A outer s H E hr iv W tk => ?_
  unfold sem_weight
  exact (s_one (s_ret (MD.le (m2 := .ow 0) (m_of (d_call1 o_sum (pe_callB (cr_sum (by rfl)) (by rfl) t.z_sum bb_sum (pa_cons (d_comp (own := [("row", 2), ("column", 3)]) 0 (by rfl) sc_weight.nd (i_enum (by rfl) t.z_enumerate (d_nm 1)) (blk_of (by rfl)) (fun _ _ _ _ _ => (g_tup (by rfl) (gs_cons (g_nm 2 sc_weight.nd) (gs_cons (g_nm 3 sc_weight.nd) gs_nil)) (bs_lenS (bs_lenS bs_len0)))) (fun _ _ _ _ _ => (t_one (td_cmp op_notN o_notN (d_nm 3) d_non))) (fun _ _ _ _ _ => (d_op2 (o_ix0 rfl) (pe_ix (r_ix (hu_of hr)) (d_op2 (o_ix0 rfl) (pe_ix (r_ix (hu_of hr)) (d_nm 0) (d_nm 2) (fun _ _ => rfl))) (d_nm 3) (fun _ _ => rfl))))) pa_nil)))))))
theorem ok_best_from : ∀ j : Nat, FnOk P w K mg base (L2.CX P w) (0 + j) t.f_best_from t.fd_best_from ["table", "row", "free"] (spF mg [0, 0, 0] 0 (den_best_from j))
  | 0 => fn_zero
  | j + 1 => by
    have hrec : FnOk P w K mg base (L2.CX P w) (0 + j) t.f_best_from t.fd_best_from ["table", "row", "free"] (spF mg [0, 0, 0] 0 (den_best_from j)) := ok_best_from j
    refine fn_ok (n := 8) (ks := [0, 0, 0]) (kl := [0, 0, 0, 0, 0]) (body := sem_best_from (den_best_from j)) t.F_best_from sc_best_from rfl rfl (by decide) fun cdv A outer s H E hr iv W tk => ?_
    unfold sem_best_from
    exact (s_cons (s_if (mb_of (td_cmp (op_eqD hr.units) o_eq (d_nm 1) (d_call1 o_len (pe_callB r_len (by rfl) t.z_len bb_len (pa_cons (d_nm 0) pa_nil)))))
      (s_one (s_ret (MD.le (m2 := .ow 0) (m_of (d_tup (k := 0) (ds_cons d_int (ds_cons (d_lst (k := 0) ds_nil) ds_nil)))))))
      s_nil)
      (s_cons (s_set 3 0 sc_best_from.nd (m_of (d_tup (k := 0) (ds_cons (d_neg d_int) (ds_cons (d_lst (k := 0) ds_nil) ds_nil)))))
      (s_cons (s_for (passes_of (by rfl)) (by rfl) (i_seq (d_nm 2)) (g_nm 4 sc_best_from.nd)
      (s_cons (s_tup (m_of (d_call (hrec) hr t.g_best_from t.F_best_from.kp t.b_best_from (as_cons 0 (d_nm 0) (as_cons 0 (d_add (d_nm 1) d_int) (as_cons 0 (d_comp (own := [("one", 7)]) 0 (by rfl) sc_best_from.nd (i_seq (d_nm 2)) (blk_of (by rfl)) (fun _ _ _ _ _ => (g_nm 7 sc_best_from.nd)) (fun _ _ _ _ _ => (t_one (td_cmp (op_neD hr.units) o_ne (d_nm 7) (d_nm 4)))) (fun _ _ _ _ _ => (d_nm 7))) as_nil))))) (g_tup (by rfl) (gs_cons (g_nm 5 sc_best_from.nd) (gs_cons (g_nm 6 sc_best_from.nd) gs_nil)) (bs_lenS (bs_lenS bs_len0))))
      (s_one (s_if (mb_of (td_cmp op_gt o_cmp (d_add (d_op2 (o_ix0 rfl) (pe_ix (r_ix (hu_of hr)) (d_op2 (o_ix0 rfl) (pe_ix (r_ix (hu_of hr)) (d_nm 0) (d_nm 1) (fun _ _ => rfl))) (d_nm 4) (fun _ _ => rfl))) (d_nm 5)) (d_op2 (o_ix0 rfl) (pe_ix (r_ix (hu_of hr)) (d_nm 3) d_int (fun _ _ => rfl)))))
      (s_one (s_set 3 0 sc_best_from.nd (m_of (d_tup (k := 0) (ds_cons (d_add (d_op2 (o_ix0 rfl) (pe_ix (r_ix (hu_of hr)) (d_op2 (o_ix0 rfl) (pe_ix (r_ix (hu_of hr)) (d_nm 0) (d_nm 1) (fun _ _ => rfl))) (d_nm 4) (fun _ _ => rfl))) (d_nm 5)) (ds_cons (d_add (d_lst (k := 0) (ds_cons (d_nm 4) ds_nil)) (d_nm 6)) ds_nil))))))
      s_nil))))
      (s_one (s_ret (m_of (d_nm 3)))))))
theorem ok_column_prices : FnOk P w K mg base (L2.CX P w) 1 t.f_column_prices t.fd_column_prices ["table", "columns"] (spF mg [0, 0] 1 den_column_prices) := by
  refine fn_ok (n := 9) (ks := [0, 0]) (kl := [1, 0, 0, 0, 0, 0, 0]) (body := sem_column_prices) t.F_column_prices sc_column_prices rfl rfl (by decide) fun cdv A outer s H E hr iv W tk => ?_
  unfold sem_column_prices
  exact (s_cons (s_set 2 1 sc_column_prices.nd (m_of (d_mul (d_lst (k := 0) (ds_cons d_int ds_nil)) (d_call1 o_len (pe_callB r_len (by rfl) t.z_len bb_len (pa_cons (d_nm 0) pa_nil))))))
      (s_cons (s_for (passes_of (by rfl)) (by rfl) (i_range1 (by rfl) t.z_range (d_call1 o_len (pe_callB r_len (by rfl) t.z_len bb_len (pa_cons (d_nm 0) pa_nil)))) (g_nm 3 sc_column_prices.nd)
      (s_one (s_for (passes_of (by rfl)) (by rfl) (i_enum (by rfl) t.z_enumerate (d_nm 0)) (g_tup (by rfl) (gs_cons (g_nm 4 sc_column_prices.nd) (gs_cons (g_nm 5 sc_column_prices.nd) gs_nil)) (bs_lenS (bs_lenS bs_len0)))
      (s_cons (s_set 6 0 sc_column_prices.nd (m_of (d_sub (d_op2 (o_ixb (k := 0)) (pe_ix (r_ix (hu_of hr)) (d_var 2 1) (d_op2 (o_ix0 rfl) (pe_ix (r_ix (hu_of hr)) (d_nm 1) (d_nm 4) (fun _ _ => rfl))) (fun _ _ => rfl))) (d_op2 (o_ix0 rfl) (pe_ix (r_ix (hu_of hr)) (d_nm 5) (d_op2 (o_ix0 rfl) (pe_ix (r_ix (hu_of hr)) (d_nm 1) (d_nm 4) (fun _ _ => rfl))) (fun _ _ => rfl))))))
      (s_one (s_for (passes_of (by rfl)) (by rfl) (i_enum (by rfl) t.z_enumerate (d_nm 5)) (g_tup (by rfl) (gs_cons (g_nm 7 sc_column_prices.nd) (gs_cons (g_nm 8 sc_column_prices.nd) gs_nil)) (bs_lenS (bs_lenS bs_len0)))
      (s_one (s_stoL 0 (m_of (d_call2 o_max2 (pe_callB (call_max2 (by rfl)) (by rfl) t.z_max bb_max (pa_cons (d_op2 (o_ixb (k := 0)) (pe_ix (r_ix (hu_of hr)) (d_var 2 1) (d_nm 7) (fun _ _ => rfl))) (pa_cons (d_add (d_nm 6) (d_nm 8)) pa_nil))))) (pl_var 2) (d_nm 7)))))))))
      (s_one (s_ret (m_mv 2 1)))))
theorem ok_heaviest : FnOk P w K mg base (L2.CX P w) 9 t.f_heaviest t.fd_heaviest ["table"] (spF mg [0] 2 den_heaviest) := by
  refine fn_ok (n := 7) (ks := [0]) (kl := [0, 1, 1, 0, 0, 1]) (body := sem_heaviest) t.F_heaviest sc_heaviest rfl rfl (by decide) fun cdv A outer s H E hr iv W tk => ?_
  unfold sem_heaviest
  exact (s_cons (s_set 1 0 sc_heaviest.nd (m_of (d_op2 (o_ix0 rfl) (pe_ix (r_ix (hu_of hr)) (d_call (ok_best_from t 8) (hr.mono (by decide)) t.g_best_from t.F_best_from.kp t.b_best_from (as_cons 0 (d_nm 0) (as_cons 0 d_int (as_cons 0 (d_listRg1 (pe_listRg (by rfl) (by rfl) t.z_list (prg_1 (by rfl) t.z_range (d_call1 o_len (pe_callB r_len (by rfl) t.z_len bb_len (pa_cons (d_nm 0) pa_nil)))))) as_nil)))) d_int (fun _ _ => rfl)))))
      (s_cons (s_set 2 1 sc_heaviest.nd (m_of (d_call (ok_column_prices t) (hr.mono (by decide)) t.g_column_prices t.F_column_prices.kp t.b_column_prices (as_cons 0 (d_nm 0) (as_cons 0 (d_nm 1) as_nil)))))
      (s_cons (s_setLc (own := [("row", 4), ("column", 5)]) 3 0 (by rfl) sc_heaviest.nd (i_enum (by rfl) t.z_enumerate (d_nm 1)) (blk_of (by rfl)) (fun _ _ _ _ _ => (g_tup (by rfl) (gs_cons (g_nm 4 sc_heaviest.nd) (gs_cons (g_nm 5 sc_heaviest.nd) gs_nil)) (bs_lenS (bs_lenS bs_len0)))) (fun _ _ _ _ _ => t_none) (fun _ _ _ _ _ => (d_sub (d_op2 (o_ix0 rfl) (pe_ix (r_ix (hu_of hr)) (d_op2 (o_ix0 rfl) (pe_ix (r_ix (hu_of hr)) (d_nm 0) (d_nm 4) (fun _ _ => rfl))) (d_nm 5) (fun _ _ => rfl))) (d_op2 (o_ixb (k := 0)) (pe_ix (r_ix (hu_of hr)) (d_var 2 1) (d_nm 5) (fun _ _ => rfl))))))
      (s_cons (s_set 6 1 sc_heaviest.nd (m_of (d_lst (k := 0) ds_nil)))
      (s_cons (s_for (passes_of (by rfl)) (by rfl) (i_enum (by rfl) t.z_enumerate (d_nm 1)) (g_tup (by rfl) (gs_cons (g_nm 4 sc_heaviest.nd) (gs_cons (g_nm 5 sc_heaviest.nd) gs_nil)) (bs_lenS (bs_lenS bs_len0)))
      (s_one (s_if (mb_of (td_cmp op_gt o_cmp (d_op2 (o_ix0 rfl) (pe_ix (r_ix (hu_of hr)) (d_op2 (o_ix0 rfl) (pe_ix (r_ix (hu_of hr)) (d_nm 0) (d_nm 4) (fun _ _ => rfl))) (d_nm 5) (fun _ _ => rfl))) d_int))
      (s_one (s_expr (m_append (pl_var 6) (ml_cons 0 (m_of (d_nm 5)) ml_nil))))
      (s_one (s_expr (m_append (pl_var 6) (ml_cons 0 (m_of d_non) ml_nil)))))))
      (s_one (s_ret (m_tup 1 (ml_cons 1 (m_of (d_call1 (o_tuple rfl) (pe_callTy call_tuple_of (by rfl) t.z_tuple bb_tuple (pa_cons (d_var 6 1) pa_nil)))) (ml_cons 1 (m_mv 3 1) (ml_cons 1 (m_mv 2 1) ml_nil)))))))))))
theorem ok_are_prices : FnOk P w K mg base (L2.CX P w) 2 t.f_are_prices t.fd_are_prices ["n", "thing"] (spF mg [0, 0] 0 den_are_prices) := by
  refine fn_ok (n := 3) (ks := [0, 0]) (kl := [0]) (body := sem_are_prices) t.F_are_prices sc_are_prices rfl rfl (by decide) fun cdv A outer s H E hr iv W tk => ?_
  unfold sem_are_prices
  exact (s_one (s_ret (MD.le (m2 := .ow 0) (m_of (d_and (d_isi (t := "list") (pe_callB call_isi (by rfl) t.z_isinstance bb_isinstance (pa_cons (d_nm 1) (pa_cons (pe_bltn (by rfl) t.z_list bb_list rfl) pa_nil)))) (d_and (d_cmp (op_eqD hr.units) o_eq (d_call1 o_len (pe_callB r_len (by rfl) t.z_len bb_len (pa_cons (d_nm 1) pa_nil))) (d_nm 0)) (d_one (d_call1 o_all (pe_callB (cr_all (by rfl)) (by rfl) t.z_all bb_all (pa_cons (d_comp (own := [("one", 2)]) 0 (by rfl) sc_are_prices.nd (i_seq (d_nm 1)) (blk_of (by rfl)) (fun _ _ _ _ _ => (g_nm 2 sc_are_prices.nd)) (fun _ _ _ _ _ => t_none) (fun _ _ _ _ _ => (d_and (d_call (ok_is_whole t) (hr.mono (by decide)) t.g_is_whole t.F_is_whole.kp t.b_is_whole (as_cons 0 (d_nm 2) as_nil)) (d_one (d_cmp op_ge o_cmp (d_nm 2) d_int))))) pa_nil))))))))))
theorem ok_is_heaviest : FnOk P w K mg base (L2.CX P w) 5 t.f_is_heaviest t.fd_is_heaviest ["table", "told"] (spF mg [0, 0] 0 den_is_heaviest) := by
  refine fn_ok (n := 9) (ks := [0, 0]) (kl := [0, 0, 0, 0, 0, 0, 0]) (body := sem_is_heaviest) t.F_is_heaviest sc_is_heaviest rfl rfl (by decide) fun cdv A outer s H E hr iv W tk => ?_
  unfold sem_is_heaviest
  exact (s_cons (s_tup (m_of (d_nm 1)) (g_tup (by rfl) (gs_cons (g_nm 2 sc_is_heaviest.nd) (gs_cons (g_nm 3 sc_is_heaviest.nd) (gs_cons (g_nm 4 sc_is_heaviest.nd) gs_nil))) (bs_lenS (bs_lenS (bs_lenS bs_len0)))))
      (s_cons (s_if (mb_of (TW.td (tw_or (td_not (td_val (d_call (ok_is_within t) (hr.mono (by decide)) t.g_is_within t.F_is_within.kp t.b_is_within (as_cons 0 (d_nm 0) (as_cons 0 (d_nm 2) as_nil))))) (tw_or (td_not (td_val (d_call (ok_are_prices t) (hr.mono (by decide)) t.g_are_prices t.F_are_prices.kp t.b_are_prices (as_cons 0 (d_call1 o_len (pe_callB r_len (by rfl) t.z_len bb_len (pa_cons (d_nm 0) pa_nil))) (as_cons 0 (d_nm 3) as_nil))))) (tw_one (td_not (td_val (d_call (ok_are_prices t) (hr.mono (by decide)) t.g_are_prices t.F_are_prices.kp t.b_are_prices (as_cons 0 (d_call1 o_len (pe_callB r_len (by rfl) t.z_len bb_len (pa_cons (d_nm 0) pa_nil))) (as_cons 0 (d_nm 4) as_nil))))))))))
      (s_one (s_ret (MD.le (m2 := .ow 0) (m_of d_bl))))
      s_nil)
      (s_cons (s_for (passes_of (by rfl)) (by rfl) (i_enum (by rfl) t.z_enumerate (d_nm 0)) (g_tup (by rfl) (gs_cons (g_nm 5 sc_is_heaviest.nd) (gs_cons (g_nm 6 sc_is_heaviest.nd) gs_nil)) (bs_lenS (bs_lenS bs_len0)))
      (s_one (s_for (passes_of (by rfl)) (by rfl) (i_enum (by rfl) t.z_enumerate (d_nm 6)) (g_tup (by rfl) (gs_cons (g_nm 7 sc_is_heaviest.nd) (gs_cons (g_nm 8 sc_is_heaviest.nd) gs_nil)) (bs_lenS (bs_lenS bs_len0)))
      (s_one (s_if (mb_of (td_cmp op_gt o_cmp (d_nm 8) (d_add (d_op2 (o_ix0 rfl) (pe_ix (r_ix (hu_of hr)) (d_nm 3) (d_nm 5) (fun _ _ => rfl))) (d_op2 (o_ix0 rfl) (pe_ix (r_ix (hu_of hr)) (d_nm 4) (d_nm 7) (fun _ _ => rfl))))))
      (s_one (s_ret (MD.le (m2 := .ow 0) (m_of d_bl))))
      s_nil)))))
      (s_one (s_ret (MD.le (m2 := .ow 0) (m_of (d_cmp (op_eqD hr.units) o_eq (d_add (d_call1 o_sum (pe_callB (cr_sum (by rfl)) (by rfl) t.z_sum bb_sum (pa_cons (d_nm 3) pa_nil))) (d_call1 o_sum (pe_callB (cr_sum (by rfl)) (by rfl) t.z_sum bb_sum (pa_cons (d_nm 4) pa_nil)))) (d_call (ok_weight t) (hr.mono (by decide)) t.g_weight t.F_weight.kp t.b_weight (as_cons 0 (d_nm 0) (as_cons 0 (d_nm 2) as_nil)))))))))))
theorem ok__law_feed : FnOk P w K mg base (L2.CX P w) 1 t.f__law_feed t.fd__law_feed ["script", "k"] (spF mg [0, 0] 1 den__law_feed) := by
  refine fn_ok (n := 4) (ks := [0, 0]) (kl := [0, 0]) (body := sem__law_feed) t.F__law_feed sc__law_feed rfl rfl (by decide) fun cdv A outer s H E hr iv W tk => ?_
  unfold sem__law_feed
  exact (s_cons (s_set 2 0 sc__law_feed.nd (m_of (d_op2 (o_ix0 rfl) (pe_ix (r_ix (hu_of hr)) (d_add (d_call1 (o_list rfl) (pe_callTy call_list_of (by rfl) t.z_list bb_list (pa_cons (d_slice (d_nm 0) (od_some (d_nm 1)) (od_some (d_add (d_nm 1) d_int))) pa_nil))) (d_lst (k := 0) (ds_cons (d_add (d_mul d_int (d_nm 1)) d_int) ds_nil))) d_int (fun _ _ => rfl)))))
      (s_cons (s_set 3 0 sc__law_feed.nd (m_of (d_call2 o_max2 (pe_callB (call_max2 (by rfl)) (by rfl) t.z_max bb_max (pa_cons d_int (pa_cons (d_sub (d_call1 o_abs (pe_callB call_abs (by rfl) t.z_abs bb_abs (pa_cons (d_nm 2) pa_nil))) (d_pow d_int d_int)) pa_nil))))))
      (s_one (s_ret (m_of (d_lst (k := 0) (ds_cons (d_nm 3) (ds_cons (d_mod (d_call1 o_int (pe_callTy call_int1 (by rfl) t.z_int bb_int (pa_cons (d_add (d_add (d_mul (d_mod (d_call1 o_int (pe_callTy call_int1 (by rfl) t.z_int bb_int (pa_cons (d_call1 o_abs (pe_callB call_abs (by rfl) t.z_abs bb_abs (pa_cons (d_nm 2) pa_nil))) pa_nil))) d_int) d_int) (d_mul d_int (d_nm 1))) d_int) pa_nil))) d_int) ds_nil))))))))
theorem ok__law_take : FnOk P w K mg base (L2.CX P w) 1 t.f__law_take t.fd__law_take ["feed", "size"] (spF mg [1, 0] 0 den__law_take) := by
  refine fn_ok (n := 3) (ks := [1, 0]) (kl := [0]) (body := sem__law_take) t.F__law_take sc__law_take rfl rfl (by decide) fun cdv A outer s H E hr iv W tk => ?_
  unfold sem__law_take
  exact (s_cons (s_if (mb_of (td_cmp op_gt o_cmp (d_op2 (o_ixb (k := 0)) (pe_ix (r_ix (hu_of hr)) (d_var 0 1) d_int (fun _ _ => rfl))) d_int))
      (s_cons (s_set 2 0 sc__law_take.nd (m_of (d_mod (d_call1 o_int (pe_callTy call_int1 (by rfl) t.z_int bb_int (pa_cons (d_op2 (o_ixb (k := 0)) (pe_ix (r_ix (hu_of hr)) (d_var 0 1) d_int (fun _ _ => rfl))) pa_nil))) (d_nm 1))))
      (s_cons (s_stoL 0 (m_of (d_div (d_op2 (o_ixb (k := 0)) (pe_ix (r_ix (hu_of hr)) (d_var 0 1) d_int (fun _ _ => rfl))) (d_nm 1))) (pl_var 0) d_int)
      (s_one (s_ret (m_of (d_nm 2))))))
      s_nil)
      (s_cons (s_stoL 0 (m_of (d_mod (d_call1 o_int (pe_callTy call_int1 (by rfl) t.z_int bb_int (pa_cons (d_add (d_mul (d_op2 (o_ixb (k := 0)) (pe_ix (r_ix (hu_of hr)) (d_var 0 1) d_int (fun _ _ => rfl))) d_int) d_int) pa_nil))) d_int)) (pl_var 0) d_int)
      (s_one (s_ret (MD.le (m2 := .ow 0) (m_of (d_mod (d_call1 o_int (pe_callTy call_int1 (by rfl) t.z_int bb_int (pa_cons (d_div (d_op2 (o_ixb (k := 0)) (pe_ix (r_ix (hu_of hr)) (d_var 0 1) d_int (fun _ _ => rfl))) d_int) pa_nil))) (d_nm 1))))))))
theorem ok__law_pick : FnOk P w K mg base (L2.CX P w) 2 t.f__law_pick t.fd__law_pick ["feed", "choices"] (spF mg [1, 0] 0 den__law_pick) := by
  refine fn_ok (n := 2) (ks := [1, 0]) (kl := []) (body := sem__law_pick) t.F__law_pick sc__law_pick rfl rfl (by decide) fun cdv A outer s H E hr iv W tk => ?_
  unfold sem__law_pick
  exact (s_one (s_ret (m_ix (hu_of hr) (m_of (d_nm 1)) (m_call (is := [some 0, none]) (ok__law_take t) (hr.mono (by decide)) tk t.g__law_take t.F__law_take.kp t.b__law_take (mi_mvL 0 1 (mi_cons 0 (m_of (PD.le (m' := (.ow 0)) (d_call1 o_len (pe_callB r_len (by rfl) t.z_len bb_len (pa_cons (d_nm 1) pa_nil))))) mi_nil))))))
theorem ok__law_is_whole : FnOk P w K mg base (L2.CX P w) 1 t.f__law_is_whole t.fd__law_is_whole ["thing"] (spF mg [0] 0 den__law_is_whole) := by
  refine fn_ok (n := 1) (ks := [0]) (kl := []) (body := sem__law_is_whole) t.F__law_is_whole sc__law_is_whole rfl rfl (by decide) fun cdv A outer s H E hr iv W tk => ?_
  unfold sem__law_is_whole
  exact (s_one (s_ret (MD.le (m2 := .ow 0) (m_of (d_and (d_isi (t := "int") (pe_callB call_isi (by rfl) t.z_isinstance bb_isinstance (pa_cons (d_nm 0) (pa_cons (pe_bltn (by rfl) t.z_int bb_int rfl) pa_nil)))) (d_one (d_not (d_isi (t := "bool") (pe_callB call_isi (by rfl) t.z_isinstance bb_isinstance (pa_cons (d_nm 0) (pa_cons (pe_bltn (by rfl) t.z_bool bb_bool rfl) pa_nil)))))))))))
theorem ok__law_table : FnOk P w K mg base (L2.CX P w) 3 t.f__law_table t.fd__law_table ["feed", "n"] (spF mg [1, 0] 0 den__law_table) := by
  refine fn_ok (n := 7) (ks := [1, 0]) (kl := [1, 0, 0, 0, 0]) (body := sem__law_table) t.F__law_table sc__law_table rfl rfl (by decide) fun cdv A outer s H E hr iv W tk => ?_
  unfold sem__law_table
  exact (s_cons (s_set 2 1 sc__law_table.nd (m_of (d_lst (k := 0) ds_nil)))
      (s_cons (s_set 3 0 sc__law_table.nd (m_call (is := [some 0, none]) (ok__law_take t) (hr.mono (by decide)) tk t.g__law_take t.F__law_take.kp t.b__law_take (mi_mvL 0 1 (mi_cons 0 (m_of (PD.le (m' := (.ow 0)) d_int)) mi_nil))))
      (s_cons (s_for (passes_of (by rfl)) (by rfl) (i_range1 (by rfl) t.z_range (d_nm 1)) (g_nm 4 sc__law_table.nd)
      (s_cons (s_set 5 0 sc__law_table.nd (m_of (d_if (td_cmp (r_lt hr.units0) o_lt (d_nm 3) d_int) (d_lst (k := 0) (ds_cons d_int (ds_cons d_int (ds_cons d_int (ds_cons d_int (ds_cons d_int (ds_cons d_int ds_nil))))))) (d_lst (k := 0) (ds_cons d_int (ds_cons d_int (ds_cons (d_pow d_int d_int) (ds_cons (d_sub (d_pow d_int d_int) d_int) (ds_cons (d_pow d_int d_int) (ds_cons d_int ds_nil))))))))))
      (s_one (s_expr (m_append (pl_var 2) (ml_cons 0 (m_call1 (o_tuple rfl) (pe_callTy call_tuple_of (by rfl) t.z_tuple bb_tuple (pa_cons (MD.le (m2 := (.ow 0)) (m_comp (own := [("column", 6)]) 0 (by rfl) sc__law_table.nd (i_range1 (by rfl) t.z_range (d_nm 1)) (blk_of (by rfl)) (fun _ _ _ _ _ => (g_nm 6 sc__law_table.nd)) (fun _ _ _ _ _ => mt_none) (fun _ _ _ _ _ => (m_if (mb_of (td_cmp (r_lt hr.units0) o_lt (d_nm 3) d_int)) (m_call (is := [some 0, none]) (ok__law_pick t) (hr.mono (by decide)) takes0 t.g__law_pick t.F__law_pick.kp t.b__law_pick (mi_mvL 0 1 (mi_cons 0 (m_of (d_nm 5)) mi_nil))) (m_call (is := [some 0, none]) (ok__law_take t) (hr.mono (by decide)) takes0 t.g__law_take t.F__law_take.kp t.b__law_take (mi_mvL 0 1 (mi_cons 0 (m_of (PD.le (m' := (.ow 0)) d_int)) mi_nil))))))) pa_nil))) ml_nil))))))
      (s_one (s_ret (MD.le (m2 := .ow 0) (m_of (d_call1 (o_tuple rfl) (pe_callTy call_tuple_of (by rfl) t.z_tuple bb_tuple (pa_cons (d_var 2 1) pa_nil))))))))))
theorem ok__law_all_columns : FnOk P w K mg base (L2.CX P w) 1 t.f__law_all_columns t.fd__law_all_columns ["n"] (spF mg [0] 0 den__law_all_columns) := by
  refine fn_ok (n := 6) (ks := [0]) (kl := [0, 0, 0, 0, 0]) (body := sem__law_all_columns) t.F__law_all_columns sc__law_all_columns rfl rfl (by decide) fun cdv A outer s H E hr iv W tk => ?_
  unfold sem__law_all_columns
  exact (s_cons (s_set 1 0 sc__law_all_columns.nd (m_of (d_lst (k := 0) (ds_cons (d_lst (k := 0) ds_nil) ds_nil))))
      (s_cons (s_for (passes_of (by rfl)) (by rfl) (i_range1 (by rfl) t.z_range (d_nm 0)) (g_nm 2 sc__law_all_columns.nd)
      (s_cons (s_set 3 0 sc__law_all_columns.nd (m_of (d_lst (k := 0) ds_nil)))
      (s_cons (s_for (passes_of (by rfl)) (by rfl) (i_seq (d_nm 1)) (g_nm 4 sc__law_all_columns.nd)
      (s_one (s_set 3 0 sc__law_all_columns.nd (m_of (d_add (d_nm 3) (d_comp (own := [("column", 5)]) 0 (by rfl) sc__law_all_columns.nd (i_range1 (by rfl) t.z_range (d_nm 0)) (blk_of (by rfl)) (fun _ _ _ _ _ => (g_nm 5 sc__law_all_columns.nd)) (fun _ _ _ _ _ => (t_one (td_cmp (r_notIn (hu65 hr)) o_notIn (d_nm 5) (d_nm 4) (by with_unfolding_all rfl)))) (fun _ _ _ _ _ => (d_add (d_nm 4) (d_lst (k := 0) (ds_cons (d_nm 5) ds_nil))))))))))
      (s_one (s_set 1 0 sc__law_all_columns.nd (m_of (d_nm 3)))))))
      (s_one (s_ret (m_of (d_nm 1))))))
theorem ok__law_most : FnOk P w K mg base (L2.CX P w) 2 t.f__law_most t.fd__law_most ["table"] (spF mg [0] 0 den__law_most) := by
  refine fn_ok (n := 4) (ks := [0]) (kl := [0, 0, 0]) (body := sem__law_most) t.F__law_most sc__law_most rfl rfl (by decide) fun cdv A outer s H E hr iv W tk => ?_
  unfold sem__law_most
  exact (s_one (s_ret (MD.le (m2 := .ow 0) (m_of (d_call1 o_max1 (pe_callB (cr_max (by rfl)) (by rfl) t.z_max bb_max (pa_cons (d_comp (own := [("one", 3)]) 0 (by rfl) sc__law_most.nd (i_seq (d_call (ok__law_all_columns t) (hr.mono (by decide)) t.g__law_all_columns t.F__law_all_columns.kp t.b__law_all_columns (as_cons 0 (d_call1 o_len (pe_callB r_len (by rfl) t.z_len bb_len (pa_cons (d_nm 0) pa_nil))) as_nil))) (blk_of (by rfl)) (fun _ _ _ _ _ => (g_nm 3 sc__law_most.nd)) (fun _ _ _ _ _ => t_none) (fun _ _ _ _ _ => (d_call1 o_sum (pe_callB (cr_sum (by rfl)) (by rfl) t.z_sum bb_sum (pa_cons (d_comp (own := [("row", 1), ("column", 2)]) 0 (by rfl) sc__law_most.nd (i_enum (by rfl) t.z_enumerate (d_nm 3)) (blk_of (by rfl)) (fun _ _ _ _ _ => (g_tup (by rfl) (gs_cons (g_nm 1 sc__law_most.nd) (gs_cons (g_nm 2 sc__law_most.nd) gs_nil)) (bs_lenS (bs_lenS bs_len0)))) (fun _ _ _ _ _ => t_none) (fun _ _ _ _ _ => (d_op2 (o_ix0 rfl) (pe_ix (r_ix (hu_of hr)) (d_op2 (o_ix0 rfl) (pe_ix (r_ix (hu_of hr)) (d_nm 0) (d_nm 1) (fun _ _ => rfl))) (d_nm 2) (fun _ _ => rfl))))) pa_nil))))) pa_nil)))))))
theorem ok__law_weight : FnOk P w K mg base (L2.CX P w) 2 t.f__law_weight t.fd__law_weight ["table", "pairing"] (spF mg [0, 0] 0 den__law_weight) := by
  refine fn_ok (n := 6) (ks := [0, 0]) (kl := [0, 0, 0, 0]) (body := sem__law_weight) t.F__law_weight sc__law_weight rfl rfl (by decide) fun cdv A outer s H E hr iv W tk => ?_
  unfold sem__law_weight
  exact (s_cons (s_if (mb_of (TW.td (tw_or (td_not (td_val (d_isi (t := "tuple") (pe_callB call_isi (by rfl) t.z_isinstance bb_isinstance (pa_cons (d_nm 1) (pa_cons (pe_bltn (by rfl) t.z_tuple bb_tuple rfl) pa_nil)))))) (tw_one (td_cmp (op_neD hr.units) o_ne (d_call1 o_len (pe_callB r_len (by rfl) t.z_len bb_len (pa_cons (d_nm 1) pa_nil))) (d_call1 o_len (pe_callB r_len (by rfl) t.z_len bb_len (pa_cons (d_nm 0) pa_nil))))))))
      (s_one (s_ret (MD.le (m2 := .ow 0) (m_of d_non))))
      s_nil)
      (s_cons (s_setLc0 (own := [("column", 3)]) 2 0 (by rfl) sc__law_weight.nd (i_seq (d_nm 1)) (blk_of (by rfl)) (fun _ _ _ _ _ => (g_nm 3 sc__law_weight.nd)) (fun _ _ _ _ _ => (t_one (td_cmp op_notN o_notN (d_nm 3) d_non))) (fun _ _ _ _ _ => (d_nm 3)))
      (s_cons (s_for (passes_of (by rfl)) (by rfl) (i_seq (d_nm 2)) (g_nm 3 sc__law_weight.nd)
      (s_one (s_if (mb_of (TW.td (tw_or (td_not (td_val (d_call (ok__law_is_whole t) (hr.mono (by decide)) t.g__law_is_whole t.F__law_is_whole.kp t.b__law_is_whole (as_cons 0 (d_nm 3) as_nil)))) (tw_or (td_not (td_chain (f := (fun i j => decide (i ≤ j))) (g := (fun i j => decide (i < j))) op_le op_lt d_int (d_nm 3) (d_call1 o_len (pe_callB r_len (by rfl) t.z_len bb_len (pa_cons (d_nm 0) pa_nil))))) (tw_one (td_cmp op_gt o_cmp (d_count (d_nm 2) (d_nm 3)) d_int))))))
      (s_one (s_ret (MD.le (m2 := .ow 0) (m_of d_non))))
      s_nil)))
      (s_cons (s_setLc0 (own := [("row", 5), ("column", 3)]) 4 0 (by rfl) sc__law_weight.nd (i_enum (by rfl) t.z_enumerate (d_nm 1)) (blk_of (by rfl)) (fun _ _ _ _ _ => (g_tup (by rfl) (gs_cons (g_nm 5 sc__law_weight.nd) (gs_cons (g_nm 3 sc__law_weight.nd) gs_nil)) (bs_lenS (bs_lenS bs_len0)))) (fun _ _ _ _ _ => (t_one (td_cmp op_notN o_notN (d_nm 3) d_non))) (fun _ _ _ _ _ => (d_op2 (o_ix0 rfl) (pe_ix (r_ix (hu_of hr)) (d_op2 (o_ix0 rfl) (pe_ix (r_ix (hu_of hr)) (d_nm 0) (d_nm 5) (fun _ _ => rfl))) (d_nm 3) (fun _ _ => rfl)))))
      (s_one (s_ret (MD.le (m2 := .ow 0) (m_of (d_if (td_cmp (r_in (hu65 hr)) o_in d_int (d_nm 4) (by with_unfolding_all rfl)) d_non (d_call1 o_sum (pe_callB (cr_sum (by rfl)) (by rfl) t.z_sum bb_sum (pa_cons (d_nm 4) pa_nil))))))))))))
theorem ok__law_are_prices : FnOk P w K mg base (L2.CX P w) 2 t.f__law_are_prices t.fd__law_are_prices ["table", "rows", "columns"] (spF mg [0, 0, 0] 0 den__law_are_prices) := by
  refine fn_ok (n := 9) (ks := [0, 0, 0]) (kl := [0, 0, 0, 0, 0, 0]) (body := sem__law_are_prices) t.F__law_are_prices sc__law_are_prices rfl rfl (by decide) fun cdv A outer s H E hr iv W tk => ?_
  unfold sem__law_are_prices
  exact (s_cons (s_for (passes_of (by rfl)) (by rfl) (i_seq (d_tup (k := 0) (ds_cons (d_nm 1) (ds_cons (d_nm 2) ds_nil)))) (g_nm 3 sc__law_are_prices.nd)
      (s_cons (s_if (mb_of (TW.td (tw_or (td_not (td_val (d_isi (t := "list") (pe_callB call_isi (by rfl) t.z_isinstance bb_isinstance (pa_cons (d_nm 3) (pa_cons (pe_bltn (by rfl) t.z_list bb_list rfl) pa_nil)))))) (tw_one (td_cmp (op_neD hr.units) o_ne (d_call1 o_len (pe_callB r_len (by rfl) t.z_len bb_len (pa_cons (d_nm 3) pa_nil))) (d_call1 o_len (pe_callB r_len (by rfl) t.z_len bb_len (pa_cons (d_nm 0) pa_nil))))))))
      (s_one (s_ret (MD.le (m2 := .ow 0) (m_of d_bl))))
      s_nil)
      (s_one (s_if (mb_of (td_cmp (op_neD hr.units) o_ne (d_comp (own := [("one", 4)]) 0 (by rfl) sc__law_are_prices.nd (i_seq (d_nm 3)) (blk_of (by rfl)) (fun _ _ _ _ _ => (g_nm 4 sc__law_are_prices.nd)) (fun _ _ _ _ _ => (t_one (TW.td (tw_or (td_not (td_val (d_call (ok__law_is_whole t) (hr.mono (by decide)) t.g__law_is_whole t.F__law_is_whole.kp t.b__law_is_whole (as_cons 0 (d_nm 4) as_nil)))) (tw_one (td_cmp (r_lt hr.units0) o_lt (d_nm 4) d_int)))))) (fun _ _ _ _ _ => (d_nm 4))) (d_lst (k := 0) ds_nil)))
      (s_one (s_ret (MD.le (m2 := .ow 0) (m_of d_bl))))
      s_nil))))
      (s_cons (s_for (passes_of (by rfl)) (by rfl) (i_enum (by rfl) t.z_enumerate (d_nm 0)) (g_tup (by rfl) (gs_cons (g_nm 5 sc__law_are_prices.nd) (gs_cons (g_nm 6 sc__law_are_prices.nd) gs_nil)) (bs_lenS (bs_lenS bs_len0)))
      (s_one (s_if (mb_of (td_cmp (op_neD hr.units) o_ne (d_comp (own := [("column", 7), ("count", 8)]) 0 (by rfl) sc__law_are_prices.nd (i_enum (by rfl) t.z_enumerate (d_nm 6)) (blk_of (by rfl)) (fun _ _ _ _ _ => (g_tup (by rfl) (gs_cons (g_nm 7 sc__law_are_prices.nd) (gs_cons (g_nm 8 sc__law_are_prices.nd) gs_nil)) (bs_lenS (bs_lenS bs_len0)))) (fun _ _ _ _ _ => (t_one (td_cmp op_gt o_cmp (d_nm 8) (d_add (d_op2 (o_ix0 rfl) (pe_ix (r_ix (hu_of hr)) (d_nm 1) (d_nm 5) (fun _ _ => rfl))) (d_op2 (o_ix0 rfl) (pe_ix (r_ix (hu_of hr)) (d_nm 2) (d_nm 7) (fun _ _ => rfl))))))) (fun _ _ _ _ _ => d_int)) (d_lst (k := 0) ds_nil)))
      (s_one (s_ret (MD.le (m2 := .ow 0) (m_of d_bl))))
      s_nil)))
      (s_one (s_ret (MD.le (m2 := .ow 0) (m_of d_bl))))))
theorem ok_law : FnOk P w K mg base (L2.CX P w) 10 t.f_law t.fd_law ["script"] (spF mg [0] 0 den_law) := by
  refine fn_ok (n := 7) (ks := [0]) (kl := [0, 1, 0, 0, 0, 2]) (body := sem_law) t.F_law sc_law rfl rfl (by decide) fun cdv A outer s H E hr iv W tk => ?_
  unfold sem_law
  exact (s_cons (s_for (passes_of (by rfl)) (by rfl) (i_range1 (by rfl) t.z_range (d_call2 o_max2 (pe_callB (call_max2 (by rfl)) (by rfl) t.z_max bb_max (pa_cons d_int (pa_cons (d_call2 o_min2 (pe_callB (call_min2 (by rfl)) (by rfl) t.z_min bb_min (pa_cons d_int (pa_cons (d_call1 o_len (pe_callB r_len (by rfl) t.z_len bb_len (pa_cons (d_nm 0) pa_nil))) pa_nil)))) pa_nil))))) (g_nm 1 sc_law.nd)
      (s_cons (s_set 2 1 sc_law.nd (m_of (d_call (ok__law_feed t) (hr.mono (by decide)) t.g__law_feed t.F__law_feed.kp t.b__law_feed (as_cons 0 (d_nm 0) (as_cons 0 (d_nm 1) as_nil)))))
      (s_cons (s_set 3 0 sc_law.nd (m_call (is := [some 2, none]) (ok__law_table t) (hr.mono (by decide)) tk t.g__law_table t.F__law_table.kp t.b__law_table (mi_mvL 2 1 (mi_cons 0 (m_call (is := [some 2, none]) (ok__law_pick t) (hr.mono (by decide)) tk t.g__law_pick t.F__law_pick.kp t.b__law_pick (mi_mvL 2 1 (mi_cons 0 (m_of (PD.le (m' := (.ow 0)) (d_add (d_lst (k := 0) (ds_cons d_int (ds_cons d_int (ds_cons d_int (ds_cons d_int ds_nil))))) (d_mul (d_lst (k := 0) (ds_cons d_int ds_nil)) (d_call1 o_int (pe_callTy call_int1 (by rfl) t.z_int bb_int (pa_cons (d_cmp (op_eqD hr.units) o_eq (d_nm 1) d_int) pa_nil))))))) mi_nil))) mi_nil))))
      (s_cons (s_set 4 0 sc_law.nd (m_of (d_call (ok__law_most t) (hr.mono (by decide)) t.g__law_most t.F__law_most.kp t.b__law_most (as_cons 0 (d_nm 3) as_nil))))
      (s_one (s_for (passes_of (by rfl)) (by rfl) (i_range1 (by rfl) t.z_range d_int) (g_nm 5 sc_law.nd)
      (s_cons (s_set 6 2 sc_law.nd (m_of (d_call (ok_heaviest t) (hr.mono (by decide)) t.g_heaviest t.F_heaviest.kp t.b_heaviest (as_cons 0 (d_nm 3) as_nil))))
      (s_cons (s_if (mb_of (TW.td (tw_or (td_not (td_val (d_isi (t := "tuple") (pe_callB call_isi (by rfl) t.z_isinstance bb_isinstance (pa_cons (d_var 6 2) (pa_cons (pe_bltn (by rfl) t.z_tuple bb_tuple rfl) pa_nil)))))) (tw_or (td_cmp (op_neD hr.units) o_ne (d_call1 o_len (pe_callB r_len (by rfl) t.z_len bb_len (pa_cons (d_var 6 2) pa_nil))) d_int) (tw_one (td_cmp (op_neD hr.units) o_ne (d_frz 0 (d_call (ok__law_weight t) (hr.mono (by decide)) t.g__law_weight t.F__law_weight.kp t.b__law_weight (as_cons 0 (d_nm 3) (as_cons 0 (d_op2 (o_ix0 rfl) (pe_ix (r_ix (hu_of hr)) (d_nm 6) d_int (fun _ _ => rfl))) as_nil)))) (d_nm 4)))))))
      (s_one (s_ret (MD.le (m2 := .ow 0) (m_of d_bl))))
      s_nil)
      (s_cons (s_if (mb_of (TW.td (tw_or (td_not (td_val (d_frz 0 (d_call (ok__law_are_prices t) (hr.mono (by decide)) t.g__law_are_prices t.F__law_are_prices.kp t.b__law_are_prices (as_cons 0 (d_nm 3) (as_cons 0 (d_op2 (o_ix0 rfl) (pe_ix (r_ix (hu_of hr)) (d_nm 6) d_int (fun _ _ => rfl))) (as_cons 0 (d_op2 (o_ix0 rfl) (pe_ix (r_ix (hu_of hr)) (d_nm 6) d_int (fun _ _ => rfl))) as_nil))))))) (tw_one (td_cmp (op_neD hr.units) o_ne (d_add (d_call1 o_sum (pe_callB (cr_sum (by rfl)) (by rfl) t.z_sum bb_sum (pa_cons (d_op2 (o_ixb (k := 1)) (pe_ix (r_ix (hu_of hr)) (d_var 6 2) d_int (fun _ _ => rfl))) pa_nil))) (d_call1 o_sum (pe_callB (cr_sum (by rfl)) (by rfl) t.z_sum bb_sum (pa_cons (d_op2 (o_ixb (k := 1)) (pe_ix (r_ix (hu_of hr)) (d_var 6 2) d_int (fun _ _ => rfl))) pa_nil)))) (d_nm 4))))))
      (s_one (s_ret (MD.le (m2 := .ow 0) (m_of d_bl))))
      s_nil)
      (s_cons (s_if (mb_of (td_cmp op_isnot_bl o_notB (d_frz 0 (d_call (ok_is_heaviest t) (hr.mono (by decide)) t.g_is_heaviest t.F_is_heaviest.kp t.b_is_heaviest (as_cons 0 (d_nm 3) (as_cons 0 (d_nm 6) as_nil)))) d_bl))
      (s_one (s_ret (MD.le (m2 := .ow 0) (m_of d_bl))))
      s_nil)
      (s_cons (s_expr (m_appendP (pl_ix 1 (pl_var 6) d_int (hu_of hr)) (as_cons 0 d_non as_nil)))
      (s_cons (s_if (mb_of (td_cmp (r_in (hu65 hr)) o_in d_non (d_op2 (o_ixb (k := 1)) (pe_ix (r_ix (hu_of hr)) (d_var 6 2) d_int (fun _ _ => rfl))) (by with_unfolding_all rfl)))
      (s_one (s_ret (MD.le (m2 := .ow 0) (m_of d_bl))))
      s_nil)
      (s_one (s_expr (m_clearP 0 (pl_ix 1 (pl_var 6) d_int (hu_of hr)))))))))))))))))
      (s_one (s_ret (MD.le (m2 := .ow 0) (m_of d_bl)))))
end
end K85
end

section
set_option Elab.async false
set_option linter.all false
set_option maxRecDepth 100000
set_option maxHeartbeats 4000000
namespace K85
open PySem PySem.Spec PyProof.Rows L2 DL
theorem all_mk {l : PySem.W.OpenLaw} {w : World} {K : PySem.W.Frag} {h : Heap} {mg : Str → Option Value} {fa : Addr} (T : den_law.Tru) (X : K.In h) (G : h.Ns mainGlobals mg) (hfa : mg "law" = some (.ref fa))
    {f0 : Addr} {od0 an0 : Option Addr} {sl0 : Array (Option Value)} {oc0 kV0 dc0 pm0 cd0 ct0 : Value}
    {f1 : Addr} {od1 an1 : Option Addr} {sl1 : Array (Option Value)} {oc1 kV1 dc1 pm1 cd1 ct1 : Value}
    {f2 : Addr} {od2 an2 : Option Addr} {sl2 : Array (Option Value)} {oc2 kV2 dc2 pm2 cd2 ct2 : Value}
    {f3 : Addr} {od3 an3 : Option Addr} {sl3 : Array (Option Value)} {oc3 kV3 dc3 pm3 cd3 ct3 : Value}
    {f4 : Addr} {od4 an4 : Option Addr} {sl4 : Array (Option Value)} {oc4 kV4 dc4 pm4 cd4 ct4 : Value}
    {f5 : Addr} {od5 an5 : Option Addr} {sl5 : Array (Option Value)} {oc5 kV5 dc5 pm5 cd5 ct5 : Value}
    {f6 : Addr} {od6 an6 : Option Addr} {sl6 : Array (Option Value)} {oc6 kV6 dc6 pm6 cd6 ct6 : Value}
    {f7 : Addr} {od7 an7 : Option Addr} {sl7 : Array (Option Value)} {oc7 kV7 dc7 pm7 cd7 ct7 : Value}
    {f8 : Addr} {od8 an8 : Option Addr} {sl8 : Array (Option Value)} {oc8 kV8 dc8 pm8 cd8 ct8 : Value}
    {f9 : Addr} {od9 an9 : Option Addr} {sl9 : Array (Option Value)} {oc9 kV9 dc9 pm9 cd9 ct9 : Value}
    {f10 : Addr} {od10 an10 : Option Addr} {sl10 : Array (Option Value)} {oc10 kV10 dc10 pm10 cd10 ct10 : Value}
    {f11 : Addr} {od11 an11 : Option Addr} {sl11 : Array (Option Value)} {oc11 kV11 dc11 pm11 cd11 ct11 : Value}
    {f12 : Addr} {od12 an12 : Option Addr} {sl12 : Array (Option Value)} {oc12 kV12 dc12 pm12 cd12 ct12 : Value}
    {f13 : Addr} {od13 an13 : Option Addr} {sl13 : Array (Option Value)} {oc13 kV13 dc13 pm13 cd13 ct13 : Value}
    {f14 : Addr} {od14 an14 : Option Addr} {sl14 : Array (Option Value)} {oc14 kV14 dc14 pm14 cd14 ct14 : Value}
    {f15 : Addr} {od15 an15 : Option Addr} {sl15 : Array (Option Value)} {oc15 kV15 dc15 pm15 cd15 ct15 : Value}
    {f16 : Addr} {od16 an16 : Option Addr} {sl16 : Array (Option Value)} {oc16 kV16 dc16 pm16 cd16 ct16 : Value}
    {f17 : Addr} {od17 an17 : Option Addr} {sl17 : Array (Option Value)} {oc17 kV17 dc17 pm17 cd17 ct17 : Value}
    {f18 : Addr} {od18 an18 : Option Addr} {sl18 : Array (Option Value)} {oc18 kV18 dc18 pm18 cd18 ct18 : Value}
    {f19 : Addr} {od19 an19 : Option Addr} {sl19 : Array (Option Value)} {oc19 kV19 dc19 pm19 cd19 ct19 : Value}
    {f20 : Addr} {od20 an20 : Option Addr} {sl20 : Array (Option Value)} {oc20 kV20 dc20 pm20 cd20 ct20 : Value}
    (a0 : PySem.W.nsIn K mainGlobals "is_whole" = some (some (.ref f0))) (l0 : K.lookup f0 = some ⟨oc0, od0, .func (PySem.W.fnOf "is_whole" "is_whole" (defArgs st_is_whole) (defBody st_is_whole) (defScope st_is_whole) .none kV0 dc0 pm0 an0 cd0 ct0), sl0⟩) (c0 : PySem.W.codeIn K cd0 "is_whole" = true) (k0 : PySem.W.keepIn K (.ref f0) = true)
    (a1 : PySem.W.nsIn K mainGlobals "is_column" = some (some (.ref f1))) (l1 : K.lookup f1 = some ⟨oc1, od1, .func (PySem.W.fnOf "is_column" "is_column" (defArgs st_is_column) (defBody st_is_column) (defScope st_is_column) .none kV1 dc1 pm1 an1 cd1 ct1), sl1⟩) (c1 : PySem.W.codeIn K cd1 "is_column" = true) (k1 : PySem.W.keepIn K (.ref f1) = true)
    (a2 : PySem.W.nsIn K mainGlobals "is_pairing" = some (some (.ref f2))) (l2 : K.lookup f2 = some ⟨oc2, od2, .func (PySem.W.fnOf "is_pairing" "is_pairing" (defArgs st_is_pairing) (defBody st_is_pairing) (defScope st_is_pairing) .none kV2 dc2 pm2 an2 cd2 ct2), sl2⟩) (c2 : PySem.W.codeIn K cd2 "is_pairing" = true) (k2 : PySem.W.keepIn K (.ref f2) = true)
    (a3 : PySem.W.nsIn K mainGlobals "cells_of" = some (some (.ref f3))) (l3 : K.lookup f3 = some ⟨oc3, od3, .func (PySem.W.fnOf "cells_of" "cells_of" (defArgs st_cells_of) (defBody st_cells_of) (defScope st_cells_of) .none kV3 dc3 pm3 an3 cd3 ct3), sl3⟩) (c3 : PySem.W.codeIn K cd3 "cells_of" = true) (k3 : PySem.W.keepIn K (.ref f3) = true)
    (a4 : PySem.W.nsIn K mainGlobals "is_within" = some (some (.ref f4))) (l4 : K.lookup f4 = some ⟨oc4, od4, .func (PySem.W.fnOf "is_within" "is_within" (defArgs st_is_within) (defBody st_is_within) (defScope st_is_within) .none kV4 dc4 pm4 an4 cd4 ct4), sl4⟩) (c4 : PySem.W.codeIn K cd4 "is_within" = true) (k4 : PySem.W.keepIn K (.ref f4) = true)
    (a5 : PySem.W.nsIn K mainGlobals "weight" = some (some (.ref f5))) (l5 : K.lookup f5 = some ⟨oc5, od5, .func (PySem.W.fnOf "weight" "weight" (defArgs st_weight) (defBody st_weight) (defScope st_weight) .none kV5 dc5 pm5 an5 cd5 ct5), sl5⟩) (c5 : PySem.W.codeIn K cd5 "weight" = true) (k5 : PySem.W.keepIn K (.ref f5) = true)
    (a6 : PySem.W.nsIn K mainGlobals "best_from" = some (some (.ref f6))) (l6 : K.lookup f6 = some ⟨oc6, od6, .func (PySem.W.fnOf "best_from" "best_from" (defArgs st_best_from) (defBody st_best_from) (defScope st_best_from) .none kV6 dc6 pm6 an6 cd6 ct6), sl6⟩) (c6 : PySem.W.codeIn K cd6 "best_from" = true) (k6 : PySem.W.keepIn K (.ref f6) = true)
    (a7 : PySem.W.nsIn K mainGlobals "column_prices" = some (some (.ref f7))) (l7 : K.lookup f7 = some ⟨oc7, od7, .func (PySem.W.fnOf "column_prices" "column_prices" (defArgs st_column_prices) (defBody st_column_prices) (defScope st_column_prices) .none kV7 dc7 pm7 an7 cd7 ct7), sl7⟩) (c7 : PySem.W.codeIn K cd7 "column_prices" = true) (k7 : PySem.W.keepIn K (.ref f7) = true)
    (a8 : PySem.W.nsIn K mainGlobals "heaviest" = some (some (.ref f8))) (l8 : K.lookup f8 = some ⟨oc8, od8, .func (PySem.W.fnOf "heaviest" "heaviest" (defArgs st_heaviest) (defBody st_heaviest) (defScope st_heaviest) .none kV8 dc8 pm8 an8 cd8 ct8), sl8⟩) (c8 : PySem.W.codeIn K cd8 "heaviest" = true) (k8 : PySem.W.keepIn K (.ref f8) = true)
    (a9 : PySem.W.nsIn K mainGlobals "are_prices" = some (some (.ref f9))) (l9 : K.lookup f9 = some ⟨oc9, od9, .func (PySem.W.fnOf "are_prices" "are_prices" (defArgs st_are_prices) (defBody st_are_prices) (defScope st_are_prices) .none kV9 dc9 pm9 an9 cd9 ct9), sl9⟩) (c9 : PySem.W.codeIn K cd9 "are_prices" = true) (k9 : PySem.W.keepIn K (.ref f9) = true)
    (a10 : PySem.W.nsIn K mainGlobals "is_heaviest" = some (some (.ref f10))) (l10 : K.lookup f10 = some ⟨oc10, od10, .func (PySem.W.fnOf "is_heaviest" "is_heaviest" (defArgs st_is_heaviest) (defBody st_is_heaviest) (defScope st_is_heaviest) .none kV10 dc10 pm10 an10 cd10 ct10), sl10⟩) (c10 : PySem.W.codeIn K cd10 "is_heaviest" = true) (k10 : PySem.W.keepIn K (.ref f10) = true)
    (a11 : PySem.W.nsIn K mainGlobals "_law_feed" = some (some (.ref f11))) (l11 : K.lookup f11 = some ⟨oc11, od11, .func (PySem.W.fnOf "_law_feed" "_law_feed" (defArgs st__law_feed) (defBody st__law_feed) (defScope st__law_feed) .none kV11 dc11 pm11 an11 cd11 ct11), sl11⟩) (c11 : PySem.W.codeIn K cd11 "_law_feed" = true) (k11 : PySem.W.keepIn K (.ref f11) = true)
    (a12 : PySem.W.nsIn K mainGlobals "_law_take" = some (some (.ref f12))) (l12 : K.lookup f12 = some ⟨oc12, od12, .func (PySem.W.fnOf "_law_take" "_law_take" (defArgs st__law_take) (defBody st__law_take) (defScope st__law_take) .none kV12 dc12 pm12 an12 cd12 ct12), sl12⟩) (c12 : PySem.W.codeIn K cd12 "_law_take" = true) (k12 : PySem.W.keepIn K (.ref f12) = true)
    (a13 : PySem.W.nsIn K mainGlobals "_law_pick" = some (some (.ref f13))) (l13 : K.lookup f13 = some ⟨oc13, od13, .func (PySem.W.fnOf "_law_pick" "_law_pick" (defArgs st__law_pick) (defBody st__law_pick) (defScope st__law_pick) .none kV13 dc13 pm13 an13 cd13 ct13), sl13⟩) (c13 : PySem.W.codeIn K cd13 "_law_pick" = true) (k13 : PySem.W.keepIn K (.ref f13) = true)
    (a14 : PySem.W.nsIn K mainGlobals "_law_is_whole" = some (some (.ref f14))) (l14 : K.lookup f14 = some ⟨oc14, od14, .func (PySem.W.fnOf "_law_is_whole" "_law_is_whole" (defArgs st__law_is_whole) (defBody st__law_is_whole) (defScope st__law_is_whole) .none kV14 dc14 pm14 an14 cd14 ct14), sl14⟩) (c14 : PySem.W.codeIn K cd14 "_law_is_whole" = true) (k14 : PySem.W.keepIn K (.ref f14) = true)
    (a15 : PySem.W.nsIn K mainGlobals "_law_table" = some (some (.ref f15))) (l15 : K.lookup f15 = some ⟨oc15, od15, .func (PySem.W.fnOf "_law_table" "_law_table" (defArgs st__law_table) (defBody st__law_table) (defScope st__law_table) .none kV15 dc15 pm15 an15 cd15 ct15), sl15⟩) (c15 : PySem.W.codeIn K cd15 "_law_table" = true) (k15 : PySem.W.keepIn K (.ref f15) = true)
    (a16 : PySem.W.nsIn K mainGlobals "_law_all_columns" = some (some (.ref f16))) (l16 : K.lookup f16 = some ⟨oc16, od16, .func (PySem.W.fnOf "_law_all_columns" "_law_all_columns" (defArgs st__law_all_columns) (defBody st__law_all_columns) (defScope st__law_all_columns) .none kV16 dc16 pm16 an16 cd16 ct16), sl16⟩) (c16 : PySem.W.codeIn K cd16 "_law_all_columns" = true) (k16 : PySem.W.keepIn K (.ref f16) = true)
    (a17 : PySem.W.nsIn K mainGlobals "_law_most" = some (some (.ref f17))) (l17 : K.lookup f17 = some ⟨oc17, od17, .func (PySem.W.fnOf "_law_most" "_law_most" (defArgs st__law_most) (defBody st__law_most) (defScope st__law_most) .none kV17 dc17 pm17 an17 cd17 ct17), sl17⟩) (c17 : PySem.W.codeIn K cd17 "_law_most" = true) (k17 : PySem.W.keepIn K (.ref f17) = true)
    (a18 : PySem.W.nsIn K mainGlobals "_law_weight" = some (some (.ref f18))) (l18 : K.lookup f18 = some ⟨oc18, od18, .func (PySem.W.fnOf "_law_weight" "_law_weight" (defArgs st__law_weight) (defBody st__law_weight) (defScope st__law_weight) .none kV18 dc18 pm18 an18 cd18 ct18), sl18⟩) (c18 : PySem.W.codeIn K cd18 "_law_weight" = true) (k18 : PySem.W.keepIn K (.ref f18) = true)
    (a19 : PySem.W.nsIn K mainGlobals "_law_are_prices" = some (some (.ref f19))) (l19 : K.lookup f19 = some ⟨oc19, od19, .func (PySem.W.fnOf "_law_are_prices" "_law_are_prices" (defArgs st__law_are_prices) (defBody st__law_are_prices) (defScope st__law_are_prices) .none kV19 dc19 pm19 an19 cd19 ct19), sl19⟩) (c19 : PySem.W.codeIn K cd19 "_law_are_prices" = true) (k19 : PySem.W.keepIn K (.ref f19) = true)
    (a20 : PySem.W.nsIn K mainGlobals "law" = some (some (.ref f20))) (l20 : K.lookup f20 = some ⟨oc20, od20, .func (PySem.W.fnOf "law" "law" (defArgs st_law) (defBody st_law) (defScope st_law) .none kV20 dc20 pm20 an20 cd20 ct20), sl20⟩) (c20 : PySem.W.codeIn K cd20 "law" = true) (k20 : PySem.W.keepIn K (.ref f20) = true)
    (z_abs : PySem.W.nsIn K mainGlobals "abs" = some none)
    (z_all : PySem.W.nsIn K mainGlobals "all" = some none)
    (z_bool : PySem.W.nsIn K mainGlobals "bool" = some none)
    (z_enumerate : PySem.W.nsIn K mainGlobals "enumerate" = some none)
    (z_int : PySem.W.nsIn K mainGlobals "int" = some none)
    (z_isinstance : PySem.W.nsIn K mainGlobals "isinstance" = some none)
    (z_len : PySem.W.nsIn K mainGlobals "len" = some none)
    (z_list : PySem.W.nsIn K mainGlobals "list" = some none)
    (z_max : PySem.W.nsIn K mainGlobals "max" = some none)
    (z_min : PySem.W.nsIn K mainGlobals "min" = some none)
    (z_range : PySem.W.nsIn K mainGlobals "range" = some none)
    (z_set : PySem.W.nsIn K mainGlobals "set" = some none)
    (z_sum : PySem.W.nsIn K mainGlobals "sum" = some none)
    (z_tuple : PySem.W.nsIn K mainGlobals "tuple" = some none)
    (nl : noLst K = true) :
    ∃ fd : FuncData, (∀ (s : Shared) (v : Value), BindsTo s fd ⟨[v], []⟩ [("script", v)]) ∧ ∀ base : Heap, K.In base → base.Ns mainGlobals mg → FnOk l.prog w K mg base (L2.CX l.prog w) 10 fa fd ["script"] (spLaw K) := by
  have e := hfa.symm.trans (PySem.W.mg_of X G a20)
  have e1 : f20 = fa := by cases e; rfl
  subst e1
  have t : ∃ t : Top K mg, t.f_law = f20 ∧ HEq t.fd_law (PySem.W.fnOf "law" "law" (defArgs st_law) (defBody st_law) (defScope st_law) .none kV20 dc20 pm20 an20 cd20 ct20) := ⟨{ f_is_whole := f0, fd_is_whole := _, F_is_whole := fun_mk (st := st_is_whole) l0 c0 k0, b_is_whole := ((fun_mk (st := st_is_whole) l0 c0 k0).binds (ps := ["thing"]) fun _ _ _ _ _ _ us hl => (match us, hl with | [_], _ => rfl)), g_is_whole := PySem.W.mg_of X G a0, f_is_column := f1, fd_is_column := _, F_is_column := fun_mk (st := st_is_column) l1 c1 k1, b_is_column := ((fun_mk (st := st_is_column) l1 c1 k1).binds (ps := ["n", "thing"]) fun _ _ _ _ _ _ us hl => (match us, hl with | [_, _], _ => rfl)), g_is_column := PySem.W.mg_of X G a1, f_is_pairing := f2, fd_is_pairing := _, F_is_pairing := fun_mk (st := st_is_pairing) l2 c2 k2, b_is_pairing := ((fun_mk (st := st_is_pairing) l2 c2 k2).binds (ps := ["n", "thing"]) fun _ _ _ _ _ _ us hl => (match us, hl with | [_, _], _ => rfl)), g_is_pairing := PySem.W.mg_of X G a2, f_cells_of := f3, fd_cells_of := _, F_cells_of := fun_mk (st := st_cells_of) l3 c3 k3, b_cells_of := ((fun_mk (st := st_cells_of) l3 c3 k3).binds (ps := ["pairing"]) fun _ _ _ _ _ _ us hl => (match us, hl with | [_], _ => rfl)), g_cells_of := PySem.W.mg_of X G a3, f_is_within := f4, fd_is_within := _, F_is_within := fun_mk (st := st_is_within) l4 c4 k4, b_is_within := ((fun_mk (st := st_is_within) l4 c4 k4).binds (ps := ["table", "thing"]) fun _ _ _ _ _ _ us hl => (match us, hl with | [_, _], _ => rfl)), g_is_within := PySem.W.mg_of X G a4, f_weight := f5, fd_weight := _, F_weight := fun_mk (st := st_weight) l5 c5 k5, b_weight := ((fun_mk (st := st_weight) l5 c5 k5).binds (ps := ["table", "pairing"]) fun _ _ _ _ _ _ us hl => (match us, hl with | [_, _], _ => rfl)), g_weight := PySem.W.mg_of X G a5, f_best_from := f6, fd_best_from := _, F_best_from := fun_mk (st := st_best_from) l6 c6 k6, b_best_from := ((fun_mk (st := st_best_from) l6 c6 k6).binds (ps := ["table", "row", "free"]) fun _ _ _ _ _ _ us hl => (match us, hl with | [_, _, _], _ => rfl)), g_best_from := PySem.W.mg_of X G a6, f_column_prices := f7, fd_column_prices := _, F_column_prices := fun_mk (st := st_column_prices) l7 c7 k7, b_column_prices := ((fun_mk (st := st_column_prices) l7 c7 k7).binds (ps := ["table", "columns"]) fun _ _ _ _ _ _ us hl => (match us, hl with | [_, _], _ => rfl)), g_column_prices := PySem.W.mg_of X G a7, f_heaviest := f8, fd_heaviest := _, F_heaviest := fun_mk (st := st_heaviest) l8 c8 k8, b_heaviest := ((fun_mk (st := st_heaviest) l8 c8 k8).binds (ps := ["table"]) fun _ _ _ _ _ _ us hl => (match us, hl with | [_], _ => rfl)), g_heaviest := PySem.W.mg_of X G a8, f_are_prices := f9, fd_are_prices := _, F_are_prices := fun_mk (st := st_are_prices) l9 c9 k9, b_are_prices := ((fun_mk (st := st_are_prices) l9 c9 k9).binds (ps := ["n", "thing"]) fun _ _ _ _ _ _ us hl => (match us, hl with | [_, _], _ => rfl)), g_are_prices := PySem.W.mg_of X G a9, f_is_heaviest := f10, fd_is_heaviest := _, F_is_heaviest := fun_mk (st := st_is_heaviest) l10 c10 k10, b_is_heaviest := ((fun_mk (st := st_is_heaviest) l10 c10 k10).binds (ps := ["table", "told"]) fun _ _ _ _ _ _ us hl => (match us, hl with | [_, _], _ => rfl)), g_is_heaviest := PySem.W.mg_of X G a10, f__law_feed := f11, fd__law_feed := _, F__law_feed := fun_mk (st := st__law_feed) l11 c11 k11, b__law_feed := ((fun_mk (st := st__law_feed) l11 c11 k11).binds (ps := ["script", "k"]) fun _ _ _ _ _ _ us hl => (match us, hl with | [_, _], _ => rfl)), g__law_feed := PySem.W.mg_of X G a11, f__law_take := f12, fd__law_take := _, F__law_take := fun_mk (st := st__law_take) l12 c12 k12, b__law_take := ((fun_mk (st := st__law_take) l12 c12 k12).binds (ps := ["feed", "size"]) fun _ _ _ _ _ _ us hl => (match us, hl with | [_, _], _ => rfl)), g__law_take := PySem.W.mg_of X G a12, f__law_pick := f13, fd__law_pick := _, F__law_pick := fun_mk (st := st__law_pick) l13 c13 k13, b__law_pick := ((fun_mk (st := st__law_pick) l13 c13 k13).binds (ps := ["feed", "choices"]) fun _ _ _ _ _ _ us hl => (match us, hl with | [_, _], _ => rfl)), g__law_pick := PySem.W.mg_of X G a13, f__law_is_whole := f14, fd__law_is_whole := _, F__law_is_whole := fun_mk (st := st__law_is_whole) l14 c14 k14, b__law_is_whole := ((fun_mk (st := st__law_is_whole) l14 c14 k14).binds (ps := ["thing"]) fun _ _ _ _ _ _ us hl => (match us, hl with | [_], _ => rfl)), g__law_is_whole := PySem.W.mg_of X G a14, f__law_table := f15, fd__law_table := _, F__law_table := fun_mk (st := st__law_table) l15 c15 k15, b__law_table := ((fun_mk (st := st__law_table) l15 c15 k15).binds (ps := ["feed", "n"]) fun _ _ _ _ _ _ us hl => (match us, hl with | [_, _], _ => rfl)), g__law_table := PySem.W.mg_of X G a15, f__law_all_columns := f16, fd__law_all_columns := _, F__law_all_columns := fun_mk (st := st__law_all_columns) l16 c16 k16, b__law_all_columns := ((fun_mk (st := st__law_all_columns) l16 c16 k16).binds (ps := ["n"]) fun _ _ _ _ _ _ us hl => (match us, hl with | [_], _ => rfl)), g__law_all_columns := PySem.W.mg_of X G a16, f__law_most := f17, fd__law_most := _, F__law_most := fun_mk (st := st__law_most) l17 c17 k17, b__law_most := ((fun_mk (st := st__law_most) l17 c17 k17).binds (ps := ["table"]) fun _ _ _ _ _ _ us hl => (match us, hl with | [_], _ => rfl)), g__law_most := PySem.W.mg_of X G a17, f__law_weight := f18, fd__law_weight := _, F__law_weight := fun_mk (st := st__law_weight) l18 c18 k18, b__law_weight := ((fun_mk (st := st__law_weight) l18 c18 k18).binds (ps := ["table", "pairing"]) fun _ _ _ _ _ _ us hl => (match us, hl with | [_, _], _ => rfl)), g__law_weight := PySem.W.mg_of X G a18, f__law_are_prices := f19, fd__law_are_prices := _, F__law_are_prices := fun_mk (st := st__law_are_prices) l19 c19 k19, b__law_are_prices := ((fun_mk (st := st__law_are_prices) l19 c19 k19).binds (ps := ["table", "rows", "columns"]) fun _ _ _ _ _ _ us hl => (match us, hl with | [_, _, _], _ => rfl)), g__law_are_prices := PySem.W.mg_of X G a19, f_law := f20, fd_law := _, F_law := fun_mk (st := st_law) l20 c20 k20, b_law := ((fun_mk (st := st_law) l20 c20 k20).binds (ps := ["script"]) fun _ _ _ _ _ _ us hl => (match us, hl with | [_], _ => rfl)), g_law := PySem.W.mg_of X G a20, z_abs := PySem.W.mg_none_of X G z_abs, z_all := PySem.W.mg_none_of X G z_all, z_bool := PySem.W.mg_none_of X G z_bool, z_enumerate := PySem.W.mg_none_of X G z_enumerate, z_int := PySem.W.mg_none_of X G z_int, z_isinstance := PySem.W.mg_none_of X G z_isinstance, z_len := PySem.W.mg_none_of X G z_len, z_list := PySem.W.mg_none_of X G z_list, z_max := PySem.W.mg_none_of X G z_max, z_min := PySem.W.mg_none_of X G z_min, z_range := PySem.W.mg_none_of X G z_range, z_set := PySem.W.mg_none_of X G z_set, z_sum := PySem.W.mg_none_of X G z_sum, z_tuple := PySem.W.mg_none_of X G z_tuple }, rfl, HEq.rfl⟩
  obtain ⟨t, e1, e2⟩ := t
  have e2 := eq_of_heq e2
  refine ⟨PySem.W.fnOf "law" "law" (defArgs st_law) (defBody st_law) (defScope st_law) .none kV20 dc20 pm20 an20 cd20 ct20, fun s v => .of_eq rfl, fun base _ _ => ?_⟩
  have F := ok_law (P := l.prog) (w := w) (base := base) t
  rw [e1, e2] at F
  exact F.imp fun vs H Q E s => spLaw_of nl T s
end K85
open PySem PySem.W PyProof.Rows
set_option maxHeartbeats 0 in
theorem PySem.Challenge.cw_beatswitch_k85_heaviest_pairings_holds : PySem.Challenge.rw_beatswitch_k85_heaviest_pairings.Holds := by
  w_on; o_law; k_head; (case hw => w_witness2)
  k_fill
  refine L2.walk_of (l := PySem.Challenge.rw_beatswitch_k85_heaviest_pairings) (n := 63) (k := 10) (x := "script") (CX := fun w => L2.CX PySem.Challenge.rw_beatswitch_k85_heaviest_pairings.prog w) (sp := fun w => DL.spLaw _) rfl (by decide) rfl ⟨rfl, by decide, by decide⟩ (fun w h Y => PySem.W.kIn_of Y) ?F (fun _ _ a ns hl hO hS => ⟨a, ns, rfl, hO, hS, hl, fun _ => rfl⟩) (fun _ _ _ _ _ h => by
    obtain ⟨_, _, _, _, _, _, _, _, _, _, _, _, z⟩ := h
    exact z)
  case F =>
    intro w mg fa h KX G hmg
    refine' K85.all_mk K85.tru KX G hmg ?a0 ?l0 ?c0 ?k0 ?a1 ?l1 ?c1 ?k1 ?a2 ?l2 ?c2 ?k2 ?a3 ?l3 ?c3 ?k3 ?a4 ?l4 ?c4 ?k4 ?a5 ?l5 ?c5 ?k5 ?a6 ?l6 ?c6 ?k6 ?a7 ?l7 ?c7 ?k7 ?a8 ?l8 ?c8 ?k8 ?a9 ?l9 ?c9 ?k9 ?a10 ?l10 ?c10 ?k10 ?a11 ?l11 ?c11 ?k11 ?a12 ?l12 ?c12 ?k12 ?a13 ?l13 ?c13 ?k13 ?a14 ?l14 ?c14 ?k14 ?a15 ?l15 ?c15 ?k15 ?a16 ?l16 ?c16 ?k16 ?a17 ?l17 ?c17 ?k17 ?a18 ?l18 ?c18 ?k18 ?a19 ?l19 ?c19 ?k19 ?a20 ?l20 ?c20 ?k20 ?z_abs ?z_all ?z_bool ?z_enumerate ?z_int ?z_isinstance ?z_len ?z_list ?z_max ?z_min ?z_range ?z_set ?z_sum ?z_tuple ?nl
    (case a0 => k_is); (case l0 => k_is); (case c0 => k_is); (case k0 => k_is); (case a1 => k_is); (case l1 => k_is); (case c1 => k_is); (case k1 => k_is); (case a2 => k_is); (case l2 => k_is); (case c2 => k_is); (case k2 => k_is); (case a3 => k_is); (case l3 => k_is); (case c3 => k_is); (case k3 => k_is); (case a4 => k_is); (case l4 => k_is); (case c4 => k_is); (case k4 => k_is); (case a5 => k_is); (case l5 => k_is); (case c5 => k_is); (case k5 => k_is); (case a6 => k_is); (case l6 => k_is); (case c6 => k_is); (case k6 => k_is); (case a7 => k_is); (case l7 => k_is); (case c7 => k_is); (case k7 => k_is); (case a8 => k_is); (case l8 => k_is); (case c8 => k_is); (case k8 => k_is); (case a9 => k_is); (case l9 => k_is); (case c9 => k_is); (case k9 => k_is); (case a10 => k_is); (case l10 => k_is); (case c10 => k_is); (case k10 => k_is); (case a11 => k_is); (case l11 => k_is); (case c11 => k_is); (case k11 => k_is); (case a12 => k_is); (case l12 => k_is); (case c12 => k_is); (case k12 => k_is); (case a13 => k_is); (case l13 => k_is); (case c13 => k_is); (case k13 => k_is); (case a14 => k_is); (case l14 => k_is); (case c14 => k_is); (case k14 => k_is); (case a15 => k_is); (case l15 => k_is); (case c15 => k_is); (case k15 => k_is); (case a16 => k_is); (case l16 => k_is); (case c16 => k_is); (case k16 => k_is); (case a17 => k_is); (case l17 => k_is); (case c17 => k_is); (case k17 => k_is); (case a18 => k_is); (case l18 => k_is); (case c18 => k_is); (case k18 => k_is); (case a19 => k_is); (case l19 => k_is); (case c19 => k_is); (case k19 => k_is); (case a20 => k_is); (case l20 => k_is); (case c20 => k_is); (case k20 => k_is); (case z_abs => k_is); (case z_all => k_is); (case z_bool => k_is); (case z_enumerate => k_is); (case z_int => k_is); (case z_isinstance => k_is); (case z_len => k_is); (case z_list => k_is); (case z_max => k_is); (case z_min => k_is); (case z_range => k_is); (case z_set => k_is); (case z_sum => k_is); (case z_tuple => k_is)
    (case nl => kernel_rfl)
end
