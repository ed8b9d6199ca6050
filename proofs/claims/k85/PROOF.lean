import PyProof.Rows.All
import Wide.All
import OpenK.AllK
import Wide.FinOn
import HandS.ForMost
import HandS.Exc
import HandS.Defaults
import HandS.ExcOwn
import HandS.ExcInit
import HandS.TryOnly
import HandS.TryMany
import HandS.CallSlots
import HandS.HotCalls
import HandS.IsInst
import HandS.Wide
import HandS.Zip
import HandS.Rev
import HandS.SortInts
import HandS.SetKeys
import HandS.Strs
import HandS.Conv
import HandS.StrMore
import HandS.Set
import KE.SortData
import PyProof.CollectStr
import PyProof.TupleOfSeq
import HandS.SetFor
import HandS.TupAny
import HandS.Text
import KE.KDictSum
import HandS.Codes
import PyProof.Draws
import PyProof.NeKinds
import HandS.Head0
import HandS.Head1
import HandS.Head2
import HandS.HeadEnd
import HandS.HeadHook1
import HandS.HeadHook2
import PySem.Challenge.RW_fillsay_k85_rows_that_part
set_option Elab.async false
set_option linter.all false
set_option maxRecDepth 100000
set_option maxHeartbeats 0
/-! F1: data trees over the abstract heap: what is frozen (D), what is owned (T). -/
namespace Fs
open PySem PySem.Spec L2

/-- data that nobody changes -/
inductive D where
  | non | bl (b : Bool) | int (i : Int) | str (x : Str)
  | tup (ds : List D) | lst (ds : List D) | rol (ds : List D) | dct (ks : List Key) (ds : List D) | ins (C : Addr) (fs : List Str) (ds : List D)
/-- data of which some nodes are one's own -/
inductive T where
  | fz (d : D) | tup (ts : List T) | lst (ts : List T) | dct (ks : List Key) (ts : List T) | ins (C : Addr) (fs : List Str) (ts : List T)
  /-- it stands at a -/
  | at_ (a : Addr) (t : T)

mutual
def T.er : T → D
  | .fz d => d
  | .tup ts => .tup (ers ts)
  | .lst ts => .lst (ers ts)
  | .dct ks ts => .dct ks (ers ts)
  | .ins C fs ts => .ins C fs (ers ts)
  | .at_ _ t => t.er
def ers : List T → List D
  | [] => []
  | t :: ts => t.er :: ers ts
end
theorem ers_map : ∀ ts : List T, ers ts = ts.map T.er
  | [] => rfl
  | t :: ts => by rw [ers, ers_map ts]; rfl
theorem ers_len : ∀ ts : List T, (ers ts).length = ts.length := fun ts => by rw [ers_map, List.length_map]
theorem ers_fz : ∀ ds : List D, ers (ds.map .fz) = ds
  | [] => rfl
  | d :: ds => by show T.er (.fz d) :: ers (ds.map .fz) = d :: ds; rw [ers_fz ds]; rfl

mutual
/-- v is d over the heap S -/
def Rp (K : PySem.W.Frag) (S : Hp) : D → V → Prop
  | .non, v => v = .non
  | .bl b, v => v = .bl b
  | .int i, v => v = .int i
  | .str x, v => v = .str x
  | .tup ds, v => ∃ a vs, v = .ref a ∧ SqT K S a vs ∧ Rps K S ds vs
  | .lst ds, v => ∃ a vs, v = .ref a ∧ S a = some (.lst vs) ∧ Rps K S ds vs
  | .rol ds, v => ∃ a vs, v = .ref a ∧ SqL K S a vs ∧ Rps K S ds vs
  | .dct ks ds, v => ∃ a vs, v = .ref a ∧ Rd S a (.dK (ks.zip vs)) ∧ Rps K S ds vs ∧ ks.length = ds.length
  | .ins C fs ds, v => ∃ a dx vs, v = .ref a ∧ S a = some (.ins C dx (fs.zip vs)) ∧ Rps K S ds vs ∧ fs.length = ds.length
def Rps (K : PySem.W.Frag) (S : Hp) : List D → List V → Prop
  | [], vs => vs = []
  | d :: ds, vs => ∃ v r, vs = v :: r ∧ Rp K S d v ∧ Rps K S ds r
end
abbrev OH := List (Addr × HO)
mutual
/-- v is t: its own nodes are those of O, the rest stands in S -/
def RT (K : PySem.W.Frag) (S : Hp) : T → V → OH → Prop
  | .fz d, v, O => Rp K S d v ∧ O = []
  | .tup ts, v, O => ∃ a vs O', v = .ref a ∧ O = (a, .tup vs) :: O' ∧ RTs K S ts vs O'
  | .lst ts, v, O => ∃ a vs O', v = .ref a ∧ O = (a, .lst vs) :: O' ∧ RTs K S ts vs O'
  | .dct ks ts, v, O => ∃ a vs O', v = .ref a ∧ O = (a, .dK (ks.zip vs)) :: O' ∧ RTs K S ts vs O' ∧ ks.length = ts.length
  | .ins C fs ts, v, O => ∃ a dx vs O', v = .ref a ∧ O = (a, .ins C dx (fs.zip vs)) :: O' ∧ RTs K S ts vs O' ∧ fs.length = ts.length
  | .at_ a t, v, O => v = .ref a ∧ RT K S t v O
def RTs (K : PySem.W.Frag) (S : Hp) : List T → List V → OH → Prop
  | [], vs, O => vs = [] ∧ O = []
  | t :: ts, vs, O => ∃ v r O1 O2, vs = v :: r ∧ O = O1 ++ O2 ∧ RT K S t v O1 ∧ RTs K S ts r O2
end

section
variable {K : PySem.W.Frag} {S S' : Hp}
theorem same_seqT {a : Addr} {xs : List V} (e : Same S S') (h : SqT K S a xs) : SqT K S' a xs := by
  rcases h with (h | ⟨o, h⟩) | h
  · exact .inl (.inl (e _ _ h))
  · exact .inl (.inr ⟨o, e _ _ h⟩)
  · exact .inr h
theorem same_rd {a : Addr} {u : HO} (e : Same S S') (h : Rd S a u) : Rd S' a u := by
  rcases h with h | ⟨o, h⟩
  · exact .inl (e _ _ h)
  · exact .inr ⟨o, e _ _ h⟩
mutual
theorem Rp.mono (e : Same S S') : ∀ {d : D} {v : V}, Rp K S d v → Rp K S' d v
  | .non, _, h => h
  | .bl _, _, h => h
  | .int _, _, h => h
  | .str _, _, h => h
  | .tup _, _, ⟨a, vs, h1, h2, h3⟩ => ⟨a, vs, h1, same_seqT e h2, Rps.mono e h3⟩
  | .lst _, _, ⟨a, vs, h1, h2, h3⟩ => ⟨a, vs, h1, e _ _ h2, Rps.mono e h3⟩
  | .rol _, _, ⟨a, vs, h1, h2, h3⟩ => ⟨a, vs, h1, Same.seq e h2, Rps.mono e h3⟩
  | .dct _ _, _, ⟨a, vs, h1, h2, h3, h4⟩ => ⟨a, vs, h1, same_rd e h2, Rps.mono e h3, h4⟩
  | .ins _ _ _, _, ⟨a, dx, vs, h1, h2, h3, h4⟩ => ⟨a, dx, vs, h1, e _ _ h2, Rps.mono e h3, h4⟩
theorem Rps.mono (e : Same S S') : ∀ {ds : List D} {vs : List V}, Rps K S ds vs → Rps K S' ds vs
  | [], _, h => h
  | _ :: _, _, ⟨v, r, h1, h2, h3⟩ => ⟨v, r, h1, Rp.mono e h2, Rps.mono e h3⟩
end
mutual
theorem RT.mono (e : Same S S') : ∀ {t : T} {v : V} {O : OH}, RT K S t v O → RT K S' t v O
  | .fz _, _, _, ⟨h1, h2⟩ => ⟨h1.mono e, h2⟩
  | .tup _, _, _, ⟨a, vs, O', h1, h2, h3⟩ => ⟨a, vs, O', h1, h2, RTs.mono e h3⟩
  | .lst _, _, _, ⟨a, vs, O', h1, h2, h3⟩ => ⟨a, vs, O', h1, h2, RTs.mono e h3⟩
  | .dct _ _, _, _, ⟨a, vs, O', h1, h2, h3, h4⟩ => ⟨a, vs, O', h1, h2, RTs.mono e h3, h4⟩
  | .ins _ _ _, _, _, ⟨a, dx, vs, O', h1, h2, h3, h4⟩ => ⟨a, dx, vs, O', h1, h2, RTs.mono e h3, h4⟩
  | .at_ _ _, _, _, ⟨h1, h2⟩ => ⟨h1, RT.mono e h2⟩
theorem RTs.mono (e : Same S S') : ∀ {ts : List T} {vs : List V} {O : OH}, RTs K S ts vs O → RTs K S' ts vs O
  | [], _, _, h => h
  | _ :: _, _, _, ⟨v, r, O1, O2, h1, h2, h3, h4⟩ => ⟨v, r, O1, O2, h1, h2, RT.mono e h3, RTs.mono e h4⟩
end
theorem Rps.len : ∀ {ds : List D} {vs : List V}, Rps K S ds vs → vs.length = ds.length
  | [], _, h => by rw [show _ = ([] : List V) from h]; rfl
  | _ :: _, _, ⟨v, r, h1, _, h3⟩ => by rw [h1]; exact congrArg Nat.succ (Rps.len h3)
theorem RTs.len : ∀ {ts : List T} {vs : List V} {O : OH}, RTs K S ts vs O → vs.length = ts.length
  | [], _, _, h => by rw [h.1]; rfl
  | _ :: _, _, _, ⟨v, r, O1, O2, h1, _, _, h4⟩ => by rw [h1]; exact congrArg Nat.succ (RTs.len h4)
mutual
/-- frozen: own nodes that now stand in S' -/
theorem RT.er (e : Same S S') : ∀ {t : T} {v : V} {O : OH}, RT K S t v O → (∀ p ∈ O, S' p.1 = some p.2) → Rp K S' t.er v
  | .fz _, _, _, ⟨h1, _⟩, _ => h1.mono e
  | .tup _, _, _, ⟨a, vs, O', h1, h2, h3⟩, q => by
    subst h2
    exact ⟨a, vs, h1, .inl (.inl (q (a, .tup vs) (by simp))), RTs.er e h3 fun p hp => q p (List.mem_cons_of_mem _ hp)⟩
  | .lst _, _, _, ⟨a, vs, O', h1, h2, h3⟩, q => by
    subst h2
    exact ⟨a, vs, h1, q (a, .lst vs) (by simp), RTs.er e h3 fun p hp => q p (List.mem_cons_of_mem _ hp)⟩
  | .dct ks ts, _, _, ⟨a, vs, O', h1, h2, h3, h4⟩, q => by
    subst h2
    exact ⟨a, vs, h1, .inl (q (a, .dK (ks.zip vs)) (by simp)), RTs.er e h3 fun p hp => q p (List.mem_cons_of_mem _ hp), h4.trans (ers_len ts).symm⟩
  | .ins C fs ts, _, _, ⟨a, dx, vs, O', h1, h2, h3, h4⟩, q => by
    subst h2
    exact ⟨a, dx, vs, h1, q (a, .ins C dx (fs.zip vs)) (by simp), RTs.er e h3 fun p hp => q p (List.mem_cons_of_mem _ hp), h4.trans (ers_len ts).symm⟩
  | .at_ _ t, v, _, ⟨_, h2⟩, q => show Rp K S' t.er v from RT.er (t := t) e h2 q
theorem RTs.er (e : Same S S') : ∀ {ts : List T} {vs : List V} {O : OH}, RTs K S ts vs O → (∀ p ∈ O, S' p.1 = some p.2) → Rps K S' (ers ts) vs
  | [], _, _, h, _ => h.1
  | _ :: _, _, _, ⟨v, r, O1, O2, h1, h2, h3, h4⟩, q => by
    subst h2
    exact ⟨v, r, h1, RT.er e h3 fun p hp => q p (List.mem_append_left _ hp), RTs.er e h4 fun p hp => q p (List.mem_append_right _ hp)⟩
end

/-! ### the heap: S frozen, L owned -/
structure HI (H S : Hp) (L : OH) : Prop where
  at_ : ∀ p ∈ L, H p.1 = some p.2 ∧ S p.1 = none
  out : ∀ a, (∀ p ∈ L, p.1 ≠ a) → H a = S a
  nd : (L.map (·.1)).Nodup
variable {H : Hp} {L L' P : OH}
theorem HI.start (H : Hp) : HI H H [] := ⟨fun p hp => (nomatch hp), fun _ _ => rfl, List.nodup_nil⟩
theorem HI.same (h : HI H S L) : Same S H := fun a o e => by
  rw [h.out a fun p hp z => ?_]
  · exact e
  · rw [← z, (h.at_ p hp).2] at e; cases e
theorem HI.free (h : HI H S L) {a : Addr} (e : H a = none) : S a = none := Same.free h.same e
theorem HI.perm (h : HI H S L) (p : L.Perm L') : HI H S L' :=
  ⟨fun q hq => h.at_ q (p.mem_iff.mpr hq), fun a k => h.out a fun q hq => k q (p.mem_iff.mp hq), (p.map _).nodup_iff.mp h.nd⟩
theorem HI.fresh (h : HI H S L) {a : Addr} (e : H a = none) : ∀ p ∈ L, p.1 ≠ a := fun p hp z => by
  rw [← z, (h.at_ p hp).1] at e; cases e
theorem same_new {a : Addr} {o : HO} (e : S a = none) : Same S (upd S a o) := fun b u q => by
  rw [upd_ne (ne_of_none q e)]; exact q
/-- a new frozen object -/
theorem HI.new (h : HI H S L) {a : Addr} {o : HO} (e : H a = none) : HI (upd H a o) (upd S a o) L :=
  ⟨fun p hp => by
    have n := h.fresh e p hp
    rw [upd_ne n, upd_ne n]; exact h.at_ p hp, fun b k => by
    by_cases z : b = a
    · rw [z, upd_same, upd_same]
    · rw [upd_ne z, upd_ne z]; exact h.out b k, h.nd⟩
/-- a new own object -/
theorem HI.newO (h : HI H S L) {a : Addr} {o : HO} (e : H a = none) : HI (upd H a o) S ((a, o) :: L) :=
  ⟨fun p hp => by
    rcases List.mem_cons.mp hp with rfl | hp
    · exact ⟨upd_same, h.free e⟩
    · rw [upd_ne (h.fresh e p hp)]; exact h.at_ p hp, fun b k => by
    rw [upd_ne fun z => k (a, o) (by simp) z.symm]
    exact h.out b fun p hp => k p (List.mem_cons_of_mem _ hp), by
    rw [List.map_cons]
    exact List.nodup_cons.mpr ⟨fun z => by
      obtain ⟨p, hp, q⟩ := List.mem_map.mp z
      exact h.fresh e p hp q, h.nd⟩⟩
theorem HI.put {a : Addr} {o o' : HO} (h : HI H S ((a, o) :: L)) : HI (upd H a o') S ((a, o') :: L) := by
  have n := List.nodup_cons.mp (show (a :: L.map (·.1)).Nodup from h.nd)
  refine ⟨fun p hp => ?_, fun b k => ?_, h.nd⟩
  · rcases List.mem_cons.mp hp with rfl | hp
    · exact ⟨upd_same, (h.at_ (a, o) (by simp)).2⟩
    · rw [upd_ne fun z => n.1 (List.mem_map.mpr ⟨p, hp, z⟩)]; exact h.at_ p (List.mem_cons_of_mem _ hp)
  · have z : b ≠ a := fun z => k (a, o') (by simp) z.symm
    rw [upd_ne z]
    exact h.out b fun p hp => by
      rcases List.mem_cons.mp hp with rfl | hp
      · exact z.symm
      · exact k p (List.mem_cons_of_mem _ hp)
theorem HI.atO {a : Addr} {o : HO} (h : HI H S ((a, o) :: L)) : H a = some o := (h.at_ (a, o) (by simp)).1
/-- own objects are given up -/
theorem HI.freeze (h : HI H S (P ++ L)) : ∃ S', Same S S' ∧ HI H S' L ∧ ∀ p ∈ P, S' p.1 = some p.2 := by
  classical
  have nd : (P.map (·.1) ++ L.map (·.1)).Nodup := by rw [← List.map_append]; exact h.nd
  have dis := (List.nodup_append.mp nd).2.2
  have ndL := (List.nodup_append.mp nd).2.1
  refine ⟨fun a => if a ∈ P.map (·.1) then H a else S a, fun a o e => ?_, ⟨fun p hp => ?_, fun a k => ?_, ndL⟩, fun p hp => ?_⟩
  · by_cases c : a ∈ P.map (·.1)
    · dsimp only; rw [if_pos c]
      exact h.same a o e
    · dsimp only; rw [if_neg c]; exact e
  · have c : p.1 ∉ P.map (·.1) := fun z => dis _ z _ (List.mem_map.mpr ⟨p, hp, rfl⟩) rfl
    rw [if_neg c]
    exact h.at_ p (List.mem_append_right _ hp)
  · by_cases c : a ∈ P.map (·.1)
    · rw [if_pos c]
    · rw [if_neg c]
      refine h.out a fun p hp => ?_
      rcases List.mem_append.mp hp with hp | hp
      · exact fun z => c (List.mem_map.mpr ⟨p, hp, z⟩)
      · exact k p hp
  · dsimp only; rw [if_pos (List.mem_map.mpr ⟨p, hp, rfl⟩)]
    exact (h.at_ p (List.mem_append_left _ hp)).1
theorem HI.comm (h : HI H S (P ++ L)) : HI H S (L ++ P) := h.perm List.perm_append_comm
end

/-! ### the slots -/
abbrev Env := List (Option T)
def Rho (K : PySem.W.Frag) (S : Hp) : Env → St → OH → Prop
  | [], σ, O => σ = [] ∧ O = []
  | none :: ρ, σ, O => ∃ x r, σ = x :: r ∧ Rho K S ρ r O
  | some t :: ρ, σ, O => ∃ v r O1 O2, σ = some v :: r ∧ O = O1 ++ O2 ∧ RT K S t v O1 ∧ Rho K S ρ r O2
section
variable {K : PySem.W.Frag} {S S' : Hp}
theorem Rho.mono (e : Same S S') : ∀ {ρ : Env} {σ : St} {O : OH}, Rho K S ρ σ O → Rho K S' ρ σ O
  | [], _, _, h => h
  | none :: _, _, _, ⟨x, r, h1, h2⟩ => ⟨x, r, h1, Rho.mono e h2⟩
  | some _ :: _, _, _, ⟨v, r, O1, O2, h1, h2, h3, h4⟩ => ⟨v, r, O1, O2, h1, h2, h3.mono e, Rho.mono e h4⟩
theorem Rho.len : ∀ {ρ : Env} {σ : St} {O : OH}, Rho K S ρ σ O → σ.length = ρ.length
  | [], _, _, h => by rw [h.1]; rfl
  | none :: _, _, _, ⟨x, r, h1, h2⟩ => by rw [h1]; exact congrArg Nat.succ (Rho.len h2)
  | some _ :: _, _, _, ⟨v, r, O1, O2, h1, h2, h3, h4⟩ => by rw [h1]; exact congrArg Nat.succ (Rho.len h4)
/-- a frozen slot -/
theorem Rho.fz : ∀ {ρ : Env} {σ : St} {O : OH} {i : Nat} {d : D}, Rho K S ρ σ O → ρ[i]? = some (some (.fz d)) → ∃ v, σ[i]? = some (some v) ∧ Rp K S d v
  | [], _, _, _, _, _, e => by simp at e
  | none :: ρ, _, _, 0, _, _, e => by simp at e
  | none :: ρ, _, _, i + 1, d, ⟨x, r, h1, h2⟩, e => by
    subst h1
    obtain ⟨v, e1, e2⟩ := Rho.fz h2 (show ρ[i]? = some (some (.fz d)) by simpa using e)
    exact ⟨v, by simpa using e1, e2⟩
  | some t :: ρ, _, _, 0, d, ⟨v, r, O1, O2, h1, h2, h3, h4⟩, e => by
    subst h1
    have e' : t = .fz d := by simpa using e
    subst e'
    exact ⟨v, by simp, h3.1⟩
  | some t :: ρ, _, _, i + 1, d, ⟨v, r, O1, O2, h1, h2, h3, h4⟩, e => by
    subst h1
    obtain ⟨v, e1, e2⟩ := Rho.fz h4 (show ρ[i]? = some (some (.fz d)) by simpa using e)
    exact ⟨v, by simpa using e1, e2⟩
/-- a slot taken out: what remains knows it no more -/
theorem Rho.take : ∀ {ρ : Env} {σ : St} {O : OH} {i : Nat} {t : T}, Rho K S ρ σ O → ρ[i]? = some (some t) →
    ∃ v O1 O2, σ[i]? = some (some v) ∧ RT K S t v O1 ∧ Rho K S (ρ.set i none) σ O2 ∧ O.Perm (O1 ++ O2)
  | [], _, _, _, _, _, e => by simp at e
  | none :: ρ, _, _, 0, _, _, e => by simp at e
  | none :: ρ, _, _, i + 1, t, ⟨x, r, h1, h2⟩, e => by
    subst h1
    obtain ⟨v, O1, O2, e1, e2, e3, e4⟩ := Rho.take h2 (show ρ[i]? = some (some t) by simpa using e)
    exact ⟨v, O1, O2, by simpa using e1, e2, ⟨x, r, rfl, e3⟩, e4⟩
  | some t :: ρ, _, _, 0, t', ⟨v, r, O1, O2, h1, h2, h3, h4⟩, e => by
    subst h1
    have e' : t = t' := by simpa using e
    subst e'
    exact ⟨v, O1, O2, by simp, h3, ⟨some v, r, rfl, h4⟩, by rw [h2]⟩
  | some t :: ρ, _, _, i + 1, t', ⟨v, r, O1, O2, h1, h2, h3, h4⟩, e => by
    subst h1 h2
    obtain ⟨v', P1, P2, e1, e2, e3, e4⟩ := Rho.take h4 (show ρ[i]? = some (some t') by simpa using e)
    refine ⟨v', P1, O1 ++ P2, by simpa using e1, e2, ⟨v, r, O1, P2, rfl, rfl, h3, e3⟩, ?_⟩
    refine (List.Perm.append_left O1 e4).trans ?_
    rw [← List.append_assoc, ← List.append_assoc]
    exact List.Perm.append_right P2 List.perm_append_comm
/-- .. and put in -/
theorem Rho.put : ∀ {ρ : Env} {σ : St} {O O1 : OH} {i : Nat} {t : T} {v : V}, Rho K S ρ σ O → ρ[i]? = some none → RT K S t v O1 →
    ∃ O2, Rho K S (ρ.set i (some t)) (σ.set i (some v)) O2 ∧ O2.Perm (O1 ++ O)
  | [], _, _, _, _, _, _, _, e, _ => by simp at e
  | none :: ρ, _, O, O1, 0, t, v, ⟨x, r, h1, h2⟩, e, h => by
    subst h1
    exact ⟨O1 ++ O, ⟨v, r, O1, O, rfl, rfl, h, h2⟩, .refl _⟩
  | none :: ρ, _, _, _, i + 1, t, v, ⟨x, r, h1, h2⟩, e, h => by
    subst h1
    obtain ⟨O2, e1, e2⟩ := Rho.put (i := i) h2 (by simpa using e) h
    exact ⟨O2, ⟨x, r.set i (some v), rfl, e1⟩, e2⟩
  | some t :: ρ, _, _, _, 0, t', _, _, e, _ => by simp at e
  | some t :: ρ, _, _, P1, i + 1, t', v', ⟨v, r, O1, O2, h1, h2, h3, h4⟩, e, h => by
    subst h1 h2
    obtain ⟨P2, e1, e2⟩ := Rho.put (i := i) h4 (by simpa using e) h
    refine ⟨O1 ++ P2, ⟨v, r.set i (some v'), O1, P2, rfl, rfl, h3, e1⟩, ?_⟩
    refine (List.Perm.append_left O1 e2).trans ?_
    rw [← List.append_assoc, ← List.append_assoc]
    exact List.Perm.append_right O2 List.perm_append_comm
/-- the slots' own values do not matter where nothing is known -/
theorem Rho.setNone : ∀ {ρ : Env} {σ : St} {O : OH} {i : Nat} {x : Option V}, Rho K S ρ σ O → ρ[i]? = some none → Rho K S ρ (σ.set i x) O
  | [], _, _, _, _, _, e => by simp at e
  | none :: ρ, _, O, 0, x, ⟨y, r, h1, h2⟩, e => by subst h1; exact ⟨x, r, rfl, h2⟩
  | none :: ρ, _, O, i + 1, x, ⟨y, r, h1, h2⟩, e => by subst h1; exact ⟨y, r.set i x, rfl, Rho.setNone h2 (by simpa using e)⟩
  | some t :: ρ, _, _, 0, _, _, e => by simp at e
  | some t :: ρ, _, _, i + 1, x, ⟨v, r, O1, O2, h1, h2, h3, h4⟩, e => by
    subst h1
    exact ⟨v, r.set i x, O1, O2, rfl, h2, h3, Rho.setNone h4 (by simpa using e)⟩
end
/-- what is known less of -/
def Wk : Env → Env → Prop
  | [], ρ => ρ = []
  | _ :: ρ, none :: ρ' => Wk ρ ρ'
  | x :: ρ, some t :: ρ' => x = some t ∧ Wk ρ ρ'
  | _ :: _, [] => False
theorem Wk.refl : ∀ ρ : Env, Wk ρ ρ
  | [] => rfl
  | none :: ρ => Wk.refl ρ
  | some t :: ρ => ⟨rfl, Wk.refl ρ⟩
theorem Wk.rho {K : PySem.W.Frag} {S : Hp} : ∀ {ρ ρ' : Env} {σ : St} {O : OH}, Wk ρ ρ' → Rho K S ρ σ O → ∃ O1 O2, Rho K S ρ' σ O1 ∧ O.Perm (O2 ++ O1)
  | [], ρ', σ, O, w, h => by
    have e : ρ' = [] := w
    subst e
    exact ⟨O, [], h, .refl _⟩
  | none :: ρ, none :: ρ', _, O, w, ⟨x, r, h1, h2⟩ => by
    obtain ⟨O1, O2, e1, e2⟩ := Wk.rho (show Wk ρ ρ' from w) h2
    exact ⟨O1, O2, ⟨x, r, h1, e1⟩, e2⟩
  | none :: ρ, some t :: ρ', _, O, w, h => nomatch w.1
  | some t :: ρ, none :: ρ', _, O, w, ⟨v, r, P1, P2, h1, h2, h3, h4⟩ => by
    obtain ⟨O1, O2, e1, e2⟩ := Wk.rho (show Wk ρ ρ' from w) h4
    refine ⟨O1, P1 ++ O2, ⟨some v, r, h1, e1⟩, ?_⟩
    rw [h2, List.append_assoc]
    exact List.Perm.append_left P1 e2
  | some t :: ρ, some t' :: ρ', _, O, w, ⟨v, r, P1, P2, h1, h2, h3, h4⟩ => by
    obtain ⟨q, w⟩ := w
    cases q
    obtain ⟨O1, O2, e1, e2⟩ := Wk.rho w h4
    refine ⟨P1 ++ O1, O2, ⟨v, r, P1, O1, h1, rfl, h3, e1⟩, ?_⟩
    rw [h2]
    refine (List.Perm.append_left P1 e2).trans ?_
    rw [← List.append_assoc, ← List.append_assoc]
    exact List.Perm.append_right O1 List.perm_append_comm
  | none :: _, [], _, _, w, _ => w.elim
  | some _ :: _, [], _, _, w, _ => w.elim
end Fs

/-! F2: the judgements of expressions over the slots. -/
namespace Fs
open PySem PySem.Spec L2

theorem perm_sw (A B C : OH) : (A ++ (B ++ C)).Perm (B ++ (A ++ C)) := by
  rw [← List.append_assoc, ← List.append_assoc]
  exact List.Perm.append_right C List.perm_append_comm
theorem perm_2 (G1 G2 O R : OH) : (G2 ++ (O ++ (G1 ++ R))).Perm ((G1 ++ G2) ++ (O ++ R)) := by
  rw [List.append_assoc]
  exact (List.Perm.append_left G2 (perm_sw O G1 R)).trans (perm_sw G2 G1 (O ++ R))
theorem PE.imp {X : Cx} {e : Expr} {t t' : TE} (h : PE X e t) (k : ∀ σ H Q, t' σ H Q → t σ H Q) : PE X e t' := ⟨fun pins s σ H Q I q => h.run pins s σ H Q I (k σ H Q q)⟩
theorem PA.imp {X : Cx} {e : List Expr} {t t' : TA} (h : PA X e t) (k : ∀ σ H Q, t' σ H Q → t σ H Q) : PA X e t' := ⟨fun pos pins s σ H Q I q => h.run pos pins s σ H Q I (k σ H Q q)⟩
theorem PT.imp {X : Cx} {e : Expr} {t t' : TT} (h : PT X e t) (k : ∀ σ H Q, t' σ H Q → t σ H Q) : PT X e t' := ⟨fun pins s σ H Q I q => h.run pins s σ H Q I (k σ H Q q)⟩
theorem PW.imp {X : Cx} {e : Expr} {t t' : TT} (h : PW X e t) (k : ∀ σ H Q, t' σ H Q → t σ H Q) : PW X e t' := ⟨fun wh pins s σ H Q I q => h.run wh pins s σ H Q I (k σ H Q q)⟩
theorem PS.imp {X : Cx} {e : Stmt} {t t' : TS} (h : PS X e t) (k : ∀ D σ H, t' D σ H → t D σ H) : PS X e t' := ⟨fun pins s σ H Q I q => h.run pins s σ H Q I (k Q σ H q)⟩
theorem PSs.imp {X : Cx} {e : List Stmt} {t t' : TS} (h : PSs X e t) (k : ∀ D σ H, t' D σ H → t D σ H) : PSs X e t' := ⟨fun pins s σ H Q I q => h.run pins s σ H Q I (k Q σ H q)⟩
theorem PI.imp {X : Cx} {tg e : Expr} {t t' : TI} (h : PI X tg e t) (k : ∀ σ H R, t' σ H R → t σ H R) : PI X tg e t' := ⟨fun pins s σ H Q I q => h.run pins s σ H Q I (k σ H Q q)⟩
theorem pe_never {X : Cx} {e : Expr} {te : TE} (h : ∀ σ H Q, ¬ te σ H Q) : PE X e te := ⟨fun _ _ _ _ _ _ q => (h _ _ _ q).elim⟩
theorem pw_never {X : Cx} {e : Expr} : PW X e (fun _ _ _ => False) := ⟨fun _ _ _ _ _ _ _ h => h.elim⟩

/-- ahead: the slots are ρ -/
structure Pre (K : PySem.W.Frag) (ρ : Env) (σ : L2.St) (H S : Hp) (O R : OH) : Prop where
  hi : HI H S (O ++ R)
  rho : Rho K S ρ σ O
/-- e gives t, nothing that one owns is touched -/
def tP (K : PySem.W.Frag) (ρ : Env) (t : T) : TE := fun σ H Q => ∃ S O R, Pre K ρ σ H S O R ∧
  ∀ v H' S' G, Same S S' → HI H' S' (G ++ (O ++ R)) → RT K S' t v G → Q v H'
def tPA (K : PySem.W.Frag) (ρ : Env) (ts : List T) : TA := fun σ H Q => ∃ S O R, Pre K ρ σ H S O R ∧
  ∀ vs H' S' G, Same S S' → HI H' S' (G ++ (O ++ R)) → RTs K S' ts vs G → Q vs H'
def tPT (K : PySem.W.Frag) (ρ : Env) (b : Bool) : TT := fun σ H Q => ∃ S O R, Pre K ρ σ H S O R ∧
  ∀ H' S', Same S S' → HI H' S' (O ++ R) → Q b H'
/-- e gives t, the slots are ρ' behind it -/
def tE (K : PySem.W.Frag) (ρ ρ' : Env) (t : T) : TE := fun σ H Q => ∃ S O R, Pre K ρ σ H S O R ∧
  ∀ v H' S' O' G, Same S S' → HI H' S' (G ++ (O' ++ R)) → Rho K S' ρ' σ O' → RT K S' t v G → Q v H'
def tA (K : PySem.W.Frag) (ρ ρ' : Env) (ts : List T) : TA := fun σ H Q => ∃ S O R, Pre K ρ σ H S O R ∧
  ∀ vs H' S' O' G, Same S S' → HI H' S' (G ++ (O' ++ R)) → Rho K S' ρ' σ O' → RTs K S' ts vs G → Q vs H'
structure EP (X : Cx) (ρ : Env) (e : Expr) (t : T) : Prop where
  pe : PE X e (tP X.K ρ t)
structure AP (X : Cx) (ρ : Env) (es : List Expr) (ts : List T) : Prop where
  pa : PA X es (tPA X.K ρ ts)
structure BP (X : Cx) (ρ : Env) (e : Expr) (b : Bool) : Prop where
  pt : PT X e (tPT X.K ρ b)
structure BW (X : Cx) (ρ : Env) (e : Expr) (b : Bool) : Prop where
  pw : PW X e (tPT X.K ρ b)
structure ET (X : Cx) (ρ : Env) (e : Expr) (ρ' : Env) (t : T) : Prop where
  pe : PE X e (tE X.K ρ ρ' t)
structure AT (X : Cx) (ρ : Env) (es : List Expr) (ρ' : Env) (ts : List T) : Prop where
  pa : PA X es (tA X.K ρ ρ' ts)
abbrev EA (X : Cx) (ρ : Env) (e : Expr) (d : D) : Prop := EP X ρ e (.fz d)

/-- what a def's names are -/
structure Sco (X : Cx) (N : List Str) (scp : Scope) (vs ls : List Nat) (gs : List Str) : Prop where
  n : X.N = N
  sc : X.env.scope = scp
  nd : X.N.Nodup
  calm : X.calm = true
  vis : ∀ (i : Nat) (x : Str), vs.contains i = true → N[i]? = some x → Vis X.env.scope x ∧ (x == ("__debug__" : Str)) = false ∧ (x == ("__classdict__" : Str)) = false
  loc : ∀ (i : Nat) (x : Str), ls.contains i = true → N[i]? = some x → Loc X.env.scope x ∧ (X.fn x = true ∨ X.env.scope.names.lookup x = some .local)
  glo : ∀ (j : Nat) (x : Str), gs[j]? = some x → Gl X x ∧ (x == ("__debug__" : Str)) = false ∧ x ≠ "__name__"

/-- no starred thing -/
def NS (e : Expr) : Prop := ∀ (es : List Expr) (env : PySem.Env), starEach (e :: es) env = (false, eval e env) :: starEach es env
section
variable {X : Cx} {ρ ρ' ρ1 ρ2 : Env} {e a b : Expr} {d d1 d2 : D} {t t1 t2 : T} {pos : Pos} {N : List Str} {scp : Scope} {vs ls : List Nat} {gs : List Str}
theorem Pre.st {K : PySem.W.Frag} {σ : L2.St} {H S H' S' : Hp} {O R : OH} (p : Pre K ρ σ H S O R) (sm : Same S S') (hi : HI H' S' (O ++ R)) : Pre K ρ σ H' S' O R := ⟨hi, p.rho.mono sm⟩
theorem EP.eq (h : EP X ρ e t) (q : t = t1) : EP X ρ e t1 := q ▸ h
theorem EA.eq (h : EA X ρ e d) (q : d = d1) : EA X ρ e d1 := q ▸ h
/-- from a rule of the layer -/
theorem ep_of {te : TE} (h : PE X e te) (k : ∀ σ H S O R, Pre X.K ρ σ H S O R → ∀ Q : VK, (∀ v H' S' G, Same S S' → HI H' S' (G ++ (O ++ R)) → RT X.K S' t v G → Q v H') → te σ H Q) : EP X ρ e t :=
  ⟨PE.imp h fun σ H Q ⟨S, O, R, p, q⟩ => k σ H S O R p Q q⟩
theorem ap_of {es : List Expr} {ts : List T} {te : TA} (h : PA X es te) (k : ∀ σ H S O R, Pre X.K ρ σ H S O R → ∀ Q : List V → Hp → Prop, (∀ v H' S' G, Same S S' → HI H' S' (G ++ (O ++ R)) → RTs X.K S' ts v G → Q v H') → te σ H Q) : AP X ρ es ts :=
  ⟨PA.imp h fun σ H Q ⟨S, O, R, p, q⟩ => k σ H S O R p Q q⟩
theorem bp_of {c : Bool} {te : TT} (h : PT X e te) (k : ∀ σ H S O R, Pre X.K ρ σ H S O R → ∀ Q : Bool → Hp → Prop, (∀ H' S', Same S S' → HI H' S' (O ++ R) → Q c H') → te σ H Q) : BP X ρ e c :=
  ⟨PT.imp h fun σ H Q ⟨S, O, R, p, q⟩ => k σ H S O R p Q q⟩
theorem bw_of {c : Bool} {te : TT} (h : PW X e te) (k : ∀ σ H S O R, Pre X.K ρ σ H S O R → ∀ Q : Bool → Hp → Prop, (∀ H' S', Same S S' → HI H' S' (O ++ R) → Q c H') → te σ H Q) : BW X ρ e c :=
  ⟨PW.imp h fun σ H Q ⟨S, O, R, p, q⟩ => k σ H S O R p Q q⟩
theorem et_of {te : TE} (h : PE X e te) (k : ∀ σ H S O R, Pre X.K ρ σ H S O R → ∀ Q : VK, (∀ v H' S' O' G, Same S S' → HI H' S' (G ++ (O' ++ R)) → Rho X.K S' ρ' σ O' → RT X.K S' t v G → Q v H') → te σ H Q) : ET X ρ e ρ' t :=
  ⟨PE.imp h fun σ H Q ⟨S, O, R, p, q⟩ => k σ H S O R p Q q⟩
theorem at_of {es : List Expr} {ts : List T} {te : TA} (h : PA X es te) (k : ∀ σ H S O R, Pre X.K ρ σ H S O R → ∀ Q : List V → Hp → Prop, (∀ v H' S' O' G, Same S S' → HI H' S' (G ++ (O' ++ R)) → Rho X.K S' ρ' σ O' → RTs X.K S' ts v G → Q v H') → te σ H Q) : AT X ρ es ρ' ts :=
  ⟨PA.imp h fun σ H Q ⟨S, O, R, p, q⟩ => k σ H S O R p Q q⟩
/-- using a judgement in the middle of a reading -/
theorem use {Q : VK} {σ : L2.St} {H S : Hp} {O R : OH} (p : Pre X.K ρ σ H S O R) (k : ∀ v H' S' G, Same S S' → HI H' S' (G ++ (O ++ R)) → RT X.K S' t v G → Q v H') : tP X.K ρ t σ H Q := ⟨S, O, R, p, k⟩
theorem useA {Q : VK} {σ : L2.St} {H S : Hp} {O R : OH} (p : Pre X.K ρ σ H S O R) (k : ∀ v H' S', Same S S' → Pre X.K ρ σ H' S' O R → Rp X.K S' d v → Q v H') : tP X.K ρ (.fz d) σ H Q := ⟨S, O, R, p, fun v H' S' G sm hi ht => by
  obtain ⟨h1, h2⟩ := ht
  subst h2
  exact k v H' S' sm (p.st sm hi) h1⟩
theorem useT {c : Bool} {Q : Bool → Hp → Prop} {σ : L2.St} {H S : Hp} {O R : OH} (p : Pre X.K ρ σ H S O R) (k : ∀ H' S', Same S S' → Pre X.K ρ σ H' S' O R → Q c H') : tPT X.K ρ c σ H Q := ⟨S, O, R, p, fun H' S' sm hi => k H' S' sm (p.st sm hi)⟩
/-- a flat answer at once -/
theorem EP.et (h : EP X ρ e t) : ET X ρ e ρ t := et_of h.pe fun σ H S O R p Q k => use p fun v H' S' G sm hi ht => k v H' S' O G sm hi (p.rho.mono sm) ht
/-- own things are given up -/
theorem ep_fz (h : EP X ρ e t) : EA X ρ e t.er := ep_of h.pe fun σ H S O R p Q k => use p fun v H' S' G sm hi ht => by
  obtain ⟨S2, sm2, hi2, q⟩ := hi.freeze
  exact k v H' S2 [] (sm.trans sm2) hi2 ⟨RT.er sm2 ht q, rfl⟩
theorem ep_fz' (h : EP X ρ e t) (q : t.er = d) : EA X ρ e d := q ▸ ep_fz h
theorem et_fz (h : ET X ρ e ρ' t) : ET X ρ e ρ' (.fz t.er) := et_of h.pe fun σ H S O R p Q k => ⟨S, O, R, p, fun v H' S' O' G sm hi hr ht => by
  obtain ⟨S2, sm2, hi2, q⟩ := hi.freeze
  exact k v H' S2 O' [] (sm.trans sm2) hi2 (hr.mono sm2) ⟨RT.er sm2 ht q, rfl⟩⟩

/-! ### borrowing: for an answer that holds nothing of the slots, all of them may be looked at as frozen -/
def flatD : D → Bool
  | .non => true | .bl _ => true | .int _ => true | .str _ => true | _ => false
mutual
def T.ind : T → Bool
  | .fz d => flatD d
  | .tup ts => inds ts
  | .lst ts => inds ts
  | .dct _ ts => inds ts
  | .ins _ _ ts => inds ts
  | .at_ _ t => t.ind
def inds : List T → Bool
  | [] => true
  | t :: ts => t.ind && inds ts
end
theorem Rp.flat {K : PySem.W.Frag} {S S' : Hp} : ∀ {d : D} {v : V}, flatD d = true → Rp K S d v → Rp K S' d v
  | .non, _, _, h => h
  | .bl _, _, _, h => h
  | .int _, _, _, h => h
  | .str _, _, _, h => h
  | .tup _, _, f, _ => nomatch f
  | .lst _, _, f, _ => nomatch f
  | .rol _, _, f, _ => nomatch f
  | .dct _ _, _, f, _ => nomatch f
  | .ins _ _ _, _, f, _ => nomatch f
mutual
theorem RT.ind {K : PySem.W.Frag} {S S' : Hp} : ∀ {t : T} {v : V} {O : OH}, t.ind = true → RT K S t v O → RT K S' t v O
  | .fz _, _, _, f, ⟨h1, h2⟩ => ⟨h1.flat f, h2⟩
  | .tup _, _, _, f, ⟨a, vs, O', h1, h2, h3⟩ => ⟨a, vs, O', h1, h2, RTs.ind f h3⟩
  | .lst _, _, _, f, ⟨a, vs, O', h1, h2, h3⟩ => ⟨a, vs, O', h1, h2, RTs.ind f h3⟩
  | .dct _ _, _, _, f, ⟨a, vs, O', h1, h2, h3, h4⟩ => ⟨a, vs, O', h1, h2, RTs.ind f h3, h4⟩
  | .ins _ _ _, _, _, f, ⟨a, dx, vs, O', h1, h2, h3, h4⟩ => ⟨a, dx, vs, O', h1, h2, RTs.ind f h3, h4⟩
  | .at_ _ _, _, _, f, ⟨h1, h2⟩ => ⟨h1, RT.ind f h2⟩
theorem RTs.ind {K : PySem.W.Frag} {S S' : Hp} : ∀ {ts : List T} {vs : List V} {O : OH}, inds ts = true → RTs K S ts vs O → RTs K S' ts vs O
  | [], _, _, _, h => h
  | t :: ts, _, _, f, ⟨v, r, O1, O2, h1, h2, h3, h4⟩ => by
    have f' : (t.ind && inds ts) = true := f
    rw [Bool.and_eq_true] at f'
    exact ⟨v, r, O1, O2, h1, h2, RT.ind f'.1 h3, RTs.ind f'.2 h4⟩
end
def fzs (ρ : Env) : Env := ρ.map fun x => x.map fun t => T.fz t.er
theorem Rho.fzs {K : PySem.W.Frag} {S S' : Hp} (e : Same S S') : ∀ {ρ : Env} {σ : L2.St} {O : OH}, Rho K S ρ σ O → (∀ p ∈ O, S' p.1 = some p.2) → Rho K S' (fzs ρ) σ []
  | [], _, _, h, _ => ⟨h.1, rfl⟩
  | none :: _, _, _, ⟨x, r, h1, h2⟩, q => ⟨x, r, h1, Rho.fzs e h2 q⟩
  | some t :: _, _, _, ⟨v, r, O1, O2, h1, h2, h3, h4⟩, q => by
    subst h2
    exact ⟨v, r, [], [], h1, rfl, ⟨RT.er e h3 fun p hp => q p (List.mem_append_left _ hp), rfl⟩, Rho.fzs e h4 fun p hp => q p (List.mem_append_right _ hp)⟩
/-- what was frozen for a while is taken back -/
theorem HI.thaw {H S S2 H' S' : Hp} {O R G : OH} (h : HI H S (O ++ R)) (sm : Same S S2) (q : ∀ p ∈ O, S2 p.1 = some p.2) (sm2 : Same S2 S') (h' : HI H' S' (G ++ R)) : ∃ S3, Same S S3 ∧ HI H' S3 (G ++ (O ++ R)) := by
  classical
  have inO : ∀ p ∈ O, S' p.1 = some p.2 ∧ H' p.1 = some p.2 := fun p hp => ⟨sm2 _ _ (q p hp), h'.same _ _ (sm2 _ _ (q p hp))⟩
  refine ⟨fun a => if a ∈ O.map (·.1) then none else S' a, fun a o e => ?_, HI.perm (L := O ++ (G ++ R)) ⟨fun p hp => ?_, fun a k => ?_, ?_⟩ (perm_sw O G R)⟩
  · have c : a ∉ O.map (·.1) := fun z => by
      obtain ⟨p, hp, e2⟩ := List.mem_map.mp z
      have := (h.at_ p (List.mem_append_left _ hp)).2
      rw [e2, e] at this; cases this
    dsimp only
    rw [if_neg c]
    exact sm2 _ _ (sm _ _ e)
  · rcases List.mem_append.mp hp with hp | hp
    · exact ⟨(inO p hp).2, by rw [if_pos (List.mem_map.mpr ⟨p, hp, rfl⟩)]⟩
    · have c : p.1 ∉ O.map (·.1) := fun z => by
        obtain ⟨r, hr, e2⟩ := List.mem_map.mp z
        have := (h'.at_ p hp).2
        rw [← e2, (inO r hr).1] at this; cases this
      exact ⟨(h'.at_ p hp).1, by rw [if_neg c]; exact (h'.at_ p hp).2⟩
  · have c : a ∉ O.map (·.1) := fun z => by
      obtain ⟨p, hp, e2⟩ := List.mem_map.mp z
      exact k p (List.mem_append_left _ hp) e2
    rw [if_neg c]
    exact h'.out a fun p hp => k p (List.mem_append_right _ hp)
  · rw [List.map_append]
    refine List.nodup_append.mpr ⟨?_, h'.nd, fun x hx y hy e => ?_⟩
    · have := h.nd
      rw [List.map_append] at this
      exact (List.nodup_append.mp this).1
    · obtain ⟨p, hp, e1⟩ := List.mem_map.mp hx
      obtain ⟨r, hr, e2⟩ := List.mem_map.mp hy
      have := (h'.at_ r hr).2
      rw [e2, ← e, ← e1, (inO p hp).1] at this; cases this
/-- the slots' own things and the frame, frozen for a while -/
theorem Pre.bor {K : PySem.W.Frag} {σ : L2.St} {H S : Hp} {O R : OH} (p : Pre K ρ σ H S O R) : ∃ S2, Same S S2 ∧ (∀ q ∈ O, S2 q.1 = some q.2) ∧ Pre K (fzs ρ) σ H S2 [] R := by
  obtain ⟨S2, sm, hi, q⟩ := p.hi.freeze
  exact ⟨S2, sm, q, ⟨hi, p.rho.fzs sm q⟩⟩
theorem ep_bor (h : EP X (fzs ρ) e t) (hi : t.ind = true) : EP X ρ e t := ep_of h.pe fun σ H S O R p Q k => by
  obtain ⟨S2, sm, q, p2⟩ := p.bor
  refine use p2 fun v H' S' G sm2 hi2 ht => ?_
  obtain ⟨S3, sm3, hi3⟩ := p.hi.thaw sm q sm2 hi2
  exact k v H' S3 G sm3 hi3 (ht.ind hi)
theorem ap_bor {es : List Expr} {ts : List T} (h : AP X (fzs ρ) es ts) (hi : inds ts = true) : AP X ρ es ts := ap_of h.pa fun σ H S O R p Q k => by
  obtain ⟨S2, sm, q, p2⟩ := p.bor
  refine ⟨S2, [], R, p2, fun v H' S' G sm2 hi2 ht => ?_⟩
  obtain ⟨S3, sm3, hi3⟩ := p.hi.thaw sm q sm2 hi2
  exact k v H' S3 G sm3 hi3 (ht.ind hi)
theorem bp_bor {c : Bool} (h : BP X (fzs ρ) e c) : BP X ρ e c := bp_of h.pt fun σ H S O R p Q k => by
  obtain ⟨S2, sm, q, p2⟩ := p.bor
  refine useT p2 fun H' S' sm2 p3 => ?_
  obtain ⟨S3, sm3, hi3⟩ := p.hi.thaw (G := []) sm q sm2 p3.hi
  exact k H' S3 sm3 hi3

/-! ### names, constants -/
theorem ea_var {x : Str} (Sc : Sco X N scp vs ls gs) (i : Nat) (hv : vs.contains i = true) (hN : N[i]? = some x) (hρ : ρ[i]? = some (some (.fz d))) : EA X ρ (.Name x pos) d := by
  obtain ⟨v1, v2, v3⟩ := Sc.vis i x hv hN
  refine ep_of (pe_var (i := i) (Sc.n ▸ hN) v1 v2 v3) fun σ H S O R p Q k => ?_
  obtain ⟨v, e1, e2⟩ := p.rho.fz hρ
  exact ⟨v, e1, k v H S [] (Same.refl S) p.hi ⟨e2, rfl⟩⟩
/-- a name that is not asked again: its own things go along -/
theorem et_move {x : Str} (Sc : Sco X N scp vs ls gs) (i : Nat) (hv : vs.contains i = true) (hN : N[i]? = some x) (hρ : ρ[i]? = some (some t)) : ET X ρ (.Name x pos) (ρ.set i none) t := by
  obtain ⟨v1, v2, v3⟩ := Sc.vis i x hv hN
  refine et_of (pe_var (i := i) (Sc.n ▸ hN) v1 v2 v3) fun σ H S O R p Q k => ?_
  obtain ⟨v, O1, O2, e1, e2, e3, e4⟩ := p.rho.take hρ
  refine ⟨v, e1, k v H S O2 O1 (Same.refl S) (p.hi.perm ?_) e3 e2⟩
  rw [← List.append_assoc]
  exact List.Perm.append_right R e4
theorem ea_int {i : Int} {j} : EA X ρ (.Constant (.int i) j pos) (.int i) := ep_of pe_int fun σ H S O R p Q k => k _ H S [] (Same.refl S) p.hi ⟨rfl, rfl⟩
theorem ea_bl {i : Bool} {j} : EA X ρ (.Constant (.bool i) j pos) (.bl i) := ep_of pe_bl fun σ H S O R p Q k => k _ H S [] (Same.refl S) p.hi ⟨rfl, rfl⟩
theorem ea_non {j} : EA X ρ (.Constant .none j pos) .non := ep_of pe_non fun σ H S O R p Q k => k _ H S [] (Same.refl S) p.hi ⟨rfl, rfl⟩
theorem ea_str {x : Str} {j} : EA X ρ (.Constant (.str x) j pos) (.str x) := ep_of pe_str fun σ H S O R p Q k => k _ H S [] (Same.refl S) p.hi ⟨rfl, rfl⟩
/-- a module's constant -/
def Gv (K : PySem.W.Frag) (mg : Str → Option Value) (x : Str) (d : D) : Prop := ∃ u v, mg x = some u ∧ RelV v u ∧ ∀ S, Rp K S d v
theorem ea_glob {x : Str} (Sc : Sco X N scp vs ls gs) (j : Nat) (hg : gs[j]? = some x) (h : Gv X.K X.mg x d) : EA X ρ (.Name x pos) d := by
  obtain ⟨u, v, h1, h2, h3⟩ := h
  obtain ⟨g1, g2, g3⟩ := Sc.glo j x hg
  exact ep_of (pe_glob g1 h1 h2 g2) fun σ H S O R p Q k => k _ H S [] (Same.refl S) p.hi ⟨h3 S, rfl⟩

/-! ### operators by values -/
/-- an operator's answer -/
class BinD (op : Operator) (d1 d2 : D) (t : outParam T) (c : outParam Prop) : Prop where
  ok : ∀ X : Cx, ∃ r : R2, OpR X (binaryOp op) r ∧ ∀ (H S : Hp) (L : OH) (v1 v2 : V) (Q : VK), c → HI H S L → Rp X.K S d1 v1 → Rp X.K S d2 v2 →
    (∀ v H' S' G, Same S S' → HI H' S' (G ++ L) → RT X.K S' t v G → Q v H') → r v1 v2 H Q
class CmpD (op : CmpOp) (d1 d2 : D) (k : outParam Bool) (c : outParam Prop) : Prop where
  ok : ∀ X : Cx, Room 0 X.A → ∃ r : R2, OpR X (compareOp op) r ∧ ∀ (H S : Hp) (L : OH) (v1 v2 : V) (Q : VK), c → HI H S L → Rp X.K S d1 v1 → Rp X.K S d2 v2 → Q (.bl k) H → r v1 v2 H Q
theorem ep_bin {op : Operator} {c : Prop} [i : BinD op d1 d2 t c] (ha : EA X ρ a d1) (hb : EA X ρ b d2) (hc : c) : EP X ρ (.BinOp a op b pos) t := by
  obtain ⟨r, h1, h2⟩ := i.ok X
  refine ep_of (pe_op h1 ha.pe hb.pe) fun σ H S O R p Q k => useA p fun v1 H1 S1 sm1 p1 r1 => useA p1 fun v2 H2 S2 sm2 p2 r2 => ?_
  exact h2 H2 S2 _ v1 v2 Q hc p2.hi (r1.mono sm2) r2 fun v H' S' G sm hi ht => k v H' S' G ((sm1.trans sm2).trans sm) hi ht
theorem ea_cmp {op : CmpOp} {c : Prop} {z : Bool} [i : CmpD op d1 d2 z c] (hr : Room 0 X.A) (ha : EA X ρ a d1) (hb : EA X ρ b d2) (hc : c) (hm : behindInMarks op b = false) : EA X ρ (.Compare a [op] [b] pos) (.bl z) := by
  obtain ⟨r, h1, h2⟩ := i.ok X hr
  refine ep_of (pe_cmpR h1 ha.pe hb.pe hm) fun σ H S O R p Q k => useA p fun v1 H1 S1 sm1 p1 r1 => useA p1 fun v2 H2 S2 sm2 p2 r2 => ?_
  exact h2 H2 S2 _ v1 v2 Q hc p2.hi (r1.mono sm2) r2 (k _ H2 S2 [] (sm1.trans sm2) p2.hi ⟨rfl, rfl⟩)
theorem bp_cmp {op : CmpOp} {c : Prop} {z : Bool} [i : CmpD op d1 d2 z c] (hr : Room 0 X.A) (ha : EA X ρ a d1) (hb : EA X ρ b d2) (hc : c) (hm : behindInMarks op b = false) : BP X ρ (.Compare a [op] [b] pos) z := by
  obtain ⟨r, h1, h2⟩ := i.ok X hr
  refine bp_of (pt_cmpR h1 ha.pe hb.pe hm) fun σ H S O R p Q k => useA p fun v1 H1 S1 sm1 p1 r1 => useA p1 fun v2 H2 S2 sm2 p2 r2 => ?_
  exact h2 H2 S2 _ v1 v2 _ hc p2.hi (r1.mono sm2) r2 ⟨z, rfl, k H2 S2 (sm1.trans sm2) p2.hi⟩
theorem bp_val {c : Bool} (h : EA X ρ e (.bl c)) (he : ∀ whole, isTrue e X.env whole = (do let v ← whole; standAt e.pos; holding [v] (truthy v))) : BP X ρ e c :=
  bp_of (pt_val h.pe he) fun σ H S O R p Q k => useA p fun v1 H1 S1 sm1 p1 r1 => ⟨c, r1, k H1 S1 sm1 p1.hi⟩
theorem bp_not {c : Bool} (h : BP X ρ e c) : BP X ρ (.UnaryOp .Not e pos) (!c) :=
  bp_of (pt_not h.pt) fun σ H S O R p Q k => useT p fun H1 S1 sm1 p1 => k H1 S1 sm1 p1.hi
theorem BW.bp {c : Bool} (h : BW X ρ e c) : BP X ρ e c := ⟨h.pw.pt⟩
theorem bw_and1 {c : Bool} (h : BP X ρ a c) : BW X ρ (.BoolOp .And [a] pos) c := ⟨pw_and1 h.pt⟩
theorem bw_or1 {c : Bool} (h : BP X ρ a c) : BW X ρ (.BoolOp .Or [a] pos) c := ⟨pw_or1 h.pt⟩
theorem bw_and {c z : Bool} {rest : List Expr} (h : BP X ρ a c) (hb : c = true → BW X ρ (.BoolOp .And (b :: rest) pos) z) : BW X ρ (.BoolOp .And (a :: b :: rest) pos) (c && z) := by
  cases c with
  | true => exact bw_of (pw_and h.pt (hb rfl).pw) fun σ H S O R p Q k => useT p fun H1 S1 sm1 p1 => iteT (useT p1 fun H2 S2 sm2 p2 => k H2 S2 (sm1.trans sm2) p2.hi)
  | false => exact bw_of (pw_and h.pt pw_never) fun σ H S O R p Q k => useT p fun H1 S1 sm1 p1 => iteF (k H1 S1 sm1 p1.hi)
theorem bw_or {c z : Bool} {rest : List Expr} (h : BP X ρ a c) (hb : c = false → BW X ρ (.BoolOp .Or (b :: rest) pos) z) : BW X ρ (.BoolOp .Or (a :: b :: rest) pos) (c || z) := by
  cases c with
  | false => exact bw_of (pw_or h.pt (hb rfl).pw) fun σ H S O R p Q k => useT p fun H1 S1 sm1 p1 => iteF (useT p1 fun H2 S2 sm2 p2 => k H2 S2 (sm1.trans sm2) p2.hi)
  | true => exact bw_of (pw_or h.pt pw_never) fun σ H S O R p Q k => useT p fun H1 S1 sm1 p1 => iteT (k H1 S1 sm1 p1.hi)
/-- .. as values -/
theorem ep_one {op} (h : EP X ρ a t) : EP X ρ (.BoolOp op [a] pos) t := ⟨pe_one h.pe⟩
theorem ea_and {c z : Bool} {rest : List Expr} (h : EA X ρ a (.bl c)) (hb : c = true → EA X ρ (.BoolOp .And (b :: rest) pos) (.bl z)) : EA X ρ (.BoolOp .And (a :: b :: rest) pos) (.bl (c && z)) := by
  cases c with
  | true => exact ep_of (pe_and h.pe (hb rfl).pe) fun σ H S O R p Q k => useA p fun v1 H1 S1 sm1 p1 r1 => ⟨true, r1, iteT (useA p1 fun v2 H2 S2 sm2 p2 r2 => k v2 H2 S2 [] (sm1.trans sm2) p2.hi ⟨r2, rfl⟩)⟩
  | false => exact ep_of (pe_and h.pe (tb := fun _ _ _ => False) (pe_never fun _ _ _ h => h)) fun σ H S O R p Q k => useA p fun v1 H1 S1 sm1 p1 r1 => ⟨false, r1, iteF (k _ H1 S1 [] sm1 p1.hi ⟨rfl, rfl⟩)⟩
theorem ea_or {c z : Bool} {rest : List Expr} (h : EA X ρ a (.bl c)) (hb : c = false → EA X ρ (.BoolOp .Or (b :: rest) pos) (.bl z)) : EA X ρ (.BoolOp .Or (a :: b :: rest) pos) (.bl (c || z)) := by
  cases c with
  | false => exact ep_of (pe_or h.pe (hb rfl).pe) fun σ H S O R p Q k => useA p fun v1 H1 S1 sm1 p1 r1 => ⟨false, r1, iteF (useA p1 fun v2 H2 S2 sm2 p2 r2 => k v2 H2 S2 [] (sm1.trans sm2) p2.hi ⟨r2, rfl⟩)⟩
  | true => exact ep_of (pe_or h.pe (tb := fun _ _ _ => False) (pe_never fun _ _ _ h => h)) fun σ H S O R p Q k => useA p fun v1 H1 S1 sm1 p1 r1 => ⟨true, r1, iteT (k _ H1 S1 [] sm1 p1.hi ⟨rfl, rfl⟩)⟩
theorem ea_not {c : Bool} (h : EA X ρ e (.bl c)) : EA X ρ (.UnaryOp .Not e pos) (.bl (!c)) :=
  ep_of (pe_not h.pe) fun σ H S O R p Q k => useA p fun v1 H1 S1 sm1 p1 r1 => ⟨c, r1, k _ H1 S1 [] sm1 p1.hi ⟨rfl, rfl⟩⟩
/-- a if c else b: each way where it is taken -/
theorem ep_if {c : Bool} {ce : Expr} (h : BP X ρ ce c) (ha : c = true → EP X ρ a t) (hb : c = false → EP X ρ b t) : EP X ρ (.IfExp ce a b pos) t := by
  cases c with
  | true => exact ep_of (pe_ifExp h.pt (ha rfl).pe (tb := fun _ _ _ => False) (pe_never fun _ _ _ h => h)) fun σ H S O R p Q k => useT p fun H1 S1 sm1 p1 => iteT (use p1 fun v H' S' G sm hi ht => k v H' S' G (sm1.trans sm) hi ht)
  | false => exact ep_of (pe_ifExp h.pt (ta := fun _ _ _ => False) (pe_never fun _ _ _ h => h) (hb rfl).pe) fun σ H S O R p Q k => useT p fun H1 S1 sm1 p1 => iteF (use p1 fun v H' S' G sm hi ht => k v H' S' G (sm1.trans sm) hi ht)
/-! ### argument lists, displays -/
theorem ap_nil : AP X ρ [] [] := ap_of pa_nil fun σ H S O R p Q k => k [] H S [] (Same.refl S) p.hi ⟨rfl, rfl⟩
theorem ap_cons {es : List Expr} {ts : List T} (h : EP X ρ e t) (hr : AP X ρ es ts) (hs : NS e := by intro _ _; rfl) : AP X ρ (e :: es) (t :: ts) :=
  ap_of (pa_cons h.pe hr.pa (hs es X.env)) fun σ H S O R p Q k => use p fun v1 H1 S1 G1 sm1 hi1 ht1 => by
    have hi1' : HI H1 S1 (O ++ (G1 ++ R)) := hi1.perm (perm_sw G1 O R)
    refine ⟨S1, O, G1 ++ R, ⟨hi1', p.rho.mono sm1⟩, fun vs H2 S2 G2 sm2 hi2 ht2 => ?_⟩
    exact k (v1 :: vs) H2 S2 (G1 ++ G2) (sm1.trans sm2) (hi2.perm (perm_2 G1 G2 O R)) ⟨v1, vs, G1, G2, rfl, rfl, ht1.mono sm2, ht2⟩
theorem ep_tup {es : List Expr} {ts : List T} {x1} (h : AP X ρ es ts) (hl : ts.length ≤ sizeLine) : EP X ρ (.Tuple es x1 pos) (.tup ts) :=
  ep_of (pe_tup h.pa) fun σ H S O R p Q k => ⟨S, O, R, p, fun vs H1 S1 G1 sm1 hi1 ht1 => ⟨by rw [ht1.len]; exact hl, fun a na => k _ _ S1 ((a, .tup vs) :: G1) sm1 (hi1.newO na) ⟨a, vs, G1, rfl, rfl, ht1⟩⟩⟩
theorem ep_lst {es : List Expr} {ts : List T} (h : AP X ρ es ts) (hl : ts.length ≤ sizeLine) : EP X ρ (.List es pos) (.lst ts) :=
  ep_of (pe_lst h.pa) fun σ H S O R p Q k => ⟨S, O, R, p, fun vs H1 S1 G1 sm1 hi1 ht1 => ⟨by rw [ht1.len]; exact hl, fun a na => k _ _ S1 ((a, .lst vs) :: G1) sm1 (hi1.newO na) ⟨a, vs, G1, rfl, rfl, ht1⟩⟩⟩
theorem at_nil : AT X ρ [] ρ [] := at_of pa_nil fun σ H S O R p Q k => k [] H S O [] (Same.refl S) p.hi p.rho ⟨rfl, rfl⟩
theorem at_cons {es : List Expr} {ts : List T} (h : ET X ρ e ρ1 t) (hr : AT X ρ1 es ρ2 ts) (hs : NS e := by intro _ _; rfl) : AT X ρ (e :: es) ρ2 (t :: ts) :=
  at_of (pa_cons h.pe hr.pa (hs es X.env)) fun σ H S O R p Q k => ⟨S, O, R, p, fun v1 H1 S1 O1 G1 sm1 hi1 hr1 ht1 => by
    have hi1' : HI H1 S1 (O1 ++ (G1 ++ R)) := hi1.perm (perm_sw G1 O1 R)
    refine ⟨S1, O1, G1 ++ R, ⟨hi1', hr1⟩, fun vs H2 S2 O2 G2 sm2 hi2 hr2 ht2 => ?_⟩
    exact k (v1 :: vs) H2 S2 O2 (G1 ++ G2) (sm1.trans sm2) (hi2.perm (perm_2 G1 G2 O2 R)) hr2 ⟨v1, vs, G1, G2, rfl, rfl, ht1.mono sm2, ht2⟩⟩
theorem et_tup {es : List Expr} {ts : List T} {x1} (h : AT X ρ es ρ' ts) (hl : ts.length ≤ sizeLine) : ET X ρ (.Tuple es x1 pos) ρ' (.tup ts) :=
  et_of (pe_tup h.pa) fun σ H S O R p Q k => ⟨S, O, R, p, fun vs H1 S1 O1 G1 sm1 hi1 hr1 ht1 => ⟨by rw [ht1.len]; exact hl, fun a na => k _ _ S1 O1 ((a, .tup vs) :: G1) sm1 (hi1.newO na) hr1 ⟨a, vs, G1, rfl, rfl, ht1⟩⟩⟩
theorem et_lst {es : List Expr} {ts : List T} (h : AT X ρ es ρ' ts) (hl : ts.length ≤ sizeLine) : ET X ρ (.List es pos) ρ' (.lst ts) :=
  et_of (pe_lst h.pa) fun σ H S O R p Q k => ⟨S, O, R, p, fun vs H1 S1 O1 G1 sm1 hi1 hr1 ht1 => ⟨by rw [ht1.len]; exact hl, fun a na => k _ _ S1 O1 ((a, .lst vs) :: G1) sm1 (hi1.newO na) hr1 ⟨a, vs, G1, rfl, rfl, ht1⟩⟩⟩
theorem RTs.fzs {K : PySem.W.Frag} {S : Hp} : ∀ {ds : List D} {vs : List V} {O : OH}, RTs K S (ds.map .fz) vs O → Rps K S ds vs ∧ O = []
  | [], _, _, h => ⟨h.1, h.2⟩
  | d :: ds, _, _, ⟨v, r, O1, O2, h1, h2, h3, h4⟩ => by
    obtain ⟨q1, q2⟩ := RTs.fzs (show RTs K S (ds.map .fz) r O2 from h4)
    obtain ⟨q3, q4⟩ := h3
    exact ⟨⟨v, r, h1, q3, q1⟩, by rw [h2, q4, q2]; rfl⟩
theorem Rps.ts {K : PySem.W.Frag} {S : Hp} : ∀ {ds : List D} {vs : List V}, Rps K S ds vs → RTs K S (ds.map .fz) vs []
  | [], _, h => ⟨h, rfl⟩
  | d :: ds, _, ⟨v, r, h1, h2, h3⟩ => ⟨v, r, [], [], h1, rfl, ⟨h2, rfl⟩, Rps.ts h3⟩
end
end Fs

/-! F3: statements, loops, calls, comprehensions over the slots. -/
namespace Fs
open PySem PySem.Spec L2

/-- an exception: its class by name, its field -/
structure Xn where
  name : Str
  fld : Option (Str × D) := none
inductive Out where
  | ok (t : T) | ex (x : Xn)
def XRep (K : PySem.W.Frag) (mg : Str → Option Value) (S : Hp) (x : Xn) (cls : Value) (dd : Option Addr) : Prop :=
  mg x.name = some cls ∧ match x.fld with
    | none => dd = none
    | some (f, d) => ∃ a v, dd = some a ∧ S a = some (.xd [(f, v)]) ∧ Rp K S d v
/-- what is wanted behind statements -/
structure Post where
  nx : Env → Prop
  rt : T → Prop
  ex : Env → Xn → Prop
  bk : Env → Prop := fun _ => False
  ct : Env → Prop := fun _ => False
structure Aft (K : PySem.W.Frag) (S R : Hp → OH → Prop) : Prop where
def tS (K : PySem.W.Frag) (mg : Str → Option Value) (W : WX) (ρ : Env) (Po : Post) : TS := fun D σ H => ∃ S O R, Pre K ρ σ H S O R ∧
  (∀ ρ' σ' H' S' O', Po.nx ρ' → Same S S' → HI H' S' (O' ++ R) → Rho K S' ρ' σ' O' → D.nx σ' H') ∧
  (∀ ρ' σ' H' S' O', Po.bk ρ' → Same S S' → HI H' S' (O' ++ R) → Rho K S' ρ' σ' O' → D.bk σ' H') ∧
  (∀ ρ' σ' H' S' O', Po.ct ρ' → Same S S' → HI H' S' (O' ++ R) → Rho K S' ρ' σ' O' → D.ct σ' H') ∧
  (∀ t v H' S' G, Po.rt t → Same S S' → HI H' S' (G ++ R) → RT K S' t v G → D.rt v H') ∧
  (∀ ρ' x cls dd σ' H' S' O', Po.ex ρ' x → Same S S' → HI H' S' (O' ++ R) → Rho K S' ρ' σ' O' → XRep K mg S' x cls dd → W cls dd σ' H')
structure SA (X : Cx) (W : WX) (ρ : Env) (sts : List Stmt) (Po : Post) : Prop where
  ps : PSs X sts (tS X.K X.mg W ρ Po)
structure S1 (X : Cx) (W : WX) (ρ : Env) (st : Stmt) (Po : Post) : Prop where
  ps : PS X st (tS X.K X.mg W ρ Po)
/-- the body's surroundings: what is wished of exceptions -/
structure SC (X : Cx) (W : WX) : Prop where
  tk : Takes X W
  own : PassesOwn (model X.prog X.w) X.A X.env X.xe
/-- a block of which nothing else is known -/
def wS (X : Cx) (sts : List Stmt) : TS := fun D σ H => ∀ (pins : List (Addr × Obj)) (s : Shared), Inv X pins σ H s → wpAny (model X.prog X.w) X.A (execs sts X.env) (SP X pins D) X.xe s
theorem wS_ps (X : Cx) (sts : List Stmt) : PSs X sts (wS X sts) := ⟨fun pins s σ H D I h => h pins s I⟩
theorem PSs.w {X : Cx} {sts : List Stmt} {t : TS} (h : PSs X sts t) {D : Ends} {σ : L2.St} {H : Hp} (q : t D σ H) : wS X sts D σ H := fun pins s I => h.run pins s σ H D I q

section
variable {X : Cx} {W : WX} {ρ ρ' ρ1 ρ2 : Env} {e a b : Expr} {d d1 d2 : D} {t t1 t2 : T} {pos : Pos} {st : Stmt} {rest sts : List Stmt} {Po : Post}
theorem Pre.wk {K : PySem.W.Frag} {σ : L2.St} {H S : Hp} {O R : OH} (p : Pre K ρ σ H S O R) (w : Wk ρ ρ') : ∃ S' O', Same S S' ∧ Pre K ρ' σ H S' O' R := by
  obtain ⟨O1, O2, h1, h2⟩ := w.rho p.rho
  have hi : HI H S (O2 ++ (O1 ++ R)) := p.hi.perm (by rw [← List.append_assoc]; exact List.Perm.append_right R h2)
  obtain ⟨S', sm, hi', _⟩ := hi.freeze
  exact ⟨S', O1, sm, hi', h1.mono sm⟩
theorem s1_of {ts : TS} (h : PS X st ts) (k : ∀ (σ : L2.St) (H S : Hp) (O R : OH) (D : Ends), Pre X.K ρ σ H S O R →
    (∀ ρ' σ' H' S' O', Po.nx ρ' → Same S S' → HI H' S' (O' ++ R) → Rho X.K S' ρ' σ' O' → D.nx σ' H') → ts D σ H) : S1 X W ρ st Po :=
  ⟨PS.imp h fun D σ H ⟨S, O, R, p, q, _⟩ => k σ H S O R D p q⟩
theorem sa_nil (h : Po.nx ρ) : SA X W ρ [] Po := ⟨PSs.imp pss_nil fun D σ H ⟨S, O, R, p, q, _⟩ => q ρ σ H S O h (Same.refl S) p.hi p.rho⟩
/-- one, then the others -/
theorem sa_cons (h : S1 X W ρ st { Po with nx := fun ρ' => SA X W ρ' rest Po }) : SA X W ρ (st :: rest) Po :=
  ⟨PSs.imp (pss_cons h.ps (wS_ps X rest)) fun D σ H ⟨S, O, R, p, q1, q2, q3, q4, q5⟩ => ⟨S, O, R, p, fun ρ' σ' H' S' O' hn sm hi hr => PSs.w hn.ps ⟨S', O', R, ⟨hi, hr⟩,
    fun ρ2 σ2 H2 S2 O2 hn2 sm2 hi2 hr2 => q1 ρ2 σ2 H2 S2 O2 hn2 (sm.trans sm2) hi2 hr2, fun ρ2 σ2 H2 S2 O2 hn2 sm2 hi2 hr2 => q2 ρ2 σ2 H2 S2 O2 hn2 (sm.trans sm2) hi2 hr2,
    fun ρ2 σ2 H2 S2 O2 hn2 sm2 hi2 hr2 => q3 ρ2 σ2 H2 S2 O2 hn2 (sm.trans sm2) hi2 hr2, fun t v H2 S2 G hn2 sm2 hi2 hr2 => q4 t v H2 S2 G hn2 (sm.trans sm2) hi2 hr2,
    fun ρ2 x cls dd σ2 H2 S2 O2 hn2 sm2 hi2 hr2 hx => q5 ρ2 x cls dd σ2 H2 S2 O2 hn2 (sm.trans sm2) hi2 hr2 hx⟩, q2, q3, q4, q5⟩⟩
theorem s1_one (h : S1 X W ρ st Po) : SA X W ρ [st] Po := ⟨pss_one h.ps⟩
/-- knowing less -/
theorem sa_wk (w : Wk ρ ρ') (h : SA X W ρ' sts Po) : SA X W ρ sts Po := ⟨PSs.imp h.ps fun D σ H ⟨S, O, R, p, q1, q2, q3, q4, q5⟩ => by
  obtain ⟨S', O', sm, p'⟩ := p.wk w
  exact ⟨S', O', R, p', fun ρ2 σ2 H2 S2 O2 hn2 sm2 hi2 hr2 => q1 ρ2 σ2 H2 S2 O2 hn2 (sm.trans sm2) hi2 hr2, fun ρ2 σ2 H2 S2 O2 hn2 sm2 hi2 hr2 => q2 ρ2 σ2 H2 S2 O2 hn2 (sm.trans sm2) hi2 hr2,
    fun ρ2 σ2 H2 S2 O2 hn2 sm2 hi2 hr2 => q3 ρ2 σ2 H2 S2 O2 hn2 (sm.trans sm2) hi2 hr2, fun t v H2 S2 G hn2 sm2 hi2 hr2 => q4 t v H2 S2 G hn2 (sm.trans sm2) hi2 hr2,
    fun ρ2 x cls dd σ2 H2 S2 O2 hn2 sm2 hi2 hr2 hx => q5 ρ2 x cls dd σ2 H2 S2 O2 hn2 (sm.trans sm2) hi2 hr2 hx⟩⟩
/-- a slot's own things are given up -/
theorem rho_fz {K : PySem.W.Frag} {S H : Hp} {O R : OH} {σ : L2.St} {i : Nat} (p : Pre K ρ σ H S O R) (h : ρ[i]? = some (some t)) : ∃ S' O', Same S S' ∧ Pre K (ρ.set i (some (.fz t.er))) σ H S' O' R := by
  obtain ⟨v, O1, O2, e1, e2, e3, e4⟩ := p.rho.take h
  have hi : HI H S (O1 ++ (O2 ++ R)) := p.hi.perm (by rw [← List.append_assoc]; exact List.Perm.append_right R e4)
  obtain ⟨S', sm, hi', q⟩ := hi.freeze
  have hlt : i < ρ.length := (List.getElem?_eq_some_iff.mp h).1
  obtain ⟨O3, r1, r2⟩ := Rho.put (i := i) (t := .fz t.er) (v := v) (O1 := []) (e3.mono sm) (by simp [hlt]) ⟨RT.er sm e2 q, rfl⟩
  rw [List.set_set] at r1
  have es : σ.set i (some v) = σ := by
    obtain ⟨z1, z2⟩ := List.getElem?_eq_some_iff.mp e1
    rw [← z2]; exact List.set_getElem_self z1
  rw [es] at r1
  exact ⟨S', O3, sm, hi'.perm (List.Perm.append_right R r2.symm), r1⟩
theorem sa_fz (i : Nat) (hi : ρ[i]? = some (some t)) (h : SA X W (ρ.set i (some (.fz t.er))) sts Po) : SA X W ρ sts Po := ⟨PSs.imp h.ps fun D σ H ⟨S, O, R, p, q1, q2, q3, q4, q5⟩ => by
  obtain ⟨S', O', sm, p'⟩ := rho_fz p hi
  exact ⟨S', O', R, p', fun ρ2 σ2 H2 S2 O2 hn2 sm2 hi2 hr2 => q1 ρ2 σ2 H2 S2 O2 hn2 (sm.trans sm2) hi2 hr2, fun ρ2 σ2 H2 S2 O2 hn2 sm2 hi2 hr2 => q2 ρ2 σ2 H2 S2 O2 hn2 (sm.trans sm2) hi2 hr2,
    fun ρ2 σ2 H2 S2 O2 hn2 sm2 hi2 hr2 => q3 ρ2 σ2 H2 S2 O2 hn2 (sm.trans sm2) hi2 hr2, fun t v H2 S2 G hn2 sm2 hi2 hr2 => q4 t v H2 S2 G hn2 (sm.trans sm2) hi2 hr2,
    fun ρ2 x cls dd σ2 H2 S2 O2 hn2 sm2 hi2 hr2 hx => q5 ρ2 x cls dd σ2 H2 S2 O2 hn2 (sm.trans sm2) hi2 hr2 hx⟩⟩
/-- a slot is stored into: what it held goes -/
theorem rho_set {K : PySem.W.Frag} {S H : Hp} {O R G : OH} {σ : L2.St} {i : Nat} {v : V} (hi : HI H S (G ++ (O ++ R))) (hr : Rho K S ρ σ O) (ht : RT K S t v G) (hl : i < ρ.length) :
    ∃ S' O', Same S S' ∧ HI H S' (O' ++ R) ∧ Rho K S' (ρ.set i (some t)) (σ.set i (some v)) O' := by
  have key : ∃ O1 O2, O.Perm (O1 ++ O2) ∧ Rho K S (ρ.set i none) σ O2 := by
    cases q : ρ[i]? with
    | none => exact absurd q (by simp [hl])
    | some z =>
      cases z with
      | none =>
        refine ⟨[], O, .refl _, ?_⟩
        have : ρ.set i none = ρ := by
          obtain ⟨z1, z2⟩ := List.getElem?_eq_some_iff.mp q
          rw [← z2]; exact List.set_getElem_self z1
        rw [this]; exact hr
      | some t' =>
        obtain ⟨v', O1, O2, e1, e2, e3, e4⟩ := hr.take q
        exact ⟨O1, O2, e4, e3⟩
  obtain ⟨O1, O2, e1, e2⟩ := key
  have hi2 : HI H S (O1 ++ (G ++ (O2 ++ R))) := hi.perm (by
    refine (List.Perm.append_left G (List.Perm.append_right R e1)).trans ?_
    rw [List.append_assoc]
    exact perm_sw G O1 (O2 ++ R))
  obtain ⟨S', sm, hi3, _⟩ := hi2.freeze
  obtain ⟨O3, r1, r2⟩ := Rho.put (i := i) (e2.mono sm) (by simp [hl]) (ht.mono sm)
  rw [List.set_set] at r1
  refine ⟨S', O3, sm, hi3.perm ?_, r1⟩
  rw [← List.append_assoc]
  exact List.Perm.append_right R r2.symm
theorem Pre.lenN {K : PySem.W.Frag} {σ : L2.St} {H S : Hp} {O R : OH} (p : Pre K ρ σ H S O R) : σ.length = ρ.length := p.rho.len
variable {N : List Str} {scp : Scope} {vs ls : List Nat} {gs : List Str}
theorem s1_set {x : Str} {pos' : Pos} (Sc : Sco X N scp vs ls gs) (i : Nat) (hl : ls.contains i = true) (hN : N[i]? = some x) (he : ET X ρ e ρ1 t) (hlt : i < ρ1.length) (k : Po.nx (ρ1.set i (some t)))
    (hs : swapsWith e (some (.Name x pos')) pos.line X.env = pure false := by rfl) : S1 X W ρ (.Assign [.Name x pos'] e pos) Po := by
  obtain ⟨l1, l2⟩ := Sc.loc i x hl hN
  refine s1_of (ps_set (i := i) Sc.nd (Sc.n ▸ hN) l1 he.pe hs l2) fun σ H S O R D p q => ⟨S, O, R, p, fun v H' S' O' G sm hi hr ht => ?_⟩
  obtain ⟨S2, O2, sm2, hi2, hr2⟩ := rho_set hi hr ht hlt
  exact q _ _ _ _ _ k (sm.trans sm2) hi2 hr2
theorem s1_setP {x : Str} {pos' : Pos} (Sc : Sco X N scp vs ls gs) (i : Nat) (hl : ls.contains i = true) (hN : N[i]? = some x) (he : EP X ρ e t) (hlt : i < ρ.length) (k : Po.nx (ρ.set i (some t)))
    (hs : swapsWith e (some (.Name x pos')) pos.line X.env = pure false := by rfl) : S1 X W ρ (.Assign [.Name x pos'] e pos) Po := s1_set Sc i hl hN he.et hlt k hs
theorem s1_ret (he : ET X ρ e ρ1 t) (k : Po.rt t) : S1 X W ρ (.Return (some e) pos) Po :=
  ⟨PS.imp (ps_ret he.pe) fun D σ H ⟨S, O, R, p, _, _, _, q, _⟩ => ⟨S, O, R, p, fun v H' S' O' G sm hi hr ht => by
    have hi2 : HI H' S' (O' ++ (G ++ R)) := hi.perm (perm_sw G O' R)
    obtain ⟨S2, sm2, hi3, _⟩ := hi2.freeze
    exact q t v H' S2 G k (sm.trans sm2) hi3 (ht.mono sm2)⟩⟩
theorem s1_retP (he : EP X ρ e t) (k : Po.rt t) : S1 X W ρ (.Return (some e) pos) Po := s1_ret he.et k
theorem s1_retN (k : Po.rt (.fz .non)) : S1 X W ρ (.Return none pos) Po :=
  ⟨PS.imp ps_retN fun D σ H ⟨S, O, R, p, _, _, _, q, _⟩ => by
    obtain ⟨S2, sm2, hi3, _⟩ := p.hi.freeze
    exact q _ _ H S2 [] k sm2 hi3 ⟨rfl, rfl⟩⟩
theorem s1_if {c : Bool} {ce : Expr} {as bs : List Stmt} (hc : BP X ρ ce c) (ha : c = true → SA X W ρ as Po) (hb : c = false → SA X W ρ bs Po) : S1 X W ρ (.If ce as bs pos) Po :=
  ⟨PS.imp (ps_if hc.pt (wS_ps X as) (wS_ps X bs)) fun D σ H ⟨S, O, R, p, q1, q2, q3, q4, q5⟩ => useT p fun H1 S1 sm p1 => by
    have go : ∀ {l : List Stmt}, SA X W ρ l Po → wS X l D σ H1 := fun {l} h => PSs.w h.ps ⟨S1, O, R, p1, fun ρ2 σ2 H2 S2 O2 hn2 sm2 hi2 hr2 => q1 ρ2 σ2 H2 S2 O2 hn2 (sm.trans sm2) hi2 hr2, fun ρ2 σ2 H2 S2 O2 hn2 sm2 hi2 hr2 => q2 ρ2 σ2 H2 S2 O2 hn2 (sm.trans sm2) hi2 hr2,
      fun ρ2 σ2 H2 S2 O2 hn2 sm2 hi2 hr2 => q3 ρ2 σ2 H2 S2 O2 hn2 (sm.trans sm2) hi2 hr2, fun t v H2 S2 G hn2 sm2 hi2 hr2 => q4 t v H2 S2 G hn2 (sm.trans sm2) hi2 hr2,
      fun ρ2 x cls dd σ2 H2 S2 O2 hn2 sm2 hi2 hr2 hx => q5 ρ2 x cls dd σ2 H2 S2 O2 hn2 (sm.trans sm2) hi2 hr2 hx⟩
    cases c with
    | true => exact iteT (go (ha rfl))
    | false => exact iteF (go (hb rfl))⟩
theorem s1_expr (he : ET X ρ e ρ1 t) (k : Po.nx ρ1) (hs : swapsWith e none pos.line X.env = pure false := by rfl) : S1 X W ρ (.Expr e pos) Po :=
  s1_of (ps_expr he.pe hs) fun σ H S O R D p q => ⟨S, O, R, p, fun v H' S' O' G sm hi hr ht => by
    obtain ⟨S2, sm2, hi3, _⟩ := hi.freeze
    exact q ρ1 σ H' S2 O' k (sm.trans sm2) hi3 (hr.mono sm2)⟩
theorem s1_pass (k : Po.nx ρ) : S1 X W ρ (.Pass pos) Po := s1_of ps_pass fun σ H S O R D p q => q ρ σ H S O k (Same.refl S) p.hi p.rho
theorem s1_break (k : Po.bk ρ) : S1 X W ρ (.Break pos) Po := ⟨PS.imp ps_break fun D σ H ⟨S, O, R, p, _, q, _⟩ => q ρ σ H S O k (Same.refl S) p.hi p.rho⟩
theorem s1_continue (k : Po.ct ρ) : S1 X W ρ (.Continue pos) Po := ⟨PS.imp ps_continue fun D σ H ⟨S, O, R, p, _, _, q, _⟩ => q ρ σ H S O k (Same.refl S) p.hi p.rho⟩

/-! ### targets -/
def wG (X : Cx) (tg : Expr) : TG := fun v σ H Q => ∀ (pins : List (Addr × Obj)) (s : Shared) (u : Value), Inv X pins σ H s → RelV v u → wpAny (model X.prog X.w) X.A (assign tg X.env u) (fun _ s' => ∃ σ' H', Inv X pins σ' H' s' ∧ Q σ' H') X.xe s
theorem wG_pg (X : Cx) (tg : Expr) : PG X tg (wG X tg) := ⟨fun pins s σ H v u Q I r h => h pins s u I r⟩
/-- d is stored in the target: then the slots are such as P wants -/
def GA (X : Cx) (tg : Expr) (d : D) (ρ : Env) (P : Env → Prop) : Prop := ∀ (v : V) (σ : L2.St) (H S : Hp) (O R : OH) (Q : L2.St → Hp → Prop), Pre X.K ρ σ H S O R → Rp X.K S d v →
  (∀ ρ' σ' H' S' O', P ρ' → Same S S' → HI H' S' (O' ++ R) → Rho X.K S' ρ' σ' O' → Q σ' H') → wG X tg v σ H Q
theorem ga_of {tg : Expr} {g : TG} {P : Env → Prop} (h : PG X tg g) (k : ∀ (v : V) (σ : L2.St) (H S : Hp) (O R : OH) (Q : L2.St → Hp → Prop), Pre X.K ρ σ H S O R → Rp X.K S d v →
    (∀ ρ' σ' H' S' O', P ρ' → Same S S' → HI H' S' (O' ++ R) → Rho X.K S' ρ' σ' O' → Q σ' H') → g v σ H Q) : GA X tg d ρ P := fun v σ H S O R Q p r q pins s u I rv => h.run pins s σ H v u Q I rv (k v σ H S O R Q p r q)
theorem ga_name {x : Str} {P : Env → Prop} (Sc : Sco X N scp vs ls gs) (i : Nat) (hl : ls.contains i = true) (hN : N[i]? = some x) (hlt : i < ρ.length) (k : P (ρ.set i (some (.fz d)))) : GA X (.Name x pos) d ρ P := by
  obtain ⟨l1, l2⟩ := Sc.loc i x hl hN
  refine ga_of (pg_name (i := i) Sc.nd (Sc.n ▸ hN) l1 l2) fun v σ H S O R Q p r q => ?_
  obtain ⟨S2, O2, sm2, hi2, hr2⟩ := rho_set (G := []) (t := .fz d) p.hi p.rho ⟨r, rfl⟩ hlt
  exact q _ _ _ _ _ k sm2 hi2 hr2
def wGs (X : Cx) (ts : List Expr) : TGs := fun vs σ H Q => ∀ (pins : List (Addr × Obj)) (s : Shared) (us : List Value), Inv X pins σ H s → Vals vs us →
  wpAny (model X.prog X.w) X.A (assignInOrder ((assignEach ts X.env).map (·.2)) us) (fun _ s' => ∃ σ' H', Inv X pins σ' H' s' ∧ Q σ' H') X.xe s
theorem wGs_pg (X : Cx) (ts : List Expr) : PGs X ts (wGs X ts) := ⟨fun pins s σ H v u Q I r h => h pins s u I r⟩
def GAs (X : Cx) (tgs : List Expr) (ds : List D) (ρ : Env) (P : Env → Prop) : Prop := ∀ (vs : List V) (σ : L2.St) (H S : Hp) (O R : OH) (Q : L2.St → Hp → Prop), Pre X.K ρ σ H S O R → Rps X.K S ds vs →
  (∀ ρ' σ' H' S' O', P ρ' → Same S S' → HI H' S' (O' ++ R) → Rho X.K S' ρ' σ' O' → Q σ' H') → wGs X tgs vs σ H Q
theorem gas_nil {P : Env → Prop} (k : P ρ) : GAs X [] [] ρ P := fun vs σ H S O R Q p r q pins s us I rv => pgs_nil.run pins s σ H vs us Q I rv ⟨r, q ρ σ H S O k (Same.refl S) p.hi p.rho⟩
theorem gas_cons {tg : Expr} {tgs : List Expr} {ds : List D} {P : Env → Prop} (h : GA X tg d ρ fun ρ1 => GAs X tgs ds ρ1 P) (hs : (assignEach (tg :: tgs) X.env).map (·.2) = assign tg X.env :: (assignEach tgs X.env).map (·.2) := by rfl) : GAs X (tg :: tgs) (d :: ds) ρ P := fun vs σ H S O R Q p r q pins s us I rv => by
  refine (pgs_cons (wG_pg X tg) (wGs_pg X tgs) hs).run pins s σ H vs us Q I rv ?_
  obtain ⟨v, r', e1, r1, r2⟩ := r
  refine ⟨v, r', e1, h v σ H S O R _ p r1 fun ρ1 σ1 H1 S1 O1 hp sm hi hr => ?_⟩
  exact hp r' σ1 H1 S1 O1 R Q ⟨hi, hr⟩ (r2.mono sm) fun ρ2 σ2 H2 S2 O2 hp2 sm2 hi2 hr2 => q ρ2 σ2 H2 S2 O2 hp2 (sm.trans sm2) hi2 hr2
theorem ga_tup {es : List Expr} {ds : List D} {kk : Nat} {P : Env → Prop} (hc : X.calm = true) (h : GAs X es ds ρ P) (hl : es.length = ds.length)
    (hn : (assignEach es X.env).length = es.length := by rfl) (hst : (assignEach es X.env).findIdx? (·.1) = none := by rfl) : GA X (.Tuple es kk pos) (.tup ds) ρ P :=
  ga_of (pg_tup (n := es.length) hc (wGs_pg X es) hn hst) fun v σ H S O R Q p r q => by
    obtain ⟨a, xs, e1, e2, e3⟩ := r
    exact ⟨a, xs, e1, same_seqT p.hi.same e2, by rw [e3.len]; exact hl.symm, h xs σ H S O R Q p e3 q⟩
/-- a, b = e with a frozen tuple -/
theorem s1_asg {tg : Expr} (he : EA X ρ e d) (hg : GA X tg d ρ Po.nx) (hs : swapsWithSole [tg] e pos.line X.env = pure false := by rfl) (hw : swappedStores [tg] e X.env = pure none := by rfl)
    (h1 : (assignEach [tg] X.env).map (·.2) = [assign tg X.env] := by rfl) : S1 X W ρ (.Assign [tg] e pos) Po :=
  s1_of (ps_asg he.pe (wG_pg X tg) hs hw h1) fun σ H S O R D p q => useA p fun v H1 S1 sm p1 r => hg v σ H1 S1 O R D.nx p1 r fun ρ2 σ2 H2 S2 O2 hp2 sm2 hi2 hr2 => q ρ2 σ2 H2 S2 O2 hp2 (sm.trans sm2) hi2 hr2

/-! ### what is walked -/
structure ItOk (K : PySem.W.Frag) (J : It) (S0 : Hp) (ds : List D) : Prop where
  stop : ∀ (H S : Hp) (L : OH), HI H S L → Same S0 S → J.stop ds.length H
  go : ∀ (i : Nat) (H S : Hp) (L : OH), HI H S L → Same S0 S → i < ds.length → J.go i H
  yld : ∀ (i : Nat) (H S : Hp) (L : OH) (x : V) (H' : Hp) (d : D), HI H S L → Same S0 S → J.yld i H x H' → ds[i]? = some d → ∃ S', Same S S' ∧ HI H' S' L ∧ Rp K S' d x
def tI (K : PySem.W.Frag) (ρ : Env) (ds : List D) : TI := fun σ H Q => ∃ S O R, Pre K ρ σ H S O R ∧ ∀ J H' S', Same S S' → HI H' S' (O ++ R) → ItOk K J S' ds → Q J H'
structure IA (X : Cx) (ρ : Env) (tg iter : Expr) (ds : List D) : Prop where
  pi : PI X tg iter (tI X.K ρ ds)
theorem ia_of {tg iter : Expr} {ds : List D} {ti : TI} (h : PI X tg iter ti) (k : ∀ σ H S O R, Pre X.K ρ σ H S O R → ∀ Q : It → Hp → Prop, (∀ J H' S', Same S S' → HI H' S' (O ++ R) → ItOk X.K J S' ds → Q J H') → ti σ H Q) : IA X ρ tg iter ds :=
  ⟨PI.imp h fun σ H Q ⟨S, O, R, p, q⟩ => k σ H S O R p Q q⟩
theorem Rps.get {K : PySem.W.Frag} {S : Hp} : ∀ {ds : List D} {vs : List V} {i : Nat} {d : D}, Rps K S ds vs → ds[i]? = some d → ∃ v, vs[i]? = some v ∧ Rp K S d v
  | [], _, _, _, _, e => by simp at e
  | d :: ds, _, 0, d', ⟨v, r, h1, h2, h3⟩, e => by
    have e' : d = d' := by simpa using e
    subst e' h1
    exact ⟨v, rfl, h2⟩
  | d :: ds, _, i + 1, d', ⟨v, r, h1, h2, h3⟩, e => by
    subst h1
    obtain ⟨w, e1, e2⟩ := Rps.get h3 (show ds[i]? = some d' by simpa using e)
    exact ⟨w, by simpa using e1, e2⟩
theorem ia_lst {tg : Expr} {ds : List D} (h : EA X ρ e (.lst ds)) : IA X ρ tg e ds := ia_of (pi_list h.pe) fun σ H S O R p Q k => useA p fun v H1 S1 sm p1 r => by
  obtain ⟨a, vs, e1, e2, e3⟩ := r
  refine ⟨a, e1, ⟨vs, .inl (.inl (p1.hi.same _ _ e2))⟩, k (Itl X.K a) H1 S1 sm p1.hi ⟨fun H S L hi sm2 => ?_, fun i H S L hi sm2 hl => ?_, fun i H S L x H' d hi sm2 hy hd => ?_⟩⟩
  · exact ⟨vs, .inl (.inl (hi.same _ _ (sm2 _ _ e2))), by rw [e3.len]; exact Nat.le_refl _⟩
  · have hlt : i < vs.length := by rw [e3.len]; exact hl
    exact ⟨vs, vs[i], .inl (.inl (hi.same _ _ (sm2 _ _ e2))), by simp [hlt]⟩
  · obtain ⟨rfl, hx⟩ := hy
    obtain ⟨w, w1, w2⟩ := e3.get hd
    have := hx vs (.inl (.inl (hi.same _ _ (sm2 _ _ e2))))
    rw [w1] at this
    cases this
    exact ⟨S, Same.refl S, hi, w2.mono sm2⟩
theorem ia_rol {tg : Expr} {ds : List D} (h : EA X ρ e (.rol ds)) : IA X ρ tg e ds := ia_of (pi_list h.pe) fun σ H S O R p Q k => useA p fun v H1 S1 sm p1 r => by
  obtain ⟨a, vs, e1, e2, e3⟩ := r
  refine ⟨a, e1, ⟨vs, Same.seq p1.hi.same e2⟩, k (Itl X.K a) H1 S1 sm p1.hi ⟨fun H S L hi sm2 => ?_, fun i H S L hi sm2 hl => ?_, fun i H S L x H' d hi sm2 hy hd => ?_⟩⟩
  · exact ⟨vs, Same.seq hi.same (Same.seq sm2 e2), by rw [e3.len]; exact Nat.le_refl _⟩
  · have hlt : i < vs.length := by rw [e3.len]; exact hl
    exact ⟨vs, vs[i], Same.seq hi.same (Same.seq sm2 e2), by simp [hlt]⟩
  · obtain ⟨rfl, hx⟩ := hy
    obtain ⟨w, w1, w2⟩ := e3.get hd
    have := hx vs (Same.seq hi.same (Same.seq sm2 e2))
    rw [w1] at this
    cases this
    exact ⟨S, Same.refl S, hi, w2.mono sm2⟩
theorem ia_tup {tg : Expr} {ds : List D} (h : EA X ρ e (.tup ds)) : IA X ρ tg e ds := ia_of (pi_tup h.pe) fun σ H S O R p Q k => useA p fun v H1 S1 sm p1 r => by
  obtain ⟨a, vs, e1, e2, e3⟩ := r
  refine ⟨a, e1, ⟨vs, same_seqT p1.hi.same e2⟩, k (Itt X.K a) H1 S1 sm p1.hi ⟨fun H S L hi sm2 => ?_, fun i H S L hi sm2 hl => ?_, fun i H S L x H' d hi sm2 hy hd => ?_⟩⟩
  · exact ⟨vs, same_seqT hi.same (same_seqT sm2 e2), by rw [e3.len]; exact Nat.le_refl _⟩
  · have hlt : i < vs.length := by rw [e3.len]; exact hl
    exact ⟨vs, vs[i], same_seqT hi.same (same_seqT sm2 e2), by simp [hlt]⟩
  · obtain ⟨rfl, hx⟩ := hy
    obtain ⟨w, w1, w2⟩ := e3.get hd
    have := hx vs (same_seqT hi.same (same_seqT sm2 e2))
    rw [w1] at this
    cases this
    exact ⟨S, Same.refl S, hi, w2.mono sm2⟩
/-- the signs of a text -/
def sgn (c : Nat) : Str := ⟨#[c]⟩
theorem ia_str {tg : Expr} {z : Str} (h : EA X ρ e (.str z)) : IA X ρ tg e (z.cps.toList.map fun c => .str (sgn c)) := ia_of (pi_str h.pe) fun σ H S O R p Q k => useA p fun v H1 S1 sm p1 r => by
  refine ⟨z, r, k (Its z) H1 S1 sm p1.hi ⟨fun H S L hi sm2 => ?_, fun i H S L hi sm2 hl => ?_, fun i H S L x H' d hi sm2 hy hd => ?_⟩⟩
  · show z.cps.size ≤ _
    rw [List.length_map, Array.length_toList]; exact Nat.le_refl _
  · show i < z.cps.size
    rw [List.length_map, Array.length_toList] at hl; exact hl
  · obtain ⟨rfl, c, hc, rfl⟩ := hy
    rw [List.getElem?_map, Array.getElem?_toList, hc] at hd
    cases hd
    exact ⟨S, Same.refl S, hi, rfl⟩
theorem rps_int {K : PySem.W.Frag} {S : Hp} {i : Int} {vs : List V} (h : RTs K S [.fz (.int i)] vs []) : vs = [.int i] := by
  obtain ⟨v, r, O1, O2, h1, h2, h3, h4⟩ := h
  obtain ⟨h5, h6⟩ := h4
  subst h5
  rw [h1, show v = .int i from h3.1]
theorem useAP {es : List Expr} {ds : List D} {Q : List V → Hp → Prop} {σ : L2.St} {H S : Hp} {O R : OH} (p : Pre X.K ρ σ H S O R) (k : ∀ vs H' S', Same S S' → Pre X.K ρ σ H' S' O R → Rps X.K S' ds vs → Q vs H') : tPA X.K ρ (ds.map .fz) σ H Q := ⟨S, O, R, p, fun vs H' S' G sm hi ht => by
  obtain ⟨h1, h2⟩ := RTs.fzs ht
  subst h2
  exact k vs H' S' sm (p.st sm hi) h1⟩
theorem ap1 (h : EA X ρ a d) (hs : NS a := by intro _ _; rfl) : AP X ρ [a] ([d].map .fz) := ap_cons h ap_nil hs
theorem ap2 (h : EA X ρ a d) (h2 : EA X ρ b d2) (hs : NS a := by intro _ _; rfl) (hs2 : NS b := by intro _ _; rfl) : AP X ρ [a, b] ([d, d2].map .fz) := ap_cons h (ap_cons h2 ap_nil hs2) hs
theorem Rps.one {K : PySem.W.Frag} {S : Hp} {vs : List V} (h : Rps K S [d] vs) : ∃ v, vs = [v] ∧ Rp K S d v := by
  obtain ⟨v, r, h1, h2, h3⟩ := h
  exact ⟨v, by rw [h1, show r = [] from h3], h2⟩
theorem Rps.two {K : PySem.W.Frag} {S : Hp} {vs : List V} (h : Rps K S [d, d2] vs) : ∃ v w, vs = [v, w] ∧ Rp K S d v ∧ Rp K S d2 w := by
  obtain ⟨v, r, h1, h2, h3⟩ := h
  obtain ⟨w, e, h4⟩ := h3.one
  exact ⟨v, w, by rw [h1, e], h2, h4⟩
def rng (lo : Int) (n : Nat) : List D := (List.range n).map fun (i : Nat) => .int (lo + i)
theorem rng_len (lo : Int) (n : Nat) : (rng lo n).length = n := by simp [rng]
theorem rng_get {lo : Int} {n i : Nat} {d : D} (h : (rng lo n)[i]? = some d) : i < n ∧ d = .int (lo + i) := by
  unfold rng at h
  rw [List.getElem?_map] at h
  by_cases c : i < n
  · rw [List.getElem?_range c] at h
    cases h
    exact ⟨c, rfl⟩
  · rw [List.getElem?_eq_none (by simpa using Nat.le_of_not_lt c)] at h
    cases h
theorem it_rng {K : PySem.W.Frag} {S0 : Hp} {lo : Int} {n : Nat} : ItOk K (Itr lo n) S0 (rng lo n) := ⟨fun H S L hi sm => by rw [rng_len]; exact Nat.le_refl n, fun i H S L hi sm hl => by rw [rng_len] at hl; exact hl, fun i H S L x H' d hi sm hy hd => by
  obtain ⟨rfl, rfl⟩ := hy
  obtain ⟨_, rfl⟩ := rng_get hd
  exact ⟨S, Same.refl S, hi, rfl⟩⟩
theorem ia_range1 {tg : Expr} {n : Int} {p : Pos} (Sc : Sco X N scp vs ls gs) (j : Nat) (hg : gs[j]? = some (Str.ofString "range")) (hm : X.mg (Str.ofString "range") = none) (h : EA X ρ a (.int n)) (hb : -(2 ^ 62) ≤ n ∧ n < 2 ^ 62) (hs : NS a := by intro _ _; rfl) : IA X ρ tg (.Call (.Name "range" p) [a] [] pos) (rng 0 n.toNat) :=
  ia_of (pi_range1 (Sc.glo j _ hg).1 hm (ap1 h hs).pa (hs [] X.env)) fun σ H S O R p Q k => useAP (es := []) p fun vs H1 S1 sm p1 r => by
    obtain ⟨v, rfl, h2⟩ := r.one
    cases h2
    exact ⟨n, rfl, hb.1, hb.2, k _ H1 S1 sm p1.hi it_rng⟩
theorem ia_range2 {tg : Expr} {m n : Int} {p : Pos} (Sc : Sco X N scp vs ls gs) (j : Nat) (hg : gs[j]? = some (Str.ofString "range")) (hm : X.mg (Str.ofString "range") = none) (h : EA X ρ a (.int m)) (h2 : EA X ρ b (.int n)) (hb : (-(2 ^ 62) ≤ m ∧ m < 2 ^ 62) ∧ -(2 ^ 62) ≤ n ∧ n < 2 ^ 62) (hs : NS a := by intro _ _; rfl) (hs2 : NS b := by intro _ _; rfl) : IA X ρ tg (.Call (.Name "range" p) [a, b] [] pos) (rng m (n - m).toNat) :=
  ia_of (pi_range2 (Sc.glo j _ hg).1 hm (ap2 h h2 hs hs2).pa ((hs [b] X.env).trans (congrArg _ (hs2 [] X.env))) (hs2 [] X.env)) fun σ H S O R p Q k => useAP (es := []) p fun vs H1 S1 sm p1 r => by
    obtain ⟨v, w, rfl, h3, h4⟩ := r.two
    cases h3; cases h4
    exact ⟨m, n, rfl, ⟨hb.1.1, hb.1.2, hb.2.1, hb.2.2⟩, k _ H1 S1 sm p1.hi it_rng⟩

/-! ### loops -/
theorem Rho.same_st {K : PySem.W.Frag} {S : Hp} {σ : L2.St} {O : OH} (h : Rho K S ρ σ O) : Rho K S ρ σ O := h
theorem s1_for {tg iter : Expr} {body : List Stmt} {ds : List D} (C : SC X W) (hc : X.calm = true) (hI : IA X ρ tg iter ds) (Iv : Nat → Env → Prop) (h0 : Iv 0 ρ)
    (ht : ∀ i d ρ1, ds[i]? = some d → Iv i ρ1 → GA X tg d ρ1 fun ρ2 => SA X W ρ2 body { Po with nx := Iv (i + 1), ct := Iv (i + 1), bk := Po.nx })
    (hd : ∀ ρ1, Iv ds.length ρ1 → Po.nx ρ1) (hs : ∀ x, foldedSetIterable iter X.env x = pure x := by intro _; rfl) : S1 X W ρ (.For tg iter body [] pos) Po :=
  ⟨PS.imp (ps_for C.own hc hI.pi (wG_pg X tg) (wS_ps X body) hs) fun D σ H ⟨S, O, R, p, q1, q2, q3, q4, q5⟩ => ⟨S, O, R, p, fun J H1 S1 sm1 hi1 ok =>
    ⟨fun i m σ' H' => i + m = ds.length ∧ ∃ ρ1 S' O', Iv i ρ1 ∧ Same S1 S' ∧ HI H' S' (O' ++ R) ∧ Rho X.K S' ρ1 σ' O', ⟨ds.length, by omega, ρ, S1, O, h0, Same.refl _, hi1, p.rho.mono sm1⟩,
      fun i m σ' H' ⟨em, ρ1, S', O', hv, sm, hi, hr⟩ => by
        by_cases hlt : i < ds.length
        · refine .inr ⟨ok.go i H' S' _ hi sm hlt, fun σ2 H2 => ∃ ρ2 S2 O2, Iv (i + 1) ρ2 ∧ Same S1 S2 ∧ HI H2 S2 (O2 ++ R) ∧ Rho X.K S2 ρ2 σ2 O2, fun σ2 H2 ⟨ρ2, S2, O2, z1, z2, z3, z4⟩ => ⟨m - 1, by omega, by omega, ρ2, S2, O2, z1, z2, z3, z4⟩, fun x H2 hy => ?_⟩
          have hd' : ds[i]? = some ds[i] := by simp [hlt]
          obtain ⟨S2, sm2, hi2, rx⟩ := ok.yld i H' S' _ x H2 _ hi sm hy hd'
          refine ht i _ ρ1 hd' hv x σ' H2 S2 O' R _ ⟨hi2, hr.mono sm2⟩ rx fun ρ3 σ3 H3 S3 O3 hp sm3 hi3 hr3 => ?_
          have s03 : Same S S3 := ((sm1.trans sm).trans sm2).trans sm3
          exact PSs.w hp.ps ⟨S3, O3, R, ⟨hi3, hr3⟩, fun ρ4 σ4 H4 S4 O4 hn sm4 hi4 hr4 => ⟨ρ4, S4, O4, hn, ((sm.trans sm2).trans sm3).trans sm4, hi4, hr4⟩,
            fun ρ4 σ4 H4 S4 O4 hn sm4 hi4 hr4 => q1 ρ4 σ4 H4 S4 O4 hn (s03.trans sm4) hi4 hr4,
            fun ρ4 σ4 H4 S4 O4 hn sm4 hi4 hr4 => ⟨ρ4, S4, O4, hn, ((sm.trans sm2).trans sm3).trans sm4, hi4, hr4⟩,
            fun t v H4 S4 G hn sm4 hi4 hr4 => q4 t v H4 S4 G hn (s03.trans sm4) hi4 hr4,
            fun ρ4 x cls dd σ4 H4 S4 O4 hn sm4 hi4 hr4 hx => q5 ρ4 x cls dd σ4 H4 S4 O4 hn (s03.trans sm4) hi4 hr4 hx⟩
        · have ei : i = ds.length := by omega
          subst ei
          exact .inl ⟨ok.stop H' S' _ hi sm, q1 ρ1 σ' H' S' O' (hd ρ1 hv) (sm1.trans sm) hi hr⟩⟩⟩⟩
/-- a test of which nothing else is known -/
def wT (X : Cx) (e : Expr) : TT := fun σ H Q => ∀ (pins : List (Addr × Obj)) (s : Shared), Inv X pins σ H s → wpAny (model X.prog X.w) X.A (isTrue e X.env (eval e X.env)) (TP X pins σ Q) X.xe s
theorem wT_pt (X : Cx) (e : Expr) : PT X e (wT X e) := ⟨fun pins s σ H D I h => h pins s I⟩
theorem PT.w {t : TT} (h : PT X e t) {σ : L2.St} {H : Hp} {Q : Bool → Hp → Prop} (q : t σ H Q) : wT X e σ H Q := fun pins s I => h.run pins s σ H Q I q
theorem s1_while {ce : Expr} {body : List Stmt} (C : SC X W) (Iv : Nat → Env → Prop) {n0 : Nat} (h0 : Iv n0 ρ)
    (ht : ∀ n ρ1, Iv n ρ1 → ∃ c, BP X ρ1 ce c ∧ (c = true → SA X W ρ1 body { Po with nx := fun ρ2 => ∃ m, m < n ∧ Iv m ρ2, ct := fun ρ2 => ∃ m, m < n ∧ Iv m ρ2, bk := Po.nx }) ∧ (c = false → Po.nx ρ1)) :
    S1 X W ρ (.While ce body [] pos) Po :=
  ⟨PS.imp (ps_while C.own (wT_pt X ce) (wS_ps X body)) fun D σ H ⟨S, O, R, p, q1, q2, q3, q4, q5⟩ =>
    ⟨fun m σ' H' => ∃ ρ1 S' O', Iv m ρ1 ∧ Same S S' ∧ HI H' S' (O' ++ R) ∧ Rho X.K S' ρ1 σ' O', ⟨n0, ρ, S, O, h0, Same.refl _, p.hi, p.rho⟩, fun m σ' H' ⟨ρ1, S', O', hv, sm, hi, hr⟩ => by
      obtain ⟨c, hc, hy, hn⟩ := ht m ρ1 hv
      refine PT.w hc.pt (useT ⟨hi, hr⟩ fun H1 S1 sm1 p1 => ?_)
      cases c with
      | true =>
        refine iteT ⟨fun σ2 H2 => ∃ m', m' < m ∧ ∃ ρ2 S2 O2, Iv m' ρ2 ∧ Same S S2 ∧ HI H2 S2 (O2 ++ R) ∧ Rho X.K S2 ρ2 σ2 O2, fun _ _ z => z, ?_⟩
        have s0 := sm.trans sm1
        exact PSs.w (hy rfl).ps ⟨S1, O', R, p1, fun ρ4 σ4 H4 S4 O4 ⟨m', hm, hn⟩ sm4 hi4 hr4 => ⟨m', hm, ρ4, S4, O4, hn, s0.trans sm4, hi4, hr4⟩,
            fun ρ4 σ4 H4 S4 O4 hn sm4 hi4 hr4 => q1 ρ4 σ4 H4 S4 O4 hn (s0.trans sm4) hi4 hr4,
            fun ρ4 σ4 H4 S4 O4 ⟨m', hm, hn⟩ sm4 hi4 hr4 => ⟨m', hm, ρ4, S4, O4, hn, s0.trans sm4, hi4, hr4⟩,
            fun t v H4 S4 G hn sm4 hi4 hr4 => q4 t v H4 S4 G hn (s0.trans sm4) hi4 hr4,
            fun ρ4 x cls dd σ4 H4 S4 O4 hn sm4 hi4 hr4 hx => q5 ρ4 x cls dd σ4 H4 S4 O4 hn (s0.trans sm4) hi4 hr4 hx⟩
      | false => exact iteF (q1 ρ1 σ' H1 S1 O' (hn rfl) (sm.trans sm1) p1.hi p1.rho)⟩⟩
end
end Fs

/-! F4: calls, defs. -/
namespace Fs
open PySem PySem.Spec L2

abbrev Spec := List D → Out → Prop
/-- a def's promise over data -/
def spD (K : PySem.W.Frag) (mg : Str → Option Value) (Sc : Spec) : Sp := fun vs H Q E => ∃ S L ds o, HI H S L ∧ Rps K S ds vs ∧ Sc ds o ∧ match o with
  | .ok t => ∀ v H' S' G, Same S S' → HI H' S' (G ++ L) → RT K S' t v G → Q v H'
  | .ex x => ∀ cls dd H' S', Same S S' → HI H' S' L → XRep K mg S' x cls dd → E cls dd H'
/-- a def that changes its first argument -/
inductive OutM where
  | ok (t' r : T) | ex (t' : T) (x : Xn)
abbrev SpecM := T → List D → OutM → Prop
def spM (K : PySem.W.Frag) (mg : Str → Option Value) (Sc : SpecM) : Sp := fun vs H Q E => ∃ S L O ds o t0 v0 vr, vs = v0 :: vr ∧ HI H S (O ++ L) ∧ RT K S t0 v0 O ∧ Rps K S ds vr ∧ Sc t0 ds o ∧ match o with
  | .ok t' r => ∀ v H' S' O' G, Same S S' → HI H' S' (G ++ (O' ++ L)) → RT K S' t' v0 O' → RT K S' r v G → Q v H'
  | .ex t' x => ∀ cls dd H' S' O', Same S S' → HI H' S' (O' ++ L) → RT K S' t' v0 O' → XRep K mg S' x cls dd → E cls dd H'
structure Cal (P : Program) (w : World) (K : PySem.W.Frag) (mg : Str → Option Value) (base : Heap) (k : Nat) (x : Str) (ps : List Str) (Sc : Spec) : Prop where
  ex : ∃ f fd, FnOk P w K mg base (L2.CX P w) k f fd ps (spD K mg Sc) ∧ mg x = some (.ref f) ∧ PySem.W.keepIn K (.ref f) = true ∧ Binds K fd ps []
/-- a method of the class at C -/
structure MCal (P : Program) (w : World) (K : PySem.W.Frag) (mg : Str → Option Value) (base : Heap) (k : Nat) (C : Addr) (m : Str) (ps : List Str) (Sc : Spec) : Prop where
  cl : Cls K C
  ex : ∃ f fd, FnOk P w K mg base (L2.CX P w) k f fd ps (spD K mg Sc) ∧ Meth K C m f ∧ Binds K fd ps []
/-- a method that changes its object -/
structure MMut (P : Program) (w : World) (K : PySem.W.Frag) (mg : Str → Option Value) (base : Heap) (k : Nat) (C : Addr) (m : Str) (ps : List Str) (Sc : SpecM) : Prop where
  cl : Cls K C
  ex : ∃ f fd, FnOk P w K mg base (L2.CX P w) k f fd ps (spM K mg Sc) ∧ Meth K C m f ∧ Binds K fd ps []
/-- a class that is made by its __init__ -/
structure CMk (P : Program) (w : World) (K : PySem.W.Frag) (mg : Str → Option Value) (base : Heap) (k : Nat) (x : Str) (C : Addr) (ps : List Str) (Sc : SpecM) : Prop where
  glo : mg x = some (.ref C)
  ex : ∃ f fd, FnOk P w K mg base (L2.CX P w) k f fd ps (spM K mg Sc) ∧ Mk K C f ∧ Binds K fd ps []
abbrev CalX (X : Cx) := Cal X.prog X.w X.K X.mg X.base
abbrev MCalX (X : Cx) := MCal X.prog X.w X.K X.mg X.base
abbrev MMutX (X : Cx) := MMut X.prog X.w X.K X.mg X.base
abbrev CMkX (X : Cx) := CMk X.prog X.w X.K X.mg X.base
def PostOf (o : Out) : Post := { nx := fun _ => o = .ok (.fz .non), rt := fun t => o = .ok t, ex := fun _ x => o = .ex x }
def st0 (N : List Str) (ds : List D) : Env := ds.map (fun d => some (.fz d)) ++ List.replicate (N.length - ds.length) none

section
variable {X : Cx} {W : WX} {ρ ρ' ρ1 ρ2 : Env} {e a b o : Expr} {d d1 d2 : D} {t t1 t2 : T} {x : Xn} {pos p apos : Pos} {st : Stmt} {rest sts : List Stmt} {Po : Post} {N : List Str} {scp : Scope} {vs ls : List Nat} {gs : List Str} {es : List Expr} {ds : List D} {ts : List T}
theorem Cal.mono {P : Program} {w : World} {K : PySem.W.Frag} {mg : Str → Option Value} {base : Heap} {j k : Nat} {x : Str} {ps : List Str} {Sc : Spec} (c : Cal P w K mg base j x ps Sc) (h : j ≤ k) : Cal P w K mg base k x ps Sc := by
  obtain ⟨f, fd, h1, h2⟩ := c.ex
  exact ⟨f, fd, h1.mono h, h2⟩
/-- a weaker promise -/
theorem Cal.imp {P : Program} {w : World} {K : PySem.W.Frag} {mg : Str → Option Value} {base : Heap} {k : Nat} {x : Str} {ps : List Str} {Sc Sc' : Spec} (c : Cal P w K mg base k x ps Sc) (h : ∀ ds o, Sc' ds o → Sc ds o) : Cal P w K mg base k x ps Sc' := by
  obtain ⟨f, fd, h1, h2⟩ := c.ex
  exact ⟨f, fd, h1.imp fun vs H Q E ⟨S, L, ds, o, q1, q2, q3, q4⟩ => ⟨S, L, ds, o, q1, q2, h ds o q3, q4⟩, h2⟩
theorem takes_no : Takes X (fun _ _ _ _ => False) := fun u s' ⟨_, _, _, _, _, _, _, _, _, _, _, _, _, _, _, _, w⟩ => w.elim
/-- e raises x -/
def tX (K : PySem.W.Frag) (mg : Str → Option Value) (W : WX) (ρ : Env) (x : Xn) : TE := fun σ H Q => ∃ S O R, Pre K ρ σ H S O R ∧ ∀ cls dd H' S', Same S S' → HI H' S' (O ++ R) → XRep K mg S' x cls dd → W cls dd σ H'
structure EX (X : Cx) (W : WX) (ρ : Env) (e : Expr) (x : Xn) : Prop where
  pe : PE X e (tX X.K X.mg W ρ x)
theorem ex_of {te : TE} (h : PE X e te) (k : ∀ σ H S O R, Pre X.K ρ σ H S O R → ∀ Q : VK, (∀ cls dd H' S', Same S S' → HI H' S' (O ++ R) → XRep X.K X.mg S' x cls dd → W cls dd σ H') → te σ H Q) : EX X W ρ e x :=
  ⟨PE.imp h fun σ H Q ⟨S, O, R, p, q⟩ => k σ H S O R p Q q⟩
/-- o.m(..), what it may let out told at the slots -/
def tMethW (C : Addr) (m : Str) (sp : Sp) (E : L2.St → XK) (ta : TE) (t : TA) : TE := fun σ H Q => ta σ H fun x H1 => ∃ a dx fs, x = .ref a ∧ H1 a = some (.ins C dx fs) ∧ fs.lookup m = none ∧ t σ H1 fun vs H2 => sp (x :: vs) H2 Q (E σ)
theorem pe_methW {CXt : CXT} {k : Nat} {f C : Addr} {fd : FuncData} {ps : List Str} {sp : Sp} {E : L2.St → XK} {m : Str} {ta : TE} {t : TA} {pl : Sem Bool} (he : PE X o ta) (c : Cls X.K C) (hm : Meth X.K C m f) (F : FnOk X.prog X.w X.K X.mg X.base CXt k f fd ps sp) (hr : Room k X.A) (hb : Binds X.K fd ps []) (hx : ∀ σ, PassesAt CXt X σ (E σ)) (ha : PA X (e :: es) t)
    (hst : starEach (e :: es) X.env = (false, eval e X.env) :: starEach es X.env) (hpl : (backTo pos (starEach es X.env)).any (·.1) = false)
    (ht : eval (.Call (.Attribute o m apos) (e :: es) [] pos) X.env = (do
      let ov ← eval o X.env
      standAt apos.atName
      let (f, first) ← holding [ov] (getMethod ov m pl)
      callWith pos f first (backTo pos (starEach (e :: es) X.env)) (backToKw pos (keywordEach [] X.env)))) :
    PE X (.Call (.Attribute o m apos) (e :: es) [] pos) (tMethW C m sp E ta t) := by
  refine ⟨fun pins s σ H Q I h => ?_⟩
  refine PySem.W.methodCall_KW (pl := pl) (thn (he.run pins s σ H _ I h) fun u s1 ⟨x, H1, I1, rx, a, dx, fs, ex, ea, l, q⟩ => ?_) ht
  subst ex
  obtain rfl : u = Value.ref a := rx
  refine getmeth_ok I1 ea c hm l ?_
  refine PySem.W.callWith_K (first := [.ref a]) (h₀ := X.base) I.ok.mod.kin hm.kp (thn (ha.run pos pins s1 σ H1 _ I1 q) fun us s2 ⟨vs, H2, I2, r, q2⟩ => ⟨I2.kIn, ?_⟩) hst hpl
  exact run_fnS (us := .ref a :: us) (vs := .ref a :: vs) F hr hb (hx σ) I2 (.cons rfl r) q2
theorem pe_methW0 {CXt : CXT} {k : Nat} {f C : Addr} {fd : FuncData} {ps : List Str} {sp : Sp} {E : L2.St → XK} {m : Str} {ta : TE} {pl : Sem Bool} (he : PE X o ta) (c : Cls X.K C) (hm : Meth X.K C m f) (F : FnOk X.prog X.w X.K X.mg X.base CXt k f fd ps sp) (hr : Room k X.A) (hb : Binds X.K fd ps []) (hx : ∀ σ, PassesAt CXt X σ (E σ))
    (ht : eval (.Call (.Attribute o m apos) [] [] pos) X.env = (do
      let ov ← eval o X.env
      standAt apos.atName
      let (f, first) ← holding [ov] (getMethod ov m pl)
      callWith pos f first (backTo pos (starEach [] X.env)) (backToKw pos (keywordEach [] X.env)))) :
    PE X (.Call (.Attribute o m apos) [] [] pos) (tMethW C m sp E ta tNil) := by
  refine ⟨fun pins s σ H Q I h => ?_⟩
  refine PySem.W.methodCall_KW (pl := pl) (thn (he.run pins s σ H _ I h) fun u s1 ⟨x, H1, I1, rx, a, dx, fs, ex, ea, l, q⟩ => ?_) ht
  subst ex
  obtain rfl : u = Value.ref a := rx
  refine getmeth_ok I1 ea c hm l ?_
  exact PySem.W.callWith_K0 (first := [.ref a]) I1.kIn hm.kp (run_fnS (us := [.ref a]) (vs := [.ref a]) F hr hb (hx σ) I1 (.cons rfl .nil) q)
theorem ep_call {f : Str} {k : Nat} {ps : List Str} {S : Spec} (c : CalX X k f ps S) (hr : Room k X.A) (Sc : Sco X N scp vs ls gs) (j : Nat) (hg : gs[j]? = some f) (ha : AP X ρ (e :: es) (ds.map .fz)) (hS : S ds (.ok t)) (hn : NS e := by intro _ _; rfl)
    (hpl : (backTo pos (starEach es X.env)).any (·.1) = false := by rfl) : EP X ρ (.Call (.Name f p) (e :: es) [] pos) t := by
  obtain ⟨fa, fd, F, h1, h2, h3⟩ := c.ex
  obtain ⟨g1, g2, g3⟩ := Sc.glo j f hg
  refine ep_of (pe_callS F hr g1 h1 h2 h3 (passAt takes_no) ha.pa g2 (hn _ _) hpl) fun σ H S1 O R p Q k => useAP (es := e :: es) p fun us H1 S2 sm p1 r => ?_
  exact ⟨S2, O ++ R, ds, .ok t, p1.hi, r, hS, fun v H' S' G sm2 hi ht => k v H' S' G (sm.trans sm2) hi ht⟩
theorem ex_call {f : Str} {k : Nat} {ps : List Str} {S : Spec} (C : SC X W) (c : CalX X k f ps S) (hr : Room k X.A) (Sc : Sco X N scp vs ls gs) (j : Nat) (hg : gs[j]? = some f) (ha : AP X ρ (e :: es) (ds.map .fz)) (hS : S ds (.ex x)) (hn : NS e := by intro _ _; rfl)
    (hpl : (backTo pos (starEach es X.env)).any (·.1) = false := by rfl) : EX X W ρ (.Call (.Name f p) (e :: es) [] pos) x := by
  obtain ⟨fa, fd, F, h1, h2, h3⟩ := c.ex
  obtain ⟨g1, g2, g3⟩ := Sc.glo j f hg
  refine ex_of (pe_callS F hr g1 h1 h2 h3 (passAt C.tk) ha.pa g2 (hn _ _) hpl) fun σ H S1 O R p Q k => useAP (es := e :: es) p fun us H1 S2 sm p1 r => ?_
  exact ⟨S2, O ++ R, ds, .ex x, p1.hi, r, hS, fun cls dd H' S' sm2 hi ht => k cls dd H' S' (sm.trans sm2) hi ht⟩
theorem ep_call0 {f : Str} {k : Nat} {ps : List Str} {S : Spec} (c : CalX X k f ps S) (hr : Room k X.A) (Sc : Sco X N scp vs ls gs) (j : Nat) (hg : gs[j]? = some f) (hS : S [] (.ok t)) : EP X ρ (.Call (.Name f p) [] [] pos) t := by
  obtain ⟨fa, fd, F, h1, h2, h3⟩ := c.ex
  obtain ⟨g1, g2, g3⟩ := Sc.glo j f hg
  refine ep_of (pe_call0 (E := fun _ _ _ => False) F hr g1 h1 h2 h3 .nil (passes_call takes_no fun _ _ _ _ h => h) g2) fun σ H S1 O R p Q k => ?_
  exact ⟨S1, O ++ R, [], .ok t, p.hi, rfl, hS, fun v H' S' G sm2 hi ht => k v H' S' G sm2 hi ht⟩
/-- no attribute of that name -/
theorem lookup_zip_none {β : Type} {m : Str} : ∀ {fs : List Str} {vs : List β}, fs.contains m = false → (fs.zip vs).lookup m = none
  | [], _, _ => by simp
  | f :: fs, [], _ => by simp
  | f :: fs, v :: vs, h => by
    rw [List.contains_cons, Bool.or_eq_false_iff] at h
    rw [List.zip_cons_cons, List.lookup_cons, h.1]
    exact lookup_zip_none h.2
theorem ep_meth {C : Addr} {m : Str} {fs : List Str} {k : Nat} {ps : List Str} {S : Spec} {dz : List D} {pl : Sem Bool} (c : MCalX X k C m ps S) (hr : Room k X.A) (ho : EA X ρ o (.ins C fs dz)) (hf : fs.contains m = false) (ha : AP X ρ (e :: es) (ds.map .fz)) (hS : S (.ins C fs dz :: ds) (.ok t)) (hn : NS e := by intro _ _; rfl)
    (hpl : (backTo pos (starEach es X.env)).any (·.1) = false := by rfl)
    (ht : eval (.Call (.Attribute o m apos) (e :: es) [] pos) X.env = (do
      let ov ← eval o X.env
      standAt apos.atName
      let (f, first) ← holding [ov] (getMethod ov m pl)
      callWith pos f first (backTo pos (starEach (e :: es) X.env)) (backToKw pos (keywordEach [] X.env))) := by rfl) : EP X ρ (.Call (.Attribute o m apos) (e :: es) [] pos) t := by
  obtain ⟨fa, fd, F, h1, h2⟩ := c.ex
  refine ep_of (pe_methW ho.pe c.cl h1 F hr h2 (passAt takes_no) ha.pa (hn _ _) hpl ht) fun σ H S1 O R p Q k => useA p fun v H1 S2 sm p1 r => ?_
  obtain ⟨a, dx, vz, e1, e2, e3, e4⟩ := id r
  refine ⟨a, dx, _, e1, p1.hi.same _ _ e2, lookup_zip_none hf, useAP (es := e :: es) p1 fun us H2 S3 sm2 p2 r2 => ?_⟩
  exact ⟨S3, O ++ R, .ins C fs dz :: ds, .ok t, p2.hi, ⟨v, us, rfl, r.mono sm2, r2⟩, hS, fun v H' S' G sm3 hi ht => k v H' S' G ((sm.trans sm2).trans sm3) hi ht⟩
theorem ep_meth0 {C : Addr} {m : Str} {fs : List Str} {k : Nat} {ps : List Str} {S : Spec} {dz : List D} {pl : Sem Bool} (c : MCalX X k C m ps S) (hr : Room k X.A) (ho : EA X ρ o (.ins C fs dz)) (hf : fs.contains m = false) (hS : S [.ins C fs dz] (.ok t))
    (ht : eval (.Call (.Attribute o m apos) [] [] pos) X.env = (do
      let ov ← eval o X.env
      standAt apos.atName
      let (f, first) ← holding [ov] (getMethod ov m pl)
      callWith pos f first (backTo pos (starEach [] X.env)) (backToKw pos (keywordEach [] X.env))) := by rfl) : EP X ρ (.Call (.Attribute o m apos) [] [] pos) t := by
  obtain ⟨fa, fd, F, h1, h2⟩ := c.ex
  refine ep_of (pe_methW0 ho.pe c.cl h1 F hr h2 (passAt takes_no) ht) fun σ H S1 O R p Q k => useA p fun v H1 S2 sm p1 r => ?_
  obtain ⟨a, dx, vz, e1, e2, e3, e4⟩ := id r
  refine ⟨a, dx, _, e1, p1.hi.same _ _ e2, lookup_zip_none hf, ?_⟩
  exact ⟨S2, O ++ R, [.ins C fs dz], .ok t, p1.hi, ⟨v, [], rfl, r, rfl⟩, hS, fun v H' S' G sm3 hi ht => k v H' S' G (sm.trans sm3) hi ht⟩
/-- e.f of a frozen instance -/
theorem rps_lookup {K : PySem.W.Frag} {S : Hp} {f : Str} : ∀ {fs : List Str} {ds : List D} {vs : List V}, Rps K S ds vs → (fs.zip ds).lookup f = some d → ∃ v, (fs.zip vs).lookup f = some v ∧ Rp K S d v
  | [], _, _, _, h => by simp at h
  | g :: fs, [], _, _, h => by simp at h
  | g :: fs, d' :: ds, _, ⟨v, r, h1, h2, h3⟩, h => by
    subst h1
    rw [List.zip_cons_cons, List.lookup_cons] at h ⊢
    cases c : f == g with
    | true =>
      rw [c] at h
      cases h
      exact ⟨v, rfl, h2⟩
    | false =>
      rw [c] at h
      exact rps_lookup h3 h
theorem ea_fld {C : Addr} {f : Str} {fs : List Str} {dz : List D} (c : Cls X.K C) (na : NoAttr X.K C f) (he : EA X ρ e (.ins C fs dz)) (hl : (fs.zip dz).lookup f = some d) (hb : attributeBase e f X.env (eval e X.env) = eval e X.env := by rfl) : EA X ρ (.Attribute e f pos) d :=
  ep_of (pe_fld he.pe hb) fun σ H S O R p Q k => useA p fun v H1 S1 sm p1 r => by
    obtain ⟨a, dx, vz, e1, e2, e3, e4⟩ := r
    obtain ⟨w, w1, w2⟩ := rps_lookup e3 hl
    exact ⟨a, C, dx, _, w, e1, p1.hi.same _ _ e2, c, na, w1, k w H1 S1 [] sm p1.hi ⟨w2, rfl⟩⟩

/-! ### statements that raise -/
theorem s1_setX {y : Str} {pos' : Pos} (Sc : Sco X N scp vs ls gs) (i : Nat) (hl : ls.contains i = true) (hN : N[i]? = some y) (he : EX X W ρ e x) (k : Po.ex ρ x) (hs : swapsWith e (some (.Name y pos')) pos.line X.env = pure false := by rfl) : S1 X W ρ (.Assign [.Name y pos'] e pos) Po := by
  obtain ⟨l1, l2⟩ := Sc.loc i y hl hN
  exact ⟨PS.imp (ps_set (i := i) Sc.nd (Sc.n ▸ hN) l1 he.pe hs l2) fun D σ H ⟨S, O, R, p, _, _, _, _, q⟩ => ⟨S, O, R, p, fun cls dd H' S' sm hi hx => q ρ x cls dd σ H' S' O k sm hi (p.rho.mono sm) hx⟩⟩
theorem s1_asgX {tg : Expr} (he : EX X W ρ e x) (k : Po.ex ρ x) (hs : swapsWithSole [tg] e pos.line X.env = pure false := by rfl) (hw : swappedStores [tg] e X.env = pure none := by rfl)
    (h1 : (assignEach [tg] X.env).map (·.2) = [assign tg X.env] := by rfl) : S1 X W ρ (.Assign [tg] e pos) Po :=
  ⟨PS.imp (ps_asg he.pe (wG_pg X tg) hs hw h1) fun D σ H ⟨S, O, R, p, _, _, _, _, q⟩ => ⟨S, O, R, p, fun cls dd H' S' sm hi hx => q ρ x cls dd σ H' S' O k sm hi (p.rho.mono sm) hx⟩⟩
theorem s1_retX (he : EX X W ρ e x) (k : Po.ex ρ x) : S1 X W ρ (.Return (some e) pos) Po :=
  ⟨PS.imp (ps_ret he.pe) fun D σ H ⟨S, O, R, p, _, _, _, _, q⟩ => ⟨S, O, R, p, fun cls dd H' S' sm hi hx => q ρ x cls dd σ H' S' O k sm hi (p.rho.mono sm) hx⟩⟩
theorem s1_exprX (he : EX X W ρ e x) (k : Po.ex ρ x) (hs : swapsWith e none pos.line X.env = pure false := by rfl) : S1 X W ρ (.Expr e pos) Po :=
  ⟨PS.imp (ps_expr he.pe hs) fun D σ H ⟨S, O, R, p, _, _, _, _, q⟩ => ⟨S, O, R, p, fun cls dd H' S' sm hi hx => q ρ x cls dd σ H' S' O k sm hi (p.rho.mono sm) hx⟩⟩

/-! ### a def -/
def chk (N : List Str) (sc : Scope) (vs ls : List Nat) (gs : List Str) : Bool :=
  (vs.all fun i => match N[i]? with
    | some x => (match sc.names.lookup x with | some .local => true | some .cell => true | some .free => true | _ => false) && !(x == ("__debug__" : Str)) && !(x == ("__classdict__" : Str))
    | none => true) &&
  (ls.all fun i => match N[i]? with
    | some x => (match sc.names.lookup x with | some .local => true | some .cell => true | _ => false)
    | none => true) &&
  gs.all fun x => (match sc.names.lookup x with | some .globalImplicit => true | _ => false) && !(x == ("__debug__" : Str)) && decide (x ≠ "__name__")
theorem sco_of {fnl : Bool} (hn : X.N = N) (hs : X.env.scope = scp) (nd : N.Nodup) (hc : X.calm = true) (hf : ∀ x, X.fn x = true) (h : chk N scp vs ls gs = true) : Sco X N scp vs ls gs := by
  unfold chk at h
  simp only [Bool.and_eq_true, List.all_eq_true] at h
  obtain ⟨⟨h1, h2⟩, h3⟩ := h
  refine ⟨hn, hs, hn ▸ nd, hc, fun i x hi hx => ?_, fun i x hi hx => ?_, fun j x hx => ?_⟩
  · have q := h1 i (by simpa using hi)
    rw [hx] at q
    simp only [Bool.and_eq_true, Bool.not_eq_true'] at q
    obtain ⟨⟨q1, q2⟩, q3⟩ := q
    refine ⟨?_, q2, q3⟩
    unfold Vis
    rw [hs]
    split at q1 <;> simp_all
  · have q := h2 i (by simpa using hi)
    rw [hx] at q
    refine ⟨?_, .inl (hf x)⟩
    unfold L2.Loc
    rw [hs]
    dsimp only at q
    split at q <;> simp_all
  · have q := h3 x (List.mem_of_getElem? hx)
    simp only [Bool.and_eq_true, Bool.not_eq_true', decide_eq_true_eq] at q
    obtain ⟨⟨q1, q2⟩, q3⟩ := q
    refine ⟨?_, q2, q3⟩
    show X.env.scope.names.lookup x = _
    rw [hs]
    split at q1 <;> simp_all
theorem rho_start {K : PySem.W.Frag} {S : Hp} : ∀ {ds : List D} {vs : List V} (n : Nat), Rps K S ds vs → Rho K S (ds.map (fun d => some (.fz d)) ++ List.replicate n none) (vs.map some ++ List.replicate n none) []
  | [], _, n, h => by
    rw [show _ = ([] : List V) from h]
    induction n with
    | zero => exact ⟨rfl, rfl⟩
    | succ n ih => exact ⟨none, List.replicate n none, rfl, ih⟩
  | d :: ds, _, n, ⟨v, r, h1, h2, h3⟩ => by
    subst h1
    exact ⟨v, r.map some ++ List.replicate n none, [], [], rfl, rfl, ⟨h2, rfl⟩, rho_start n h3⟩
abbrev cxd (P : Program) (w : World) (K : PySem.W.Frag) (mg : Str → Option Value) (base : Heap) (N : List Str) (qual : Str) (scope : Scope) (f : Addr) (cdv : Value) (A : Around) (outer : List PySem.Env) (s : Shared) (H : Hp) (E : XK) : Cx :=
  cxOf (L2.CX P w) P w K mg base N qual scope f cdv A outer s H E
abbrev WD (E : XK) : WX := fun cls d _ H => E cls d H
theorem sc_def {P : Program} {w : World} {K : PySem.W.Frag} {mg : Str → Option Value} {base : Heap} {N : List Str} {qual : Str} {scope : Scope} {f : Addr} {cdv : Value} {A : Around} {outer : List PySem.Env} {s : Shared} {H : Hp} {E : XK} : SC (cxd P w K mg base N qual scope f cdv A outer s H E) (WD E) :=
  ⟨takes_of rfl rfl rfl rfl, passes_of rfl⟩
/-- A DEF: its body does what the promise says -/
theorem fn_ok {P : Program} {w : World} {K : PySem.W.Frag} {mg : Str → Option Value} {base : Heap} {k : Nat} {x qual : Str} {ps : List Str} {params : Arguments} {body : List Stmt} {scope : Scope} {f : Addr} {fd : FuncData} {Sp : Spec} (F : FunD K x qual params body scope [] [] f fd) (S : FnScope N ps scope) (hl : ∀ ds o, Sp ds o → ds.length = ps.length) (hN : ps.length ≤ N.length)
    (hb : ∀ (cdv : Value) (A : Around) (outer : List PySem.Env) (s : Shared) (H : Hp) (E : XK), Room k (A.deeper (PyProof.Rows.envOfC qual scope s.heap.objs.size f cdv)) → SC (cxd P w K mg base N qual scope f cdv A outer s H E) (WD E) →
      ∀ ds o, Sp ds o → SA (cxd P w K mg base N qual scope f cdv A outer s H E) (WD E) (st0 N ds) body (PostOf o)) : FnOk P w K mg base (L2.CX P w) (k + 1) f fd ps (spD K mg Sp) := by
  refine F.ok S (fun vs H Q E h => ?_) (fun cdv A outer s H vs Q E hr h => ?_)
  · obtain ⟨_, _, ds, o, _, r, hS, _⟩ := h
    rw [r.len]; exact hl ds o hS
  · obtain ⟨S0, L, ds, o, hi, r, hS, q⟩ := h
    refine ⟨_, (hb cdv A outer s H E hr sc_def ds o hS).ps, ?_⟩
    have hlen : vs.length = ds.length := r.len
    refine ⟨S0, [], L, ⟨hi, ?_⟩, fun ρ' σ' H' S' O' hn sm hi' hr' => ?_, fun _ _ _ _ _ z => z.elim, fun _ _ _ _ _ z => z.elim, fun t v H' S' G hn sm hi' ht => ?_, fun ρ' x cls dd σ' H' S' O' hn sm hi' hr' hx => ?_⟩
    · unfold st0 L2.start
      rw [hlen]
      exact rho_start _ r
    · have hn : o = .ok (.fz .non) := hn
      subst hn
      obtain ⟨S2, sm2, hi2, _⟩ := hi'.freeze
      exact q .non H' S2 [] (sm.trans sm2) hi2 ⟨rfl, rfl⟩
    · have hn : o = .ok t := hn
      subst hn
      exact q v H' S' G sm hi' ht
    · have hn : o = .ex x := hn
      subst hn
      obtain ⟨S2, sm2, hi2, _⟩ := hi'.freeze
      obtain ⟨x1, x2⟩ := hx
      refine q cls dd H' S2 (sm.trans sm2) hi2 ⟨x1, ?_⟩
      cases hf : x.fld with
      | none => rw [hf] at x2; exact x2
      | some fd =>
        rw [hf] at x2
        obtain ⟨a, v, y1, y2, y3⟩ := x2
        exact ⟨a, v, y1, sm2 _ _ y2, y3.mono sm2⟩
end
end Fs

/-! F5: operators and comparisons by the data's forms. -/
namespace Fs
open PySem PySem.Spec L2

theorem RT.one {K : PySem.W.Frag} {S : Hp} {d : D} {v : V} (h : Rp K S d v) : RT K S (.fz d) v [] := ⟨h, rfl⟩
section
variable {i j : Int} {x y : Str} {p q : Bool}
theorem bin_int {op : Operator} {C : Int → Int → Prop} {g : Int → Int → Int} (h : ∀ X : Cx, OpR X (binaryOp op) (rI C fun i j => .int (g i j))) : BinD op (.int i) (.int j) (.fz (.int (g i j))) (C i j) :=
  ⟨fun X => ⟨_, h X, fun H S L v1 v2 Q hc hi r1 r2 k => ⟨i, j, r1, r2, hc, k _ H S [] (Same.refl S) hi (RT.one rfl)⟩⟩⟩
theorem bin_int0 {op : Operator} {g : Int → Int → Int} (h : ∀ X : Cx, OpR X (binaryOp op) (rI0 fun i j => .int (g i j))) : BinD op (.int i) (.int j) (.fz (.int (g i j))) True :=
  ⟨fun X => ⟨_, h X, fun H S L v1 v2 Q hc hi r1 r2 k => ⟨i, j, r1, r2, k _ H S [] (Same.refl S) hi (RT.one rfl)⟩⟩⟩
instance : BinD .Add (.int i) (.int j) (.fz (.int (i + j))) True := bin_int0 fun X => op_add
instance : BinD .Sub (.int i) (.int j) (.fz (.int (i - j))) True := bin_int0 fun X => op_sub
instance : BinD .Mult (.int i) (.int j) (.fz (.int (i * j))) (CMul i j) := bin_int fun X => op_mul
instance : BinD .Mod (.int i) (.int j) (.fz (.int (i % j))) (0 < j) := bin_int fun X => op_mod
instance : BinD .FloorDiv (.int i) (.int j) (.fz (.int (i / j))) (CDiv i j) := bin_int fun X => op_fdiv
instance : BinD .LShift (.int i) (.int j) (.fz (.int (i * 2 ^ j.toNat))) (CPow i j) := bin_int fun X => op_shl
instance : BinD .Pow (.int i) (.int j) (.fz (.int (i ^ j.toNat))) (CPow i j) := bin_int fun X => op_pow
instance : BinD .Add (.str x) (.str y) (.fz (.str (x ++ y))) (x.length + y.length ≤ sizeLine) :=
  ⟨fun X => ⟨_, op_add_str, fun H S L v1 v2 Q hc hi r1 r2 k => ⟨x, y, r1, r2, hc, k _ H S [] (Same.refl S) hi (RT.one rfl)⟩⟩⟩
/-- lists, items frozen -/
theorem RTs.app {K : PySem.W.Frag} {S : Hp} : ∀ {ts us : List T} {vs ws : List V} {O P : OH}, RTs K S ts vs O → RTs K S us ws P → RTs K S (ts ++ us) (vs ++ ws) (O ++ P)
  | [], _, _, _, _, _, h, h2 => by rw [h.1, h.2]; exact h2
  | t :: ts, _, _, _, _, _, ⟨v, r, O1, O2, h1, h2, h3, h4⟩, h5 => ⟨v, _, O1, _, by rw [h1]; rfl, by rw [h2, List.append_assoc], h3, RTs.app h4 h5⟩
theorem Rps.app {K : PySem.W.Frag} {S : Hp} : ∀ {ds es : List D} {vs ws : List V}, Rps K S ds vs → Rps K S es ws → Rps K S (ds ++ es) (vs ++ ws)
  | [], _, _, _, h, h2 => by rw [show _ = ([] : List V) from h]; exact h2
  | d :: ds, _, _, _, ⟨v, r, h1, h2, h3⟩, h4 => ⟨v, _, by rw [h1]; rfl, h2, Rps.app h3 h4⟩
instance {xs ys : List D} : BinD .Add (.lst xs) (.lst ys) (.lst ((xs ++ ys).map .fz)) (xs.length + ys.length ≤ sizeLine) :=
  ⟨fun X => ⟨_, op_cat, fun H S L v1 v2 Q hc hi r1 r2 k => by
    obtain ⟨a, us, e1, e2, e3⟩ := r1
    obtain ⟨b, ws, f1, f2, f3⟩ := r2
    exact ⟨a, b, us, ws, e1, f1, hi.same _ _ e2, hi.same _ _ f2, by rw [e3.len, f3.len]; exact hc, fun p np => k _ _ S [(p, .lst (us ++ ws))] (Same.refl S) (hi.newO np) ⟨p, us ++ ws, [], rfl, rfl, (e3.app f3).ts⟩⟩⟩⟩
/-! ### comparisons -/
theorem cmp_int {op : CmpOp} {g : Int → Int → Bool} (h : ∀ X : Cx, OpR X (compareOp op) (rI0 fun i j => .bl (g i j))) : CmpD op (.int i) (.int j) (g i j) True :=
  ⟨fun X _ => ⟨_, h X, fun H S L v1 v2 Q hc hi r1 r2 k => ⟨i, j, r1, r2, k⟩⟩⟩
instance : CmpD .Lt (.int i) (.int j) (decide (i < j)) True := cmp_int fun X => op_lt
instance : CmpD .LtE (.int i) (.int j) (decide (i ≤ j)) True := cmp_int fun X => op_le
instance : CmpD .Gt (.int i) (.int j) (decide (j < i)) True := cmp_int fun X => op_gt
instance : CmpD .GtE (.int i) (.int j) (decide (j ≤ i)) True := cmp_int fun X => op_ge
instance : CmpD .Eq (.int i) (.int j) (decide (i = j)) True := ⟨fun X _ => ⟨_, op_eq, fun H S L v1 v2 Q hc hi r1 r2 k => by
  rw [show v1 = .int i from r1, show v2 = .int j from r2]
  exact ⟨rfl, by rw [show decide (V.int i = V.int j) = decide (i = j) by simp]; exact k⟩⟩⟩
instance : CmpD .NotEq (.int i) (.int j) (!decide (i = j)) True := ⟨fun X _ => ⟨_, op_ne, fun H S L v1 v2 Q hc hi r1 r2 k => by
  rw [show v1 = .int i from r1, show v2 = .int j from r2]
  exact ⟨rfl, by rw [show decide (V.int i = V.int j) = decide (i = j) by simp]; exact k⟩⟩⟩
instance : CmpD .Eq (.str x) (.str y) (decide (x = y)) True := ⟨fun X _ => ⟨_, op_eq, fun H S L v1 v2 Q hc hi r1 r2 k => by
  rw [show v1 = .str x from r1, show v2 = .str y from r2]
  exact ⟨rfl, by rw [show decide (V.str x = V.str y) = decide (x = y) by simp]; exact k⟩⟩⟩
instance : CmpD .NotEq (.str x) (.str y) (!decide (x = y)) True := ⟨fun X _ => ⟨_, op_ne, fun H S L v1 v2 Q hc hi r1 r2 k => by
  rw [show v1 = .str x from r1, show v2 = .str y from r2]
  exact ⟨rfl, by rw [show decide (V.str x = V.str y) = decide (x = y) by simp]; exact k⟩⟩⟩
instance : CmpD .Eq (.bl p) (.bl q) (decide (p = q)) True := ⟨fun X _ => ⟨_, op_eq, fun H S L v1 v2 Q hc hi r1 r2 k => by
  rw [show v1 = .bl p from r1, show v2 = .bl q from r2]
  exact ⟨rfl, by rw [show decide (V.bl p = V.bl q) = decide (p = q) by simp]; exact k⟩⟩⟩
instance : CmpD .NotEq (.bl p) (.bl q) (!decide (p = q)) True := ⟨fun X _ => ⟨_, op_ne, fun H S L v1 v2 Q hc hi r1 r2 k => by
  rw [show v1 = .bl p from r1, show v2 = .bl q from r2]
  exact ⟨rfl, by rw [show decide (V.bl p = V.bl q) = decide (p = q) by simp]; exact k⟩⟩⟩
/-- texts by their signs -/
def strLt (x y : Str) : Bool := decide (x.cps.toList < y.cps.toList)
instance : CmpD .Lt (.str x) (.str y) (strLt x y) True := ⟨fun X _ => ⟨_, op_lt_str, fun H S L v1 v2 Q hc hi r1 r2 k => ⟨x, y, r1, r2, k⟩⟩⟩
instance : CmpD .In (.str x) (.str y) (!(Builtin.Str.occurrences y x 0 y.length 1).isEmpty) True := ⟨fun X _ => ⟨_, op_in_str, fun H S L v1 v2 Q hc hi r1 r2 k => ⟨x, y, r1, r2, k⟩⟩⟩
theorem bl_non {d : D} {K : PySem.W.Frag} {S : Hp} {v : V} (r : Rp K S d v) (h : d ≠ .non) : v ≠ .non := fun z => by
  subst z
  cases d with
  | non => exact h rfl
  | bl _ => cases r
  | int _ => cases r
  | str _ => cases r
  | tup _ => obtain ⟨_, _, e, _⟩ := r; cases e
  | lst _ => obtain ⟨_, _, e, _⟩ := r; cases e
  | rol _ => obtain ⟨_, _, e, _⟩ := r; cases e
  | dct _ _ => obtain ⟨_, _, e, _⟩ := r; cases e
  | ins _ _ _ => obtain ⟨_, _, _, e, _⟩ := r; cases e
def isNon : D → Bool
  | .non => true
  | _ => false
theorem non_dec {d : D} {K : PySem.W.Frag} {S : Hp} {v : V} (r : Rp K S d v) : decide (v = .non) = isNon d := by
  cases d with
  | non => rw [show v = .non from r]; rfl
  | _ => exact decide_eq_false (bl_non r (by simp))
instance {d : D} : CmpD .Is d .non (isNon d) True := ⟨fun X _ => ⟨_, op_isN, fun H S L v1 v2 Q hc hi r1 r2 k => ⟨r2, by rw [non_dec r1]; exact k⟩⟩⟩
instance {d : D} : CmpD .IsNot d .non (!isNon d) True := ⟨fun X _ => ⟨_, op_notN, fun H S L v1 v2 Q hc hi r1 r2 k => ⟨r2, by rw [non_dec r1]; exact k⟩⟩⟩
/-! ### data compared at any depth -/
mutual
def toPy : D → PyData
  | .non => .none
  | .bl b => .bool b
  | .int i => .int i
  | .str x => .str x
  | .tup ds => .tuple (toPys ds)
  | .lst ds => .list (toPys ds)
  | .rol ds => .list (toPys ds)
  | .dct _ _ => .none
  | .ins _ _ _ => .none
def toPys : List D → List PyData
  | [] => []
  | d :: ds => toPy d :: toPys ds
end
mutual
def plainD : D → Bool
  | .non => true | .bl _ => true | .int _ => true | .str _ => true
  | .tup ds => plainDs ds
  | .lst ds => plainDs ds
  | .rol ds => plainDs ds
  | .dct _ _ => false
  | .ins _ _ _ => false
def plainDs : List D → Bool
  | [] => true
  | d :: ds => plainD d && plainDs ds
end
mutual
theorem dp_of {K : PySem.W.Frag} {S H : Hp} (e : Same S H) : ∀ {d : D} {v : V}, plainD d = true → Rp K S d v → Dp K H v (toPy d)
  | .non, _, _, h => by rw [show _ = V.non from h]; exact .non
  | .bl b, _, _, h => by rw [show _ = V.bl b from h]; exact .bl b
  | .int i, _, _, h => by rw [show _ = V.int i from h]; exact .int i
  | .str x, _, _, h => by rw [show _ = V.str x from h]; exact .str x
  | .tup ds, _, p, ⟨a, vs, h1, h2, h3⟩ => by subst h1; exact .tup (same_seqT e h2) (dps_of e p h3)
  | .lst ds, _, p, ⟨a, vs, h1, h2, h3⟩ => by subst h1; exact .lst (.inl (.inl (e _ _ h2))) (dps_of e p h3)
  | .rol ds, _, p, ⟨a, vs, h1, h2, h3⟩ => by subst h1; exact .lst (Same.seq e h2) (dps_of e p h3)
  | .dct _ _, _, p, _ => nomatch p
  | .ins _ _ _, _, p, _ => nomatch p
theorem dps_of {K : PySem.W.Frag} {S H : Hp} (e : Same S H) : ∀ {ds : List D} {vs : List V}, plainDs ds = true → Rps K S ds vs → DpAll K H vs (toPys ds)
  | [], _, _, h => by rw [show _ = ([] : List V) from h]; exact .nil
  | d :: ds, _, p, ⟨v, r, h1, h2, h3⟩ => by
    have p' : (plainD d && plainDs ds) = true := p
    rw [Bool.and_eq_true] at p'
    subst h1
    exact .cons (dp_of e p'.1 h2) (dps_of e p'.2 h3)
end
/-- the depth is small, the lists short -/
def shp (d : D) : Prop := plainD d = true ∧ SeqAt.shaped (toPy d) = true
def eqD (d e : D) : Bool := PyData.eqv (toPy d) (toPy e)
theorem op_eq_any {X : Cx} (hr : Room 0 X.A) : OpR X (compareOp .Eq) (rEqD X.K) := op_eqD hr.units
theorem cmp_eqD {d e : D} : CmpD .Eq d e (eqD d e) (shp d ∧ shp e) := ⟨fun X hr => ⟨_, op_eqD hr.units, fun H S L v1 v2 Q hc hi r1 r2 k => ⟨_, _, dp_of hi.same hc.1.1 r1, dp_of hi.same hc.2.1 r2, hc.1.2, hc.2.2, k⟩⟩⟩
theorem cmp_neD {d e : D} : CmpD .NotEq d e (!eqD d e) (shp d ∧ shp e) := ⟨fun X hr => ⟨_, op_neD hr.units, fun H S L v1 v2 Q hc hi r1 r2 k => ⟨_, _, dp_of hi.same hc.1.1 r1, dp_of hi.same hc.2.1 r2, hc.1.2, hc.2.2, k⟩⟩⟩
instance {xs ys : List D} : CmpD .Eq (.tup xs) (.tup ys) (eqD (.tup xs) (.tup ys)) (shp (.tup xs) ∧ shp (.tup ys)) := cmp_eqD
instance {xs ys : List D} : CmpD .NotEq (.tup xs) (.tup ys) (!eqD (.tup xs) (.tup ys)) (shp (.tup xs) ∧ shp (.tup ys)) := cmp_neD
instance {xs ys : List D} : CmpD .Eq (.lst xs) (.lst ys) (eqD (.lst xs) (.lst ys)) (shp (.lst xs) ∧ shp (.lst ys)) := cmp_eqD
instance {xs ys : List D} : CmpD .NotEq (.lst xs) (.lst ys) (!eqD (.lst xs) (.lst ys)) (shp (.lst xs) ∧ shp (.lst ys)) := cmp_neD
end
end Fs

/-! G1: sets of texts: made of what is walked, laid out again in order. -/
namespace Fs
open PySem PySem.Spec L2 PyProof.Rows

abbrev skd (P : Program) (w : World) := PySem.strKind P w
/-- the text that an entry holds -/
def txtOf : Int × Value → Str
  | (_, .str x _) => x
  | _ => Str.empty
def TxtE (w : World) (q : Int × Value) : Prop := ∃ x u, q = (hashStr w x, Value.str x u)
/-- the set at a holds just the texts of xs; its table is in order -/
structure SetX (w : World) (h : Heap) (a : Addr) (xs : List Str) : Prop where
  ex : ∃ o es ep t, h.get? a = some o ∧ o.ExactSet ∧ o.data = .set es ep t ∧ (∀ q ∈ es.toList, TxtE w q) ∧ (es.toList.map txtOf).Nodup ∧ (∀ x, x ∈ es.toList.map txtOf ↔ x ∈ xs) ∧
    es.size < scanBound ∧ t.fits es.size = true ∧ Ris t.place.toList ∧ (w.params.followText "set-order" = true ∨ t.led = true)
section
variable {P : Program} {w : World} {A : Around} {E : Value → Shared → Prop} {s : Shared} {a : Addr} {xs : List Str}
theorem SetX.mv {h h' : Heap} (R : SetX w h a xs) (k : ∀ o, h.get? a = some o → h'.get? a = some o) : SetX w h' a xs := by
  obtain ⟨o, es, ep, t, e, r⟩ := R.ex
  exact ⟨o, es, ep, t, k o e, r⟩
theorem SetX.cg {h : Heap} {ys : List Str} (R : SetX w h a xs) (k : ∀ x, x ∈ xs ↔ x ∈ ys) : SetX w h a ys := by
  obtain ⟨o, es, ep, t, e1, e2, e3, e4, e5, e6, r⟩ := R.ex
  exact ⟨o, es, ep, t, e1, e2, e3, e4, e5, fun x => (e6 x).trans (k x), r⟩
theorem txt_is {q : Int × Value} (g : TxtE w q) (x : Str) : (skd P w).is x q.2 = true ↔ txtOf q = x := by
  obtain ⟨y, u, rfl⟩ := g
  show Value.isStrOf x (Value.str y u) = true ↔ y = x
  constructor
  · intro z
    obtain ⟨t, e⟩ := Value.isStrOf_shape z
    injection e with e1 _
  · intro z
    subst z
    simp [Value.isStrOf]
theorem txt_elems {l : List (Int × Value)} (g : ∀ q ∈ l, TxtE w q) : ElemsOf (skd P w) l := fun q hq => by
  obtain ⟨x, u, rfl⟩ := g q hq
  exact ⟨⟨x, (txt_is ⟨x, u, rfl⟩ x).mpr rfl, rfl⟩, rfl⟩
theorem txt_mem {l : List (Int × Value)} (g : ∀ q ∈ l, TxtE w q) (x : Str) : x ∈ l.map txtOf ↔ ∃ q ∈ l, (skd P w).is x q.2 = true := by
  rw [List.mem_map]
  exact ⟨fun ⟨q, h1, h2⟩ => ⟨q, h1, (txt_is (g q h1) x).mpr h2⟩, fun ⟨q, h1, h2⟩ => ⟨q, h1, (txt_is (g q h1) x).mp h2⟩⟩
/-- the last steps of an addition -/
theorem setX_tail {g : Bool → Sem Unit} (hg : ∀ (b : Bool) (s₁ : Shared) (Q' : Unit → Shared → Prop), Q' () s₁ → wpAny (model P w) A (g b) Q' E s₁)
    {o : Obj} {es es1 : Array (Int × Value)} {ep : Nat} {t t2 : SetTable} (ho : s.heap.get? a = some o) (hex : o.ExactSet) (hd : o.data = .set es ep t)
    (g1 : ∀ q ∈ es1.toList, TxtE w q) (nd1 : (es1.toList.map txtOf).Nodup) (m1 : ∀ x, x ∈ es1.toList.map txtOf ↔ x ∈ xs) (hb1 : es1.size < scanBound) (hf2 : t2.fits es1.size = true)
    (hr : Ris t2.place.toList) (hl : w.params.followText "set-order" = true ∨ t2.led = true) {dm : Bool} {R : Option Bool → Shared → Prop} (hR : ∀ h', Heap.SameBut a s.heap h' → SetX w h' a xs → R (some true) { s with heap := h' }) :
    wpAny (model P w) A (do
        storeSet a es1 t2
        if (!dm && t2.tooFull) = true then do
            g (relayAll t2 es1 (SetTable.grown es1.size)).2.2
            storeSet a (relayAll t2 es1 (SetTable.grown es1.size)).1 (relayAll t2 es1 (SetTable.grown es1.size)).2.1
            pure (some true)
          else pure (some true)) R E s := by
  have sb := Heap.SameBut.update s.heap a (Obj.putSet es1 t2)
  have ho1 := store_at (es' := es1) (t' := t2) ho hd
  refine wpAny_bind (wpAny_storeSet_of ho hd ?_ (fits_of_scanBound hb1))
  by_cases c : (!dm && t2.tooFull) = true
  · rw [if_pos c]
    have q1 := relayAll_perm t2 es1 (SetTable.grown es1.size)
    have q2 := relayAll_fits t2 es1 (SetTable.grown es1.size)
    have q3 := relayAll_ris t2 es1 (SetTable.grown es1.size)
    have q4 := relayAll_led t2 es1 (SetTable.grown es1.size)
    generalize relayAll t2 es1 (SetTable.grown es1.size) = Z at q1 q2 q3 q4 ⊢
    obtain ⟨es2, t3, gv⟩ := Z
    simp only at q1 q2 q3 q4 ⊢
    have z : es2.size = es1.size := by simpa using q1.length_eq
    refine wpAny_bind (hg _ _ _ (wpAny_bind (wpAny_storeSet_of ho1 rfl ?_ (fits_of_scanBound (by omega)))))
    refine wpAny_pure (hR _ (sb.trans (Heap.SameBut.update _ a _)) ⟨_, es2, _, t3, store_at (es' := es2) (t' := t3) ho1 rfl, hex, rfl, fun q hq => g1 q (q1.mem_iff.mp hq), ((q1.map txtOf).nodup_iff).mpr nd1, fun x => ((q1.map txtOf).mem_iff).trans (m1 x), by omega, q2, q3, ?_⟩)
    rcases hl with l | l
    · exact .inl l
    · exact .inr (by rw [q4]; exact l)
  · rw [if_neg c]
    exact wpAny_pure (hR _ sb ⟨_, es1, _, t2, ho1, hex, rfl, g1, nd1, m1, hb1, hf2, hr, hl⟩)
theorem setX_add {x : Str} {u : Tok} {Q : Bool → Shared → Prop} (R : SetX w s.heap a xs)
    (hsz : ∀ (ys : List Str), ys.Nodup → (∀ y ∈ ys, y ∈ x :: xs) → ys.length < scanBound)
    (hQ : ∀ b h', Heap.SameBut a s.heap h' → SetX w h' a (x :: xs) → Q b { s with heap := h' }) : wpAny (model P w) A (setAddHashed a (.str x u) (hashStr w x)) Q E s := by
  obtain ⟨o, es, ep, t, ho, hex, hd, g, nd, hm, hb, hf, hr, hl⟩ := R.ex
  have key : (skd P w).is x (.str x u) = true := (txt_is (w := w) ⟨x, u, rfl⟩ x).mpr rfl
  have sc : (Value.str x u).scannable = true := rfl
  have el : ElemsOf (skd P w) es.toList := txt_elems g
  unfold setAddHashed setAddHashedIn
  refine wpAny_holding (wpAny_bind (wpAny_setState_of ho hd hf ?_))
  dsimp only
  rw [byScan_of sc hb el, if_pos rfl]
  unfold setAddByScan
  refine wpAny_bind (wpAny_bind (wpAny_rule (wpAny_bind (wpAny_setScan_of key ho hd hf el ?_))))
  cases fi : List.findIdx? (fun e => (skd P w).is x e.2) es.toList with
  | some j =>
    obtain ⟨hj, pj, _⟩ := List.findIdx?_eq_some_iff_getElem.mp fi
    have inx : x ∈ xs := (hm x).mp ((txt_mem (P := P) g x).mpr ⟨_, List.getElem_mem hj, pj⟩)
    exact wpAny_pure (wpAny_pure (hQ _ s.heap (Heap.SameBut.refl a s.heap) (R.cg fun y => ⟨fun z => List.mem_cons_of_mem _ z, fun z => (List.mem_cons.mp z).elim (fun e => e ▸ inx) id⟩)))
  | none =>
    have new : x ∉ es.toList.map txtOf := fun z => by
      obtain ⟨q, h1, h2⟩ := (txt_mem (P := P) g x).mp z
      exact absurd h2 (by simpa using List.findIdx?_eq_none_iff.mp fi q h1)
    have give : ∀ (b : Bool) {s₁ : Shared} {Q' : Unit → Shared → Prop}, Q' () s₁ → wpAny (model P w) A (match b with | true => rule "set.scan.the-table-gave-way" | false => pure ()) Q' E s₁ := by
      intro b s₁ Q' q
      cases b
      · exact wpAny_pure q
      · exact wpAny_rule q
    have q1 := layNew_perm t es (hashStr w x) (.str x u)
    have q2 := layNew_fits t es (hashStr w x) (.str x u)
    have q3 := layNew_ris t es (hashStr w x) (.str x u) hr
    have q4 := layNew_led t es (hashStr w x) (.str x u)
    show wpAny _ A _ _ _ s
    dsimp only
    generalize layNew t es (hashStr w x) (.str x u) = Z at q1 q2 q3 q4 ⊢
    obtain ⟨es1, t1, dm, gv⟩ := Z
    simp only at q1 q2 q3 q4 ⊢
    rw [Array.toList_push] at q1
    have pc : es1.toList.Perm ((hashStr w x, Value.str x u) :: es.toList) := q1.trans (List.perm_append_singleton _ _)
    have pk : (es1.toList.map txtOf).Perm (x :: es.toList.map txtOf) := pc.map txtOf
    have g1 : ∀ q ∈ es1.toList, TxtE w q := fun q hq => (List.mem_cons.mp (pc.mem_iff.mp hq)).elim (fun z => ⟨x, u, z⟩) (g q)
    have nd1 : (es1.toList.map txtOf).Nodup := pk.nodup_iff.mpr (List.nodup_cons.mpr ⟨new, nd⟩)
    have m1 : ∀ y, y ∈ es1.toList.map txtOf ↔ y ∈ x :: xs := fun y => by rw [pk.mem_iff, List.mem_cons, List.mem_cons, hm y]
    have hb1 : es1.size < scanBound := by
      have := hsz _ nd1 fun y hy => (m1 y).mp hy
      simpa using this
    have led : w.params.followText "set-order" = true ∨ t1.led = true := hl.imp id fun z => by rw [q4]; exact z
    refine wpAny_bind (give _ ?_)
    split
    · refine wpAny_bind ?_
      rw [hashByValue_scannable 8 sc]
      refine wpAny_pure ?_
      refine setX_tail (xs := x :: xs) (fun b s₁ Q' q => give b q) ho hex hd g1 nd1 m1 hb1 ?_ ?_ ?_ fun h' sb r => wpAny_pure (hQ _ h' sb r)
      · first | (split <;> first | exact q2 | exact SetTable.fits_plain_off q2) | exact q2
      · first | (split <;> exact q3) | exact q3
      · first | (split <;> exact led) | exact led
    · refine wpAny_bind (wpAny_pure ?_)
      rw [if_pos rfl]
      exact setX_tail (xs := x :: xs) (fun b s₁ Q' q => give b q) ho hex hd g1 nd1 m1 hb1 q2 q3 led fun h' sb r => wpAny_pure (hQ _ h' sb r)
end
end Fs

/-! G2: set(texts), sorted(set(..)). -/
namespace Fs
open PySem PySem.Spec L2 PyProof.Rows

theorem nat_ne1 {a n m : Nat} (h : a < n) (e : m = n + 1) : a ≠ m := by omega
theorem nat_no2 {b n m : Nat} (h : b < n) (e : m = n + 1) : b ∉ n :: [m] := by
  simp only [List.mem_cons, List.not_mem_nil, or_false, not_or]
  omega
theorem nat_fp2 {n m l : Nat} (h : l < n) (e : m = n + 1) : n ∉ [m, l] := by
  simp only [List.mem_cons, List.not_mem_nil, or_false, not_or]
  omega
theorem nat_fp1 {n m : Nat} (e : m = n + 1) : n ∉ [m] := by
  simp only [List.mem_cons, List.not_mem_nil, or_false]
  omega
/-- what has been walked -/
def upto (f : Nat → Str) : Nat → List Str
  | 0 => []
  | i + 1 => f i :: upto f i
theorem upto_mem {f : Nat → Str} {x : Str} : ∀ {n : Nat}, x ∈ upto f n ↔ ∃ i, i < n ∧ f i = x
  | 0 => by simp [upto]
  | n + 1 => by
    rw [upto, List.mem_cons, upto_mem]
    constructor
    · rintro (h | ⟨i, h1, h2⟩)
      · exact ⟨n, by omega, h.symm⟩
      · exact ⟨i, by omega, h2⟩
    · rintro ⟨i, h1, h2⟩
      by_cases c : i = n
      · subst c; exact .inl h2.symm
      · exact .inr ⟨i, by omega, h2⟩
/-- few unlike texts -/
def Few (xs : List Str) : Prop := ∀ ys : List Str, ys.Nodup → (∀ y ∈ ys, y ∈ xs) → ys.length < scanBound
section
variable {P : Program} {w : World} {A : Around} {E : Value → Shared → Prop} {s : Shared}
theorem setX_loop {I : Addr} {fp wr : List Addr} {G : Array GenState → Array GenState → Prop} {n : Nat} {Pv : Nat → Value → Prop} {St : Nat → Shared → Prop} {R : Result → Shared → Prop}
    (W : WalksS P w A.in1 I fp wr G n Pv St) (S : Addr) (hf : S ∉ fp) (f : Nat → Str) (few : Few (upto f n)) (hv : ∀ i v, Pv i v → ∃ t, v = .str (f i) t) (m : Nat) :
    ∀ (i : Nat) (s : Shared), n - i = m → i ≤ n → St i s → SetX w s.heap S (upto f i) → (∀ s', Moved (S :: wr) G s s' → SetX w s'.heap S (upto f n) → R (.ok (.ret .none)) s') →
      codeAny (model P w) A (.builtin "set.update.loop" ⟨[.ref S, .ref I], []⟩) R s := by
  have nw : S ∉ wr := fun z => hf (W.sub _ z)
  have sub : ∀ b ∈ wr, b ∈ S :: wr := fun b z => List.mem_cons_of_mem _ z
  induction m with
  | zero =>
    intro i s e1 e2 st X q
    obtain rfl : i = n := by omega
    refine codeAny_builtin F.entry_set_update_loop ?_
    rw [Around.under_plainId F.plain_set_update_loop _]
    show wpAny _ A.in1 (pyNext (.ref I) >>= _) _ _ s
    exact wpAny_bind (W.done s _ _ st fun s' hm => wpAny_pure (q s' (hm.mono sub) (X.mv fun o z => hm.heap S o nw z)))
  | succ m ih =>
    intro i s e1 e2 st X q
    have lt : i < n := by omega
    refine codeAny_builtin F.entry_set_update_loop ?_
    rw [Around.under_plainId F.plain_set_update_loop _]
    show wpAny _ A.in1 (pyNext (.ref I) >>= _) _ _ s
    refine wpAny_bind (W.item i s _ _ lt st fun v s1 hP st1 hm => ?_)
    obtain ⟨t, rfl⟩ := hv i v hP
    have X1 : SetX w s1.heap S (upto f i) := X.mv fun o z => hm.heap S o nw z
    show wpAny _ A.in1 (holding [Value.str (f i) t] (setAdd S (.str (f i) t)) >>= _) _ _ s1
    refine wpAny_bind (wpAny_holding ?_)
    unfold setAdd
    refine wpAny_holding (wpAny_bind ((skd P w).pyHash (k := f i) (strKind_is _ _ _ _) ?_))
    refine setX_add (s := { s1 with toks := s1.toks + 1 }) X1 (fun ys y1 y2 => few ys y1 fun y hy => ?_) fun b h' sb X2 => ?_
    · obtain ⟨j, j1, j2⟩ := upto_mem (n := i + 1).mp (y2 y hy)
      exact upto_mem.mpr ⟨j, by omega, j2⟩
    · refine wpAny_pure ⟨plainId_quiet F.plain_set_update_loop _, ih (i + 1) _ (by omega) lt (W.frame _ s1 _ _ st1 (Nat.le_succ _) fun b hb o z => ?_) X2 fun s2 hm2 X3 => ?_⟩
      · rw [sb.2 b fun z : b = S => hf (z ▸ hb)]; exact z
      · refine q s2 (Moved.trans W.gtrans ((hm.mono sub).then_heap (Nat.le_succ _) fun b o hb z => ?_) hm2) X3
        rw [sb.2 b fun y : b = S => hb (by rw [y]; exact List.mem_cons_self)]; exact z
/-- a fresh set -/
abbrev frO (w : World) : Obj := { cls := .type "set", dict := none, data := .set #[] 0 (.fresh 0 0 (!w.params.followText "set-order")) }
theorem setX_fresh {h : Heap} {S : Addr} (e : h.get? S = some (frO w)) : SetX w h S [] :=
  ⟨_, #[], 0, _, e, ⟨rfl, rfl, rfl⟩, rfl, fun q hq => by simp at hq, by simp, fun x => by simp, by decide, by rfl, List.Pairwise.nil, by
    show _ ∨ (!w.params.followText "set-order") = true
    cases w.params.followText "set-order"
    · exact .inr rfl
    · exact .inl rfl⟩

/-- what the fresh set's __init__ does with v -/
def Src (P : Program) (w : World) (s : Shared) (v : Value) (n : Nat) (f : Nat → Str) : Prop :=
  ∀ (A : Around) (E : Value → Shared → Prop), A.handled = none → codeAny (model P w) A (.call (.builtin "set.__init__") ⟨[.ref s.heap.objs.size, v], []⟩)
    (wants (fun r s2 => r = .none ∧ ∃ h' tk, s2 = { s with heap := h', toks := tk } ∧ SetX w h' s.heap.objs.size (upto f n) ∧ ∀ b o, s.heap.get? b = some o → h'.get? b = some o) E) { s with heap := s.heap.push (frO w) }
theorem setX_call {v : Value} {n : Nat} {f : Nat → Str} {Q : Value → Shared → Prop} (hh : A.handled = none) (src : Src P w s v n f)
    (h : ∀ (h' : Heap) (tk : Nat), SetX w h' s.heap.objs.size (upto f n) → (∀ b o, s.heap.get? b = some o → h'.get? b = some o) → Q (.ref s.heap.objs.size) { s with heap := h', toks := tk }) :
    wpAny (model P w) A (call (.type "set") [v]) Q E s := by
  obtain ⟨c, tl, hmro⟩ := F.called_set.mro
  have hmade := F.called_set.made
  have hsub := F.called_set.sub
  refine wpAny_call (codeAny_of_tree ?_)
  show wpAny _ _ (callAny (.type "set") _) _ _ _
  refine wpAny_pure ⟨Code.quiet_builtin _ (by decide +kernel), codeAny_builtin F.entry_type_call ?_⟩
  rw [Around.under_plain (weight_type_call_type "set" [v] []) rfl]
  have h1 := F.called_set.notType
  have h2 := F.called_set.canCreate
  have hct := F.typeCall_set_1 v
  repeat (any_goals (first | assumption | wp_step))
  refine codeAny_mono (code_set_led1 v (E := E) (Q₁ := fun ob s1 => ob = .ref s.heap.objs.size ∧ s1 = { s with heap := s.heap.push (frO w) }) ⟨rfl, rfl⟩) fun r s1 hr => ?_
  match r, hr with
  | .ok (.ret ob), hr =>
    obtain ⟨rfl, rfl⟩ := hr
    have hS : (s.heap.push (frO w)).get? s.heap.objs.size = some (frO w) := Heap.get?_push_size _ rfl
    have hT : Shared.TypeIs { s with heap := s.heap.push (frO w) } (.ref s.heap.objs.size) "set" := ⟨_, hS, rfl⟩
    have hli := F.called_set.init.lookup
    have hbi := F.called_set.init.bind (.ref s.heap.objs.size)
    repeat (any_goals (first | assumption | wp_step))
    refine codeAny_mono (src _ E (by simp [hh])) fun r2 s2 hr2 => ?_
    match r2, hr2 with
    | .ok (.ret u), hr2 =>
      obtain ⟨rfl, h', tk, rfl, X, k⟩ := hr2
      repeat (any_goals (first | assumption | wp_step))
      exact h _ _ X k
    | .error e, hr2 => exact hr2
    | .ok .next, hr2 => exact hr2.elim
    | .ok .brk, hr2 => exact hr2.elim
    | .ok .cont, hr2 => exact hr2.elim
  | .error e, hr => exact hr
  | .ok .next, hr => exact hr.elim
  | .ok .brk, hr => exact hr.elim
  | .ok .cont, hr => exact hr.elim
/-- behind the loop -/
theorem moved_keep {S : Addr} {h1 : Heap} {G : Array GenState → Array GenState → Prop} {fp : List Addr} {s s' : Shared} {o : Obj} (hm : Moved (S :: fp) G { s with heap := h1.push o } s') (hf : ∀ b ∈ S :: fp, s.heap.objs.size ≤ b) (k : ∀ b u, s.heap.get? b = some u → h1.get? b = some u) :
    ∀ b u, s.heap.get? b = some u → s'.heap.get? b = some u := fun b u e => hm.heap b u (fun z => absurd (Heap.lt_size e) (Nat.not_lt.mpr (hf b z))) (Heap.get?_push_of_some _ (k b u e))
theorem src_list {l : Addr} {items : Array Value} {f : Nat → Str} (hl : s.heap.IsList l items) (few : Few (upto f items.size)) (hv : ∀ (i : Nat) v, items[i]? = some v → ∃ t, v = .str (f i) t) : Src P w s (.ref l) items.size f := fun A E hh => by
  have hS : (s.heap.push (frO w)).get? s.heap.objs.size = some (frO w) := Heap.get?_push_size _ rfl
  have hT : Shared.TypeIs { s with heap := s.heap.push (frO w) } (.ref s.heap.objs.size) "set" := ⟨_, hS, rfl⟩
  refine codeAny_call_builtin F.called_set.init.plain F.entry_set_init (check_set_init_1 hT ?_)
  obtain ⟨ol, hol, hcl, nl, hdl⟩ := hl
  obtain ⟨ocls, odict, odata, oslots⟩ := ol
  simp only at hcl hdl
  subst hcl; subst hdl
  have hol' : (s.heap.push (frO w)).get? l = some { cls := .type "list", dict := odict, data := .seq items nl, slots := oslots } := Heap.get?_push_of_some _ hol
  have hl1 : (s.heap.push (frO w)).IsList l items := ⟨_, hol', rfl, nl, rfl⟩
  have hsls := F.sub_list_set
  have hslf := F.sub_list_frozenset
  have hne : (Value.type "list" == Value.type "dict") = false := by decide
  unfold Builtin.«set.__init__» noKeywords Builtin.Frozenset.updateFrom
  generalize hPI : pyIter = PI
  wp_walk
  subst hPI
  refine wpAny_pyIter_list hl1 (wpAny_bind (wpAny_runValue ?_))
  have lt : l < s.heap.objs.size := Heap.lt_size hol
  have sz : (s.heap.push (frO w)).objs.size = s.heap.objs.size + 1 := Heap.size_push ..
  have ne : l ≠ (s.heap.push (frO w)).objs.size := nat_ne1 lt sz
  refine setX_loop ((Walks.list (by simp [hh]) _ l ne items).toS) s.heap.objs.size ?_ f few hv (items.size - 0) 0 _ (by omega) (Nat.zero_le _) ⟨⟨_, Heap.get?_push_size _ rfl, rfl, rfl⟩, hl1.push _⟩ (setX_fresh (Heap.get?_push_of_some _ hS)) fun s2 hm X => ?_
  · exact nat_fp2 lt sz
  · obtain ⟨h', g', d', tk', os'⟩ := s2
    obtain rfl : g' = s.gens := hm.gens
    obtain rfl : d' = s.drawn := hm.drawn
    obtain rfl : os' = s.os := hm.os
    refine wpAny_pure ?_
    show wpAny _ _ (ret Value.none) _ _ _
    refine wpAny_pure ⟨rfl, h', tk', rfl, X, fun b u e => ?_⟩
    have lb := Heap.lt_size e
    exact hm.heap b u (nat_no2 lb sz) (Heap.get?_push_of_some _ (Heap.get?_push_of_some _ e))
theorem src_tup {l : Addr} {items : Array Value} {f : Nat → Str} (hl : s.heap.IsTuple l items) (few : Few (upto f items.size)) (hv : ∀ (i : Nat) v, items[i]? = some v → ∃ t, v = .str (f i) t) : Src P w s (.ref l) items.size f := fun A E hh => by
  have hS : (s.heap.push (frO w)).get? s.heap.objs.size = some (frO w) := Heap.get?_push_size _ rfl
  have hT : Shared.TypeIs { s with heap := s.heap.push (frO w) } (.ref s.heap.objs.size) "set" := ⟨_, hS, rfl⟩
  refine codeAny_call_builtin F.called_set.init.plain F.entry_set_init (check_set_init_1 hT ?_)
  obtain ⟨ol, hol, hcl, nl, hdl⟩ := hl
  obtain ⟨ocls, odict, odata, oslots⟩ := ol
  simp only at hcl hdl
  subst hcl; subst hdl
  have hol' : (s.heap.push (frO w)).get? l = some { cls := .type "tuple", dict := odict, data := .seq items nl, slots := oslots } := Heap.get?_push_of_some _ hol
  have hl1 : (s.heap.push (frO w)).IsTuple l items := ⟨_, hol', rfl, nl, rfl⟩
  have hsls := F.sub_tuple_set
  have hslf := F.sub_tuple_frozenset
  have hne : (Value.type "tuple" == Value.type "dict") = false := by decide
  unfold Builtin.«set.__init__» noKeywords Builtin.Frozenset.updateFrom
  generalize hPI : pyIter = PI
  wp_walk
  subst hPI
  refine wpAny_pyIter_tuple hl1 (wpAny_bind (wpAny_runValue ?_))
  have lt : l < s.heap.objs.size := Heap.lt_size hol
  have sz : (s.heap.push (frO w)).objs.size = s.heap.objs.size + 1 := Heap.size_push ..
  have ne : l ≠ (s.heap.push (frO w)).objs.size := nat_ne1 lt sz
  refine setX_loop ((Walks.tuple (by simp [hh]) _ l ne items).toS) s.heap.objs.size ?_ f few hv (items.size - 0) 0 _ (by omega) (Nat.zero_le _) ⟨⟨_, Heap.get?_push_size _ rfl, rfl, rfl⟩, hl1.push _⟩ (setX_fresh (Heap.get?_push_of_some _ hS)) fun s2 hm X => ?_
  · exact nat_fp2 lt sz
  · obtain ⟨h', g', d', tk', os'⟩ := s2
    obtain rfl : g' = s.gens := hm.gens
    obtain rfl : d' = s.drawn := hm.drawn
    obtain rfl : os' = s.os := hm.os
    refine wpAny_pure ?_
    show wpAny _ _ (ret Value.none) _ _ _
    refine wpAny_pure ⟨rfl, h', tk', rfl, X, fun b u e => ?_⟩
    have lb := Heap.lt_size e
    exact hm.heap b u (nat_no2 lb sz) (Heap.get?_push_of_some _ (Heap.get?_push_of_some _ e))
theorem src_str {x : Str} {u : Tok} {f : Nat → Str} (few : Few (upto f x.cps.size)) (hv : ∀ (i : Nat) c, x.cps[i]? = some c → f i = ⟨#[c]⟩) : Src P w s (.str x u) x.cps.size f := fun A E hh => by
  have hS : (s.heap.push (frO w)).get? s.heap.objs.size = some (frO w) := Heap.get?_push_size _ rfl
  have hT : Shared.TypeIs { s with heap := s.heap.push (frO w) } (.ref s.heap.objs.size) "set" := ⟨_, hS, rfl⟩
  refine codeAny_call_builtin F.called_set.init.plain F.entry_set_init (check_set_init_1 hT ?_)
  have hsls := F.sub_str_set
  have hslf := F.sub_str_frozenset
  have hne : (Value.type "str" == Value.type "dict") = false := by decide
  unfold Builtin.«set.__init__» noKeywords Builtin.Frozenset.updateFrom
  generalize hPI : pyIter = PI
  wp_walk
  subst hPI
  refine wpAny_pyIter_str fun ob St W st => wpAny_bind (wpAny_runValue ?_)
  have sz : (s.heap.push (frO w)).objs.size = s.heap.objs.size + 1 := Heap.size_push ..
  refine setX_loop ((W _ (by simp [hh])).toS) s.heap.objs.size ?_ f few (fun i v ⟨c, t, h1, h2⟩ => ⟨t, by rw [hv i c h1]; exact h2⟩) (x.cps.size - 0) 0 _ (by omega) (Nat.zero_le _) st (setX_fresh (Heap.get?_push_of_some _ hS)) fun s2 hm X => ?_
  · exact nat_fp1 sz
  · obtain ⟨h', g', d', tk', os'⟩ := s2
    obtain rfl : g' = s.gens := hm.gens
    obtain rfl : d' = s.drawn := hm.drawn
    obtain rfl : os' = s.os := hm.os
    refine wpAny_pure ?_
    show wpAny _ _ (ret Value.none) _ _ _
    refine wpAny_pure ⟨rfl, h', tk', rfl, X, fun b u e => ?_⟩
    have lb := Heap.lt_size e
    exact hm.heap b u (nat_no2 lb sz) (Heap.get?_push_of_some _ (Heap.get?_push_of_some _ e))
end
end Fs

/-! G3: sorted of texts, whatever holds them. -/
namespace Fs
open PySem PySem.Spec L2 PyProof.Rows

def leS (a b : Str) : Bool := decide (a.cps.toList ≤ b.cps.toList)
/-- the texts in order -/
def srt (xs : List Str) : List Str := xs.mergeSort leS
theorem leS_trans (a b c : Str) (h : leS a b = true) (h2 : leS b c = true) : leS a c = true := by
  unfold leS at *
  rw [decide_eq_true_eq] at *
  exact List.le_trans h h2
theorem leS_total (a b : Str) : (leS a b || leS b a) = true := by
  unfold leS
  rw [Bool.or_eq_true, decide_eq_true_eq, decide_eq_true_eq]
  exact List.le_total _ _
theorem leS_antisymm {a b : Str} (h : leS a b = true) (h2 : leS b a = true) : a = b := by
  unfold leS at *
  rw [decide_eq_true_eq] at *
  have e : a.cps.toList = b.cps.toList := List.le_antisymm h h2
  obtain ⟨x⟩ := a
  obtain ⟨y⟩ := b
  have : x = y := Array.ext' e
  rw [this]
theorem srt_pairwise (xs : List Str) : (srt xs).Pairwise fun a b => leS a b = true := List.pairwise_mergeSort leS_trans leS_total xs
theorem srt_perm (xs : List Str) : (srt xs).Perm xs := List.mergeSort_perm xs leS
theorem sorted_eq {xs ys : List Str} (p : xs.Perm ys) (h1 : xs.Pairwise fun a b => leS a b = true) (h2 : ys.Pairwise fun a b => leS a b = true) : xs = ys :=
  List.Perm.eq_of_pairwise (fun a b _ _ h h' => leS_antisymm h h') h1 h2 p
theorem srt_of_perm {xs ys : List Str} (p : xs.Perm ys) : srt xs = srt ys := sorted_eq ((srt_perm xs).trans (p.trans (srt_perm ys).symm)) (srt_pairwise xs) (srt_pairwise ys)
theorem srt_sorted {xs : List Str} (h : xs.Pairwise fun a b => leS a b = true) : srt xs = xs := sorted_eq (srt_perm xs) (srt_pairwise xs) h
theorem nodup_dups {α : Type} [BEq α] [LawfulBEq α] : ∀ (n : Nat) (l : List α), l.length ≤ n → l.eraseDups.Nodup
  | _, [], _ => by simp
  | 0, _ :: _, h => by simp at h
  | n + 1, a :: l, h => by
    rw [List.eraseDups_cons]
    have hl : (l.filter fun b => !b == a).length ≤ n := Nat.le_trans (List.length_filter_le _ _) (by simpa using h)
    refine List.nodup_cons.mpr ⟨fun z => ?_, nodup_dups n _ hl⟩
    rw [List.mem_eraseDups, List.mem_filter] at z
    simp at z
theorem nodup_eraseDups {α : Type} [BEq α] [LawfulBEq α] (l : List α) : l.eraseDups.Nodup := nodup_dups l.length l (Nat.le_refl _)
/-- .. each once -/
def srtU (xs : List Str) : List Str := srt xs.eraseDups
theorem srtU_mem {xs : List Str} {x : Str} : x ∈ srtU xs ↔ x ∈ xs := by
  unfold srtU
  rw [(srt_perm _).mem_iff, List.mem_eraseDups]
theorem srtU_nodup (xs : List Str) : (srtU xs).Nodup := by
  unfold srtU
  exact (srt_perm _).nodup_iff.mpr (nodup_eraseDups xs)
theorem perm_of_mem {α : Type} [DecidableEq α] {xs ys : List α} (h1 : xs.Nodup) (h2 : ys.Nodup) (h : ∀ x, x ∈ xs ↔ x ∈ ys) : xs.Perm ys := by
  rw [List.perm_iff_count]
  intro a
  rw [h1.count, h2.count]
  by_cases c : a ∈ xs
  · rw [if_pos c, if_pos ((h a).mp c)]
  · rw [if_neg c, if_neg fun z => c ((h a).mpr z)]
theorem srtU_of {xs ys : List Str} (nd : ys.Nodup) (h : ∀ x, x ∈ ys ↔ x ∈ xs) : srt ys = srtU xs := by
  refine srt_of_perm (perm_of_mem nd (nodup_eraseDups xs) fun x => ?_)
  rw [h x, List.mem_eraseDups]
theorem srtU_congr {xs ys : List Str} (h : ∀ x, x ∈ xs ↔ x ∈ ys) : srtU xs = srtU ys := by
  have e : srt ys.eraseDups = srtU xs := srtU_of (nodup_eraseDups ys) fun x => by rw [List.mem_eraseDups, h x]
  exact e.symm
section
variable {P : Program} {w : World} {A : Around} {E : Value → Shared → Prop} {s : Shared}
/-- the values are these texts -/
def AreS : List Value → List Str → Prop := PySem.W.EachIs fun v x => ∃ t, v = Value.str x t
/-- v can be gone through: it holds the texts xs in some order -/
def Coll (P : Program) (w : World) (s : Shared) (v : Value) (xs : List Str) : Prop :=
  ∀ (A : Around) (E : Value → Shared → Prop) (Q : List Value → Shared → Prop), A.handled = none →
    (∀ s' vs ys, (∀ b o, s.heap.get? b = some o → s'.heap.get? b = some o) → s'.gens = s.gens → s'.os = s.os → AreS vs ys → ys.Perm xs → Q vs s') → wpAny (model P w) A (collect v) Q E s
theorem dataLe_leS : PySem.W.dataLe false (fun b : Str => PyData.str b) = leS := by
  rw [PySem.W.dataLe_str (fun b : Str => b)]
  rfl
theorem call_sorted {v : Value} {xs : List Str} {Q : Value → Shared → Prop} (hh : A.handled = none) (c : Coll P w s v xs) (hL : xs.length ≤ sizeLine) (hu : A.units + 4 < cLine)
    (hQ : ∀ s' p (out : List Value) (n : Nat), (∀ b o, s.heap.get? b = some o → s'.heap.get? b = some o) → s'.gens = s.gens → s'.os = s.os → s.heap.get? p = none → s'.heap.get? p = some (seqObj "list" out.toArray n) → AreS out (srt xs) → Q (.ref p) s') :
    wpAny (model P w) A (call (.builtin "sorted") [v]) Q E s := by
  refine Calls.call_function_entry kind_sorted plain_sorted entry_sorted (args_sorted1 _) ?_
  unfold Builtin.«sorted»
  refine wpAny_bind (m := checkCount "sorted" 1 1 _) (wpAny_pure (wpAny_bind (c A.in1 _ _ hh fun s1 vs ys k g o e pm => ?_)))
  have hl : vs.length = xs.length := by rw [e.length, pm.length_eq]
  refine wpAny_bind (wpAny_newList ?_ (by rw [hl]; exact hL))
  have ho : (s1.heap.push (seqObj "list" vs.toArray 0)).get? s1.heap.objs.size = some (seqObj "list" vs.toArray 0) := Heap.get?_push_size _ rfl
  refine wpAny_bind (wpAny_holding ?_)
  refine PySem.W.list_sort_data (enc := fun b : Str => PyData.str b) (s := { s1 with heap := s1.heap.push (seqObj "list" vs.toArray 0) }) ho e (e.mono fun v b ⟨t, z⟩ => ⟨[], by rw [z]; exact .str b t, by simp⟩) (PySem.W.AllAlike.of fun _ _ => rfl) (PySem.W.Sortable.others fun b => ⟨by simp, by simp⟩) (by rw [pm.length_eq]; exact hL) (fun b _ => ?_) fun out l2 e2 => ?_
  · show A.in1.units + 1 + 0 < cLine
    rw [show A.in1.units = A.units + 1 from rfl]
    omega
  · obtain ⟨n, hn⟩ := sortedHeap_at (vs := vs) (out := out.toArray) ho
    rw [dataLe_leS] at e2
    refine wpAny_pure ⟨_, rfl, hQ _ s1.heap.objs.size out n (fun b u z => ?_) g o ?_ hn ?_⟩
    · have z1 := k b u z
      have lt := Heap.lt_size z1
      show (sortedHeap (s1.heap.push (seqObj "list" vs.toArray 0)) s1.heap.objs.size vs out.toArray).get? b = some u
      rw [sortedHeap_old (Nat.ne_of_lt lt) (by rw [size_push']; exact Nat.lt_succ_of_lt lt)]
      exact Heap.get?_push_of_some _ z1
    · cases q : s.heap.get? s1.heap.objs.size with
      | none => rfl
      | some u => exact absurd (Heap.lt_size (k _ _ q)) (Nat.lt_irrefl _)
    · rw [← srt_of_perm pm]
      exact e2
end
end Fs

/-! G4: sorted(..), sorted(set(..)) in the layer. -/
namespace Fs
open PySem PySem.Spec L2
open PyProof.Rows (seqObj)

section
variable {P : Program} {w : World} {H : Hp} {h h' : Heap} {a : Addr} {o : HO}
theorem obj_there {o : HO} (x : ObjOk P w H h a o) : ∃ u, h.get? a = some u := by
  cases o with
  | lst xs => obtain ⟨_, _, _, _, e⟩ := x; exact ⟨_, e⟩
  | tup xs => obtain ⟨_, _, _, u, e, _⟩ := x; exact ⟨u, e⟩
  | dK kvs => obtain ⟨_, _, _, _, u, _, _, e, _⟩ := x; exact ⟨u, e⟩
  | dT kvs => obtain ⟨_, _, _, _, u, _, _, e, _⟩ := x; exact ⟨u, e⟩
  | set S n => obtain ⟨u, _, _, _, e, _⟩ := x; exact ⟨u, e⟩
  | ins C dx fs => obtain ⟨_, _, _, e, _⟩ := x; exact ⟨_, e⟩
  | own y => exact x
  | xd fs => obtain ⟨_, ⟨u, _, _, e, _⟩, _⟩ := x; exact ⟨u, e⟩
  | rng lo hi => obtain ⟨_, _, _, e⟩ := x; exact ⟨_, e⟩
  | frz ob u => obtain ⟨e, _⟩ := x; exact ⟨_, e⟩
  | tbl ps => exact ⟨_, x⟩
  | met f y => exact ⟨_, x⟩
  | ext φ => exact x.2.1
theorem hok_new (x : HOk P w H h) (k : ∀ b u, h.get? b = some u → h'.get? b = some u) (hn : H a = none) (new : ObjOk P w (upd H a o) h' a o) : HOk P w (upd H a o) h' := fun b u e => by
  by_cases hb : b = a
  · subst hb; rw [upd_same] at e; cases e; exact new
  · rw [upd_ne hb] at e
    exact (x b u e).stay (fun c v _ q => k c v q) (fun c q => by rw [upd_ne (ne_of_none q hn)]; exact q) fun c xs q => by rw [upd_ne (ne_of_none q hn)]; exact q
theorem un_new {fs ex : List Addr} (k : ∀ b u, h.get? b = some u → h'.get? b = some u) (hg : h.get? a = none) (hn : H a = none) : Un fs ex H (upd H a o) h h' where
  keep := fun b u q _ _ _ => k b u q
  slot := fun b u q _ _ _ => ⟨u.slots, k b u q⟩
  free := fun b u q n _ => by rw [upd_ne fun z => by rw [z, hg] at q; cases q]; exact n
  there := fun b u q _ => ⟨u, k b u q⟩
  tups := fun b xs q => by rw [upd_ne (ne_of_none q hn)]; exact q
  frzs := fun b u xs q => by rw [upd_ne (ne_of_none q hn)]; exact q
  tbls := fun b ps q => ⟨#[], by rw [upd_ne (ne_of_none q hn), q]; simp⟩
end
section
variable {X : Cx} {pins : List (Addr × Obj)} {σ : L2.St} {H : Hp} {s s' : Shared}
/-- a new object, laid by a run that keeps all objects -/
theorem inv_new {a : Addr} {o : HO} (I : Inv X pins σ H s) (k : ∀ b u, s.heap.get? b = some u → s'.heap.get? b = some u) (g : s'.gens = s.gens) (os : s'.os = s.os) (hg : s.heap.get? a = none)
    (new : ∀ H', ObjOk X.prog X.w H' s'.heap a o) : H a = none ∧ Inv X pins σ (upd H a o) s' := by
  have hn : H a = none := by
    cases q : H a with
    | none => rfl
    | some u =>
      obtain ⟨z, e⟩ := obj_there (I.hok a u q)
      rw [hg] at e; cases e
  exact ⟨hn, I.call' (ch := []) os (un_new k hg hn) (hok_new I.hok k hn (new _)) (by rw [g]; exact I.bare) (fun _ z => nomatch z)⟩
theorem vals_strs : ∀ {out : List Value} {xs : List Str}, AreS out xs → Vals (xs.map V.str) out
  | _, _, .nil => .nil
  | _, _, .cons h t => .cons h (vals_strs t)
theorem areS_of : ∀ {us : List Value} {xs : List Str}, Vals (xs.map V.str) us → AreS us xs
  | _, [], .nil => .nil
  | _, _ :: _, .cons r t => .cons r (areS_of t)
/-- what can be gone through -/
def ColV (K : PySem.W.Frag) (H : Hp) (x : V) (xs : List Str) : Prop := (∃ z : Str, x = .str z ∧ xs = z.cps.toList.map sgn ∧ z.cps.size ≤ sizeLine) ∨ ∃ a, x = .ref a ∧ (SqL K H a (xs.map V.str) ∨ SqT K H a (xs.map V.str))
theorem items_signs {x : Str} : ∀ (n : Nat) {acc : Array Value}, ItemsOf (SignAt x) acc n → n = x.cps.size → AreS acc.toList (x.cps.toList.map sgn) := by
  intro n acc h e
  subst e
  obtain ⟨h1, h2⟩ := h
  have key : ∀ (l : List Value) (cs : List Nat), l.length = cs.length → (∀ (i : Nat) v c, l[i]? = some v → cs[i]? = some c → ∃ t, v = Value.str (sgn c) t) → AreS l (cs.map sgn) := by
    intro l
    induction l with
    | nil => intro cs hl _; cases cs with
      | nil => exact .nil
      | cons c cs => simp at hl
    | cons v l ih => intro cs hl hi; cases cs with
      | nil => simp at hl
      | cons c cs => exact .cons (hi 0 v c rfl rfl) (ih cs (by simpa using hl) fun i v' c' q1 q2 => hi (i + 1) v' c' (by simpa using q1) (by simpa using q2))
  refine key _ _ (by simp [h1]) fun i v c q1 q2 => ?_
  obtain ⟨c', t, e1, e2⟩ := h2 i v (by simpa using q1)
  rw [Array.getElem?_toList, e1] at q2
  cases q2
  exact ⟨t, e2⟩
theorem coll_of {x : V} {u : Value} {xs : List Str} (I : Inv X pins σ H s) (r : RelV x u) (c : ColV X.K H x xs) (hL : xs.length ≤ sizeLine) : Coll X.prog X.w s u xs := fun A E Q hh q => by
  rcases c with ⟨z, rfl, rfl, hz⟩ | ⟨a, rfl, hq | hq⟩
  · obtain ⟨t, rfl⟩ := r
    exact wpAny_collect_str hh z t (fun s' acc k g _ o it => q s' acc.toList _ k g o (items_signs _ it rfl) (.refl _)) hz
  · cases r
    obtain ⟨its, rv, pl, hz⟩ := I.list hq
    obtain ⟨o, n, e1, e2, e3, e4⟩ := pl
    exact wpAny_collect_seq a (.inl rfl) e1 e2 e4 (fun h' k => q _ _ _ k rfl rfl (areS_of (by simpa using rv)) (.refl _)) (by rw [List.size_toArray, ← rv.length, List.length_map] ; exact hL)
  · cases r
    obtain ⟨its, rv, ⟨o, e1, e2, n, e4⟩, hz⟩ := I.tuple hq
    exact wpAny_collect_seq a (.inr rfl) e1 e2 e4 (fun h' k => q _ _ _ k rfl rfl (areS_of (by simpa using rv)) (.refl _)) (by rw [List.size_toArray, ← rv.length, List.length_map] ; exact hL)
/-- sorted(x) -/
def rSrt (K : PySem.W.Frag) : List V → Hp → VK → Prop := fun vs H Q => ∃ x xs, vs = [x] ∧ ColV K H x xs ∧ xs.length ≤ sizeLine ∧ ∀ p, H p = none → Q (.ref p) (upd H p (.lst ((srt xs).map V.str)))
theorem srt_len (xs : List Str) : (srt xs).length = xs.length := (srt_perm xs).length_eq
theorem cr_srt (hc : X.calm = true) (hu : X.A.units + 200 < cLine) : CallR X (.builtin "sorted") (rSrt X.K) := by
  intro pins s σ H vs us Q I r h
  obtain ⟨x, xs, rfl, c, hL, q⟩ := h
  obtain ⟨u, rfl, ru⟩ := vals1 r
  refine call_sorted (I.ok.hd hc) (coll_of I ru c hL) hL (by omega) fun s' p out n k g o hp hg e => ?_
  obtain ⟨hn, J⟩ := inv_new (o := .lst ((srt xs).map V.str)) I k g o hp fun H' => ⟨by rw [List.length_map, srt_len]; exact hL, out, n, vals_strs e, hg⟩
  exact ⟨.ref p, _, J, rfl, q p hn⟩
theorem boot_sorted : bootBuiltins "sorted" = some (.builtin "sorted") := by decide +kernel
theorem boot_set : bootBuiltins "set" = some (.type "set") := by decide +kernel
/-- sorted(set(x)) -/
def tSrtU (K : PySem.W.Frag) (ta : TE) : TE := fun σ H Q => ta σ H fun x H1 => ∃ xs, ColV K H1 x xs ∧ xs.length ≤ sizeLine ∧ Few xs ∧ ∀ p, H1 p = none → Q (.ref p) (upd H1 p (.lst ((srtU xs).map V.str)))
theorem coll_set {a : Addr} {xs : List Str} (R : SetX X.w s.heap a xs) : ∃ ys : List Str, (∀ x, x ∈ ys ↔ x ∈ xs) ∧ ys.Nodup ∧ ys.length < scanBound ∧ Coll X.prog X.w s (.ref a) ys := by
  obtain ⟨o, es, ep, t, ho, hex, hd, g, nd, hm, hb, hf, hr, hl⟩ := R.ex
  refine ⟨es.toList.map txtOf, hm, nd, by simpa using hb, fun A E Q hh q => ?_⟩
  refine collect_set hh ⟨o, ho, hex.1, hd⟩ hf hb hr hl fun s' out k _ gg oo pm => ?_
  have key : ∀ (l : List Value), (∀ v ∈ l, ∃ x t, v = Value.str x t) → ∃ ys, AreS l ys ∧ ys = l.map fun v => txtOf (0, v) := fun l => by
    induction l with
    | nil => intro _; exact ⟨[], .nil, rfl⟩
    | cons v l ih =>
      intro h
      obtain ⟨ys, e1, e2⟩ := ih fun u hu => h u (List.mem_cons_of_mem _ hu)
      obtain ⟨x, t, rfl⟩ := h v (by simp)
      exact ⟨x :: ys, .cons ⟨t, rfl⟩ e1, by rw [e2]; rfl⟩
  obtain ⟨ys, e1, e2⟩ := key out fun v hv => by
    obtain ⟨e, he, rfl⟩ := List.mem_map.mp (pm.mem_iff.mp hv)
    obtain ⟨x, u, rfl⟩ := g e he
    exact ⟨x, u, rfl⟩
  refine q s' out ys k gg oo e1 ?_
  rw [e2]
  have := pm.map fun v => txtOf (0, v)
  rw [List.map_map] at this
  refine this.trans (List.Perm.of_eq (List.map_congr_left fun e he => ?_))
  obtain ⟨x, u, rfl⟩ := g e he
  rfl
theorem src_of {x : V} {u : Value} {xs : List Str} (I : Inv X pins σ H s) (r : RelV x u) (c : ColV X.K H x xs) (few : Few xs) : ∃ n f, Src X.prog X.w s u n f ∧ ∀ y, y ∈ upto f n ↔ y ∈ xs := by
  have mem : ∀ (y : Str), y ∈ upto (fun i => xs.getD i Str.empty) xs.length ↔ y ∈ xs := fun y => by
    rw [upto_mem]
    constructor
    · rintro ⟨i, h1, h2⟩
      rw [← h2, List.getD_eq_getElem?_getD, List.getElem?_eq_getElem h1]
      exact List.getElem_mem h1
    · intro h
      obtain ⟨i, h1, h2⟩ := List.mem_iff_getElem.mp h
      exact ⟨i, h1, by rw [List.getD_eq_getElem?_getD, List.getElem?_eq_getElem h1]; exact h2⟩
  have few' : Few (upto (fun i => xs.getD i Str.empty) xs.length) := fun ys h1 h2 => few ys h1 fun y hy => (mem y).mp (h2 y hy)
  have val : ∀ {its : List Value}, Vals (xs.map V.str) its → ∀ (i : Nat) v, its.toArray[i]? = some v → ∃ t, v = .str (xs.getD i Str.empty) t := fun {its} rv i v hv => by
    have hl := rv.length
    rw [List.length_map] at hl
    have hv' : its[i]? = some v := by simpa using hv
    have lt : i < xs.length := by rw [hl]; exact (List.getElem?_eq_some_iff.mp hv').1
    obtain ⟨u, hu, t, e⟩ := rv.get (i := i) (x := .str (xs.getD i Str.empty)) (by rw [List.getElem?_map, List.getD_eq_getElem?_getD, List.getElem?_eq_getElem lt]; rfl)
    rw [hv'] at hu
    cases hu
    exact ⟨t, e⟩
  rcases c with ⟨z, rfl, rfl, hz⟩ | ⟨a, rfl, hq | hq⟩
  · obtain ⟨t, rfl⟩ := r
    have e : (z.cps.toList.map sgn).length = z.cps.size := by simp
    refine ⟨z.cps.size, _, src_str (f := fun i => (z.cps.toList.map sgn).getD i Str.empty) (by rw [← e]; exact few') fun i c hc => ?_, by rw [← e]; exact mem⟩
    rw [List.getD_eq_getElem?_getD, List.getElem?_map, Array.getElem?_toList, hc]
    rfl
  · cases r
    obtain ⟨its, rv, pl, hz⟩ := I.list hq
    have e : its.toArray.size = xs.length := by rw [List.size_toArray, ← rv.length, List.length_map]
    exact ⟨its.toArray.size, _, src_list pl.isList (by rw [e]; exact few') (val rv), by rw [e]; exact mem⟩
  · cases r
    obtain ⟨its, rv, pl, hz⟩ := I.tuple hq
    have e : its.toArray.size = xs.length := by rw [List.size_toArray, ← rv.length, List.length_map]
    exact ⟨its.toArray.size, _, src_tup pl (by rw [e]; exact few') (val rv), by rw [e]; exact mem⟩
theorem pe_srtU {a : Expr} {ta : TE} {p p2 q pos : Pos} (hc : X.calm = true) (hu : X.A.units + 200 < cLine) (hg : Gl X "sorted") (hm : X.mg "sorted" = none) (hg2 : Gl X "set") (hm2 : X.mg "set" = none) (ha : PE X a ta) (na : NS a) :
    PE X (.Call (.Name "sorted" p) [.Call (.Name "set" p2) [a] [] q] [] pos) (tSrtU X.K ta) := by
  refine ⟨fun pins s σ H Q I h => ?_⟩
  refine PyProof.Rows.Call_ (ld_blt I hg hm boot_sorted ?_)
  refine PyProof.Rows.callWith_builtin1 (PyProof.Rows.args_cons ?_ rfl) rfl rfl
  refine PyProof.Rows.Call_ (ld_blt I hg2 hm2 boot_set ?_)
  refine PyProof.Rows.callWith_type1 (PyProof.Rows.args_cons (thn (ha.run pins s σ H _ I h) fun v s1 ⟨x, H1, I1, r1, xs, c1, hL, few, q1⟩ => PyProof.Rows.args_nil ?_) (na [] X.env)) (na [] X.env) rfl
  obtain ⟨n, f, src, mem⟩ := src_of I1 r1 c1 few
  refine setX_call (I1.ok.hd hc) src fun h' tk R k => PyProof.Rows.args_nil ?_
  have I2 : Inv X pins σ H1 { s1 with heap := h', toks := tk } := I1.kept k
  obtain ⟨ys, m1, nd, few2, cl⟩ := coll_set (X := X) (s := { s1 with heap := h', toks := tk }) R
  have hL2 : ys.length ≤ sizeLine := by rw [sizeLine_eq]; unfold scanBound at few2; omega
  refine call_sorted (I1.ok.hd hc) cl hL2 (by omega) fun s' p out n k g o hp hg e => ?_
  have ey : srt ys = srtU xs := srtU_of nd fun y => (m1 y).trans (mem y)
  rw [ey] at e
  obtain ⟨hn, J⟩ := inv_new (o := .lst ((srtU xs).map V.str)) I2 k g o hp fun H' => ⟨by rw [← ey, List.length_map, srt_len]; exact hL2, out, n, vals_strs e, hg⟩
  exact ⟨.ref p, _, J, rfl, q1 p hn⟩
end
end Fs

/-! F6: built-ins, items, own lists and dicts. -/
namespace Fs
open PySem PySem.Spec L2

section
variable {X : Cx} {W : WX} {ρ ρ' ρ1 ρ2 : Env} {e a b o : Expr} {d d1 d2 : D} {t t1 t2 : T} {pos p apos : Pos} {Po : Post} {N : List Str} {scp : Scope} {vs ls : List Nat} {gs : List Str} {es : List Expr} {ds : List D} {ts : List T}
theorem Room.u200 {k : Nat} {A : Around} (r : Room k A) : A.units + 200 < cLine := by have := r.un; omega
/-! ### built-ins called by name -/
theorem ep_callB {x : Str} {id : String} {r : List V → Hp → VK → Prop} (hc : CallR X (.builtin id) r) (Sc : Sco X N scp vs ls gs) (j : Nat) (hg : gs[j]? = some x) (hm : X.mg x = none) (hv : bootBuiltins x = some (.builtin id)) (ha : AP X ρ (e :: es) (ds.map .fz)) (hn : NS e)
    (hpl : (backTo pos (starEach es X.env)).any (·.1) = false) (k : ∀ (H S : Hp) (L : OH) (vs : List V) (Q : VK), HI H S L → Rps X.K S ds vs → (∀ v H' S' G, Same S S' → HI H' S' (G ++ L) → RT X.K S' t v G → Q v H') → r vs H Q) : EP X ρ (.Call (.Name x p) (e :: es) [] pos) t := by
  obtain ⟨g1, g2, g3⟩ := Sc.glo j x hg
  refine ep_of (pe_callB hc g1 hm hv ha.pa g3 g2 (hn _ _) hpl) fun σ H S O R p Q q => useAP (es := e :: es) p fun us H1 S1 sm p1 r1 => ?_
  exact k H1 S1 _ us Q p1.hi r1 fun v H' S' G sm2 hi ht => q v H' S' G (sm.trans sm2) hi ht
theorem ep_callTy {x : Str} {id : String} {r : List V → Hp → VK → Prop} (hc : CallR X (.type id) r) (Sc : Sco X N scp vs ls gs) (j : Nat) (hg : gs[j]? = some x) (hm : X.mg x = none) (hv : bootBuiltins x = some (.type id)) (ha : AP X ρ (e :: es) (ds.map .fz)) (hn : NS e)
    (hpl : (backTo pos (starEach es X.env)).any (·.1) = false) (k : ∀ (H S : Hp) (L : OH) (vs : List V) (Q : VK), HI H S L → Rps X.K S ds vs → (∀ v H' S' G, Same S S' → HI H' S' (G ++ L) → RT X.K S' t v G → Q v H') → r vs H Q) : EP X ρ (.Call (.Name x p) (e :: es) [] pos) t := by
  obtain ⟨g1, g2, g3⟩ := Sc.glo j x hg
  refine ep_of (pe_callTy hc g1 hm hv ha.pa g3 g2 (hn _ _) hpl) fun σ H S O R p Q q => useAP (es := e :: es) p fun us H1 S1 sm p1 r1 => ?_
  exact k H1 S1 _ us Q p1.hi r1 fun v H' S' G sm2 hi ht => q v H' S' G (sm.trans sm2) hi ht
/-- texts in a list, a tuple, a text: what goes through them meets -/
inductive Txts : D → List Str → Prop
  | lst (xs : List Str) : Txts (.lst (xs.map .str)) xs
  | rol (xs : List Str) : Txts (.rol (xs.map .str)) xs
  | tup (xs : List Str) : Txts (.tup (xs.map .str)) xs
  | str (z : Str) (h : z.cps.size ≤ sizeLine) : Txts (.str z) (z.cps.toList.map sgn)
theorem rps_strs {K : PySem.W.Frag} {S : Hp} : ∀ {xs : List Str} {vs : List V}, Rps K S (xs.map .str) vs → vs = xs.map V.str
  | [], _, h => h
  | x :: xs, _, ⟨v, r, h1, h2, h3⟩ => by rw [h1, rps_strs h3, show v = V.str x from h2]; rfl
theorem rps_ints {K : PySem.W.Frag} {S : Hp} : ∀ {xs : List Int} {vs : List V}, Rps K S (xs.map .int) vs → vs = xs.map V.int
  | [], _, h => h
  | x :: xs, _, ⟨v, r, h1, h2, h3⟩ => by rw [h1, rps_ints h3, show v = V.int x from h2]; rfl
theorem rps_bls {K : PySem.W.Frag} {S : Hp} : ∀ {xs : List Bool} {vs : List V}, Rps K S (xs.map .bl) vs → vs = xs.map V.bl
  | [], _, h => h
  | x :: xs, _, ⟨v, r, h1, h2, h3⟩ => by rw [h1, rps_bls h3, show v = V.bl x from h2]; rfl
theorem Txts.col {K : PySem.W.Frag} {S H : Hp} {xs : List Str} {v : V} (t : Txts d xs) (e : Same S H) (r : Rp K S d v) : ColV K H v xs := by
  cases t with
  | lst =>
    obtain ⟨a, us, e1, e2, e3⟩ := r
    exact .inr ⟨a, e1, .inl (.inl (.inl (by rw [← rps_strs e3]; exact e _ _ e2)))⟩
  | rol =>
    obtain ⟨a, us, e1, e2, e3⟩ := r
    exact .inr ⟨a, e1, .inl (by rw [← rps_strs e3]; exact Same.seq e e2)⟩
  | tup =>
    obtain ⟨a, us, e1, e2, e3⟩ := r
    exact .inr ⟨a, e1, .inr (by rw [← rps_strs e3]; exact same_seqT e e2)⟩
  | str z h => exact .inl ⟨z, r, rfl, h⟩
theorem rt_strs {K : PySem.W.Frag} {S : Hp} : ∀ xs : List Str, RTs K S (xs.map fun x => .fz (.str x)) (xs.map V.str) []
  | [] => ⟨rfl, rfl⟩
  | x :: xs => ⟨_, _, [], [], rfl, rfl, ⟨rfl, rfl⟩, rt_strs xs⟩
theorem ep_sorted {xs : List Str} (hr : Room 0 X.A) (Sc : Sco X N scp vs ls gs) (j : Nat) (hg : gs[j]? = some (Str.ofString "sorted")) (hm : X.mg (Str.ofString "sorted") = none) (ha : EA X ρ a d) (ht : Txts d xs) (hL : xs.length ≤ sizeLine) (hn : NS a := by intro _ _; rfl) :
    EP X ρ (.Call (.Name (Str.ofString "sorted") p) [a] [] pos) (.lst ((srt xs).map fun x => .fz (.str x))) :=
  ep_callB (cr_srt Sc.calm (Room.u200 hr)) Sc j hg hm boot_sorted (ap1 ha hn) hn rfl fun H S L us Q hi r q => by
    obtain ⟨v, rfl, h1⟩ := r.one
    exact ⟨v, xs, rfl, ht.col hi.same h1, hL, fun p np => q _ _ S [(p, _)] (Same.refl S) (hi.newO np) ⟨p, _, [], rfl, rfl, rt_strs _⟩⟩
theorem ep_srtU {xs : List Str} {q2 p2 : Pos} (hr : Room 0 X.A) (Sc : Sco X N scp vs ls gs) (j i : Nat) (hg : gs[j]? = some (Str.ofString "sorted")) (hm : X.mg (Str.ofString "sorted") = none) (hg2 : gs[i]? = some (Str.ofString "set")) (hm2 : X.mg (Str.ofString "set") = none) (ha : EA X ρ a d) (ht : Txts d xs) (hL : xs.length ≤ sizeLine) (few : Few xs) (hn : NS a := by intro _ _; rfl) :
    EP X ρ (.Call (.Name (Str.ofString "sorted") p) [.Call (.Name (Str.ofString "set") p2) [a] [] q2] [] pos) (.lst ((srtU xs).map fun x => .fz (.str x))) :=
  ep_of (pe_srtU Sc.calm (Room.u200 hr) (Sc.glo j _ hg).1 hm (Sc.glo i _ hg2).1 hm2 ha.pe hn) fun σ H S O R p Q k => useA p fun v H1 S1 sm p1 r => ⟨xs, ht.col p1.hi.same r, hL, few, fun p np => k _ _ S1 [(p, _)] sm (p1.hi.newO np) ⟨p, _, [], rfl, rfl, rt_strs _⟩⟩
/-- sep.join(texts) -/
theorem ea_join {sep : Str} {xs : List Str} (ho : EA X ρ o (.str sep)) (he : EA X ρ e d) (ht : d = .lst (xs.map .str) ∨ d = .tup (xs.map .str)) (hl : (xs.map (·.length)).sum + xs.length * sep.length ≤ 16777216) (hn : NS e := by intro _ _; rfl)
    (hbase : attributeBase o (Str.ofString "join") X.env (eval o X.env) = eval o X.env := by rfl) (hline : (apos.endLine == pos.line) = true := by rfl) : EA X ρ (.Call (.Attribute o (Str.ofString "join") apos) [e] [] pos) (.str (Txt.join sep xs)) :=
  ep_of (pe_join ho.pe he.pe (hn [] X.env) hbase hline) fun σ H S O R p Q k => useA p fun v H1 S1 sm p1 r => ⟨⟨_, r⟩, useA p1 fun v2 H2 S2 sm2 p2 r2 => by
    have col : ∃ q, v2 = .ref q ∧ (SqL X.K H2 q (xs.map V.str) ∨ SqT X.K H2 q (xs.map V.str)) := by
      rcases ht with rfl | rfl
      · obtain ⟨q, us, e1, e2, e3⟩ := r2
        exact ⟨q, e1, .inl (.inl (.inl (by rw [← rps_strs e3]; exact p2.hi.same _ _ e2)))⟩
      · obtain ⟨q, us, e1, e2, e3⟩ := r2
        exact ⟨q, e1, .inr (by rw [← rps_strs e3]; exact same_seqT p2.hi.same e2)⟩
    obtain ⟨q, e1, e2⟩ := col
    exact ⟨sep, q, xs, r, by rw [e1], e2, hl, k _ H2 S2 [] (sm.trans sm2) p2.hi ⟨rfl, rfl⟩⟩⟩
/-- tuple(list), list(tuple or list) -/
theorem boot_tuple' : bootBuiltins "tuple" = some (.type "tuple") := by decide +kernel
theorem boot_list' : bootBuiltins "list" = some (.type "list") := by decide +kernel
theorem ep_tuple (Sc : Sco X N scp vs ls gs) (j : Nat) (hg : gs[j]? = some (Str.ofString "tuple")) (hm : X.mg (Str.ofString "tuple") = none) (ha : EA X ρ a (.lst ds)) (hn : NS a := by intro _ _; rfl) : EA X ρ (.Call (.Name (Str.ofString "tuple") p) [a] [] pos) (.tup ds) :=
  ep_callTy call_tuple_of Sc j hg hm boot_tuple' (ap1 ha hn) hn rfl fun H S L us Q hi r q => by
    obtain ⟨v, rfl, a, us, e1, e2, e3⟩ := r.one
    exact ⟨a, us, by rw [e1], .inl ⟨.inl (.inl (hi.same _ _ e2)), fun l nl => q _ _ (upd S l (.tup us)) [] (same_new (hi.free nl)) (hi.new nl) ⟨⟨l, us, rfl, .inl (.inl upd_same), e3.mono (same_new (hi.free nl))⟩, rfl⟩⟩⟩
theorem ep_list (Sc : Sco X N scp vs ls gs) (j : Nat) (hg : gs[j]? = some (Str.ofString "list")) (hm : X.mg (Str.ofString "list") = none) (ha : EA X ρ a d) (hd : d = .lst ds ∨ d = .tup ds ∨ d = .rol ds) (hn : NS a := by intro _ _; rfl) : EP X ρ (.Call (.Name (Str.ofString "list") p) [a] [] pos) (.lst (ds.map .fz)) :=
  ep_callTy call_list_of Sc j hg hm boot_list' (ap1 ha hn) hn rfl fun H S L us Q hi r q => by
    obtain ⟨v, rfl, h1⟩ := r.one
    rcases hd with rfl | rfl | rfl
    · obtain ⟨a, us, e1, e2, e3⟩ := h1
      exact ⟨a, us, by rw [e1], .inl (.inl (.inl (hi.same _ _ e2))), fun l nl => q _ _ S [(l, .lst us)] (Same.refl S) (hi.newO nl) ⟨l, us, [], rfl, rfl, e3.ts⟩⟩
    · obtain ⟨a, us, e1, e2, e3⟩ := h1
      exact ⟨a, us, by rw [e1], .inr (same_seqT hi.same e2), fun l nl => q _ _ S [(l, .lst us)] (Same.refl S) (hi.newO nl) ⟨l, us, [], rfl, rfl, e3.ts⟩⟩
    · obtain ⟨a, us, e1, e2, e3⟩ := h1
      exact ⟨a, us, by rw [e1], .inl (Same.seq hi.same e2), fun l nl => q _ _ S [(l, .lst us)] (Same.refl S) (hi.newO nl) ⟨l, us, [], rfl, rfl, e3.ts⟩⟩
/-- len(x) -/
inductive LenD : D → Int → Prop
  | lst (ds : List D) : LenD (.lst ds) ds.length
  | rol (ds : List D) : LenD (.rol ds) ds.length
  | tup (ds : List D) : LenD (.tup ds) ds.length
  | str (z : Str) (h : z.length ≤ sizeLine) : LenD (.str z) z.length
theorem ea_len {n : Int} (Sc : Sco X N scp vs ls gs) (j : Nat) (hg : gs[j]? = some (Str.ofString "len")) (hm : X.mg (Str.ofString "len") = none) (ha : EA X ρ a d) (hd : LenD d n) (hn : NS a := by intro _ _; rfl) : EA X ρ (.Call (.Name (Str.ofString "len") p) [a] [] pos) (.int n) :=
  ep_callB call_len Sc j hg hm boot_len (ap1 ha hn) hn rfl fun H S L us Q hi r q => by
    obtain ⟨v, rfl, h1⟩ := r.one
    have fin : ∀ m : Nat, (m : Int) = n → Q (.int m) H := fun m e => by rw [e]; exact q _ H S [] (Same.refl S) hi ⟨rfl, rfl⟩
    cases hd with
    | lst ds =>
      obtain ⟨a, us, rfl, e2, e3⟩ := h1
      exact ⟨_, ds.length, rfl, .inl ⟨us, .inl (.inl (hi.same _ _ e2)), e3.len.symm⟩, fin _ rfl⟩
    | rol ds =>
      obtain ⟨a, us, rfl, e2, e3⟩ := h1
      exact ⟨_, ds.length, rfl, .inl ⟨us, Same.seq hi.same e2, e3.len.symm⟩, fin _ rfl⟩
    | tup ds =>
      obtain ⟨a, us, rfl, e2, e3⟩ := h1
      exact ⟨_, ds.length, rfl, .inr ⟨us, same_seqT hi.same e2, e3.len.symm⟩, fin _ rfl⟩
    | str z h =>
      rw [show v = .str z from h1]
      exact ⟨_, z.length, rfl, ⟨h, rfl⟩, fin _ rfl⟩
/-! ### items -/
theorem ea_ix {dz : D} {i : Int} (ha : EA X ρ a dz) (hb : EA X ρ b (.int i)) (hd : (dz = .lst ds ∨ dz = .tup ds ∨ dz = .rol ds)) (hi : atI ds i = some d) (hs : PlainIx b := by intro _ _; rfl) : EA X ρ (.Subscript a b pos) d := by
  have at' : ∀ {K : PySem.W.Frag} {S : Hp} {us : List V}, Rps K S ds us → ∃ w, atI us i = some w ∧ Rp K S d w := fun {K S us} r => by
    unfold atI at hi ⊢
    rw [r.len]
    cases q : ixN ds.length i with
    | none => rw [q] at hi; cases hi
    | some j => rw [q] at hi; exact r.get hi
  rcases hd with rfl | rfl | rfl
  · exact ep_of (pe_ix ix_list ha.pe hb.pe hs) fun σ H S O R p Q k => useA p fun v1 H1 S1 sm1 p1 r1 => useA p1 fun v2 H2 S2 sm2 p2 r2 => by
      obtain ⟨c, us, e1, e2, e3⟩ := r1.mono sm2
      obtain ⟨w, w1, w2⟩ := at' e3
      exact ⟨c, us, i, w, e1, r2, .inl (.inl (p2.hi.same _ _ e2)), w1, k _ H2 S2 [] (sm1.trans sm2) p2.hi ⟨w2, rfl⟩⟩
  · exact ep_of (pe_ix ix_tup ha.pe hb.pe hs) fun σ H S O R p Q k => useA p fun v1 H1 S1 sm1 p1 r1 => useA p1 fun v2 H2 S2 sm2 p2 r2 => by
      obtain ⟨c, us, e1, e2, e3⟩ := r1.mono sm2
      obtain ⟨w, w1, w2⟩ := at' e3
      exact ⟨c, us, i, w, e1, r2, same_seqT p2.hi.same e2, w1, k _ H2 S2 [] (sm1.trans sm2) p2.hi ⟨w2, rfl⟩⟩
  · exact ep_of (pe_ix ix_list ha.pe hb.pe hs) fun σ H S O R p Q k => useA p fun v1 H1 S1 sm1 p1 r1 => useA p1 fun v2 H2 S2 sm2 p2 r2 => by
      obtain ⟨c, us, e1, e2, e3⟩ := r1.mono sm2
      obtain ⟨w, w1, w2⟩ := at' e3
      exact ⟨c, us, i, w, e1, r2, Same.seq p2.hi.same e2, w1, k _ H2 S2 [] (sm1.trans sm2) p2.hi ⟨w2, rfl⟩⟩
theorem ea_ixS {z : Str} {i : Int} {c : Nat} (ha : EA X ρ a (.str z)) (hb : EA X ρ b (.int i)) (hl : z.length ≤ sizeLine) (hi : atI z.cps.toList i = some c) (hs : PlainIx b := by intro _ _; rfl) : EA X ρ (.Subscript a b pos) (.str (sgn c)) :=
  ep_of (pe_ix ix_str ha.pe hb.pe hs) fun σ H S O R p Q k => useA p fun v1 H1 S1 sm1 p1 r1 => useA p1 fun v2 H2 S2 sm2 p2 r2 =>
    ⟨z, i, c, r1, r2, hl, hi, k _ H2 S2 [] (sm1.trans sm2) p2.hi ⟨rfl, rfl⟩⟩

/-! ### an own slot's node changed -/
theorem slot_mut {K : PySem.W.Frag} {σ : L2.St} {H S : Hp} {G O R : OH} {i : Nat} {t0 : T} (hi : HI H S (G ++ (O ++ R))) (hr : Rho K S ρ σ O) (h : ρ[i]? = some (some t0)) :
    ∃ v P, σ[i]? = some (some v) ∧ RT K S t0 v P ∧ (∀ q ∈ P, H q.1 = some q.2) ∧ (∀ (p : Addr) (o o' : HO) (P' P'' G' : OH) (t' : T), P = (p, o) :: P' → (P' ++ G).Perm (P'' ++ G') → RT K S t' v ((p, o') :: P'') →
      ∃ O'', HI (upd H p o') S (G' ++ (O'' ++ R)) ∧ Rho K S (ρ.set i (some t')) σ O'') := by
  obtain ⟨v, P, O2, e1, e2, e3, e4⟩ := hr.take h
  have hlt : i < ρ.length := (List.getElem?_eq_some_iff.mp h).1
  have hi1 : HI H S (P ++ (O2 ++ (G ++ R))) := hi.perm (by
    refine (perm_sw G O R).trans ?_
    refine (List.Perm.append_right _ e4).trans ?_
    rw [List.append_assoc])
  refine ⟨v, P, e1, e2, fun q hq => (hi1.at_ q (List.mem_append_left _ hq)).1, fun p o o' P' P'' G' t' eP pm ht => ?_⟩
  subst eP
  have hi2 : HI (upd H p o') S ((p, o') :: (P' ++ (O2 ++ (G ++ R)))) := hi1.put
  obtain ⟨O3, r1, r2⟩ := Rho.put (i := i) (σ := σ) (v := v) e3 (by simp [hlt]) ht
  rw [List.set_set] at r1
  have es : σ.set i (some v) = σ := by
    obtain ⟨z1, z2⟩ := List.getElem?_eq_some_iff.mp e1
    rw [← z2]; exact List.set_getElem_self z1
  rw [es] at r1
  refine ⟨O3, hi2.perm ?_, r1⟩
  -- (p,o') :: (P' ++ (O2 ++ (G ++ R))) ~ G' ++ (O3 ++ R)
  have s1 : (G' ++ (O3 ++ R)).Perm (G' ++ ((((p, o') :: P'') ++ O2) ++ R)) := List.Perm.append_left G' (List.Perm.append_right R r2)
  refine List.Perm.trans ?_ s1.symm
  have s2 : (P' ++ (O2 ++ (G ++ R))).Perm ((P' ++ G) ++ (O2 ++ R)) := by
    rw [List.append_assoc]
    exact List.Perm.append_left P' (perm_sw O2 G R)
  refine (List.Perm.cons (p, o') (s2.trans (List.Perm.append_right _ pm))).trans ?_
  rw [List.cons_append, List.cons_append, List.append_assoc, List.append_assoc]
  refine List.Perm.trans ?_ (List.perm_middle).symm
  exact List.Perm.cons _ (perm_sw P'' G' (O2 ++ R))
/-- x.append(e) of an own list -/
theorem et_append {x : Str} {tz : List T} (Sc : Sco X N scp vs ls gs) (i : Nat) (hv : vs.contains i = true) (hN : N[i]? = some x) (h0 : ρ[i]? = some (some (.lst tz))) (he : ET X ρ e ρ1 t) {ty : List T} (h1 : ρ1[i]? = some (some (.lst ty))) (hl : ty.length < sizeLine) (hn : NS e := by intro _ _; rfl)
    (hbase : attributeBase (.Name x p) (Str.ofString "append") X.env (eval (.Name x p) X.env) = eval (.Name x p) X.env := by rfl)
    (hfew : ((backTo pos (starEach [e] X.env)).all (fun x => !x.1) && (backToKw pos (keywordEach [] X.env)).all (fun x => x.1.isSome) && decide (([e] : List Expr).length + ([] : List Keyword).length + (if ([] : List Keyword).isEmpty then 0 else 1) < 30)) = true := by rfl)
    (hline : (apos.endLine == pos.line) = true := by rfl) : ET X ρ (.Call (.Attribute (.Name x p) (Str.ofString "append") apos) [e] [] pos) (ρ1.set i (some (.lst (ty ++ [t])))) (.fz .non) := by
  obtain ⟨v1, v2, v3⟩ := Sc.vis i x hv hN
  refine et_of (pe_bm PySem.F.plainAttrs_list PySem.F.slot_list_append PySem.F.type_list_append mt_append (pe_var (i := i) (Sc.n ▸ hN) v1 v2 v3) (at_cons he at_nil hn).pa hbase hfew hline (hn _ _) rfl) fun σ H S O R p Q k => ?_
  obtain ⟨v, P, e1, e2, e3, _⟩ := slot_mut (G := []) (show HI H S ([] ++ (O ++ R)) from p.hi) p.rho h0
  obtain ⟨q, us, P', rfl, rfl, r1⟩ := id e2
  have hq : H q = some (.lst us) := e3 (q, .lst us) (by simp)
  refine ⟨.ref q, e1, .inl ⟨rfl, us, .inl (.inl hq)⟩, S, O, R, p, fun ws H1 S1 O1 G sm hi hr ht => ?_⟩
  obtain ⟨v', P1, f1, f2, f3, f4⟩ := slot_mut hi hr h1
  rw [e1] at f1
  cases f1
  obtain ⟨q', us', P1', g1, rfl, g2⟩ := id f2
  cases g1
  obtain ⟨y, yr, G1, G2, rfl, rfl, y1, y2⟩ := ht
  obtain ⟨rfl, rfl⟩ := y2
  refine ⟨q, us', y, rfl, rfl, f3 (q, .lst us') (by simp), by rw [g2.len]; exact hl, ?_⟩
  obtain ⟨O3, z1, z2⟩ := f4 q (.lst us') (.lst (us' ++ [y])) P1' (P1' ++ (G1 ++ [])) [] (.lst (ty ++ [t])) rfl (by simp) ⟨q, us' ++ [y], P1' ++ (G1 ++ []), rfl, rfl, g2.app ⟨y, [], G1, [], rfl, rfl, y1, rfl, rfl⟩⟩
  exact k .non _ S1 O3 [] sm z1 z2 ⟨rfl, rfl⟩
end
end Fs

/-! F7: own dicts. -/
namespace Fs
open PySem PySem.Spec L2

/-! ### pairs of keys and things -/
instance keyMem (k : Key) (ks : List Key) : Decidable (k ∈ ks) := decidable_of_iff ((ks.any fun q => decide (q = k)) = true) (by
  rw [List.any_eq_true]
  exact ⟨fun ⟨x, h1, h2⟩ => of_decide_eq_true h2 ▸ h1, fun h => ⟨k, h, decide_eq_true rfl⟩⟩)
def putKs (ks : List Key) (k : Key) : List Key := if k ∈ ks then ks else ks ++ [k]
def putL {α : Type} (ks : List Key) (xs : List α) (k : Key) (y : α) : List α := if k ∈ ks then (ks.zip xs).map (fun q => if q.1 = k then y else q.2) else xs ++ [y]
def dlook {α : Type} : List Key → List α → Key → Option α
  | k' :: ks, x :: xs, k => if k' = k then some x else dlook ks xs k
  | _, _, _ => none
def dropKs (ks : List Key) (k : Key) : List Key := ks.filter fun q => decide (q ≠ k)
def dropL {α : Type} (ks : List Key) (xs : List α) (k : Key) : List α := ((ks.zip xs).filter fun q => decide (q.1 ≠ k)).map (·.2)
theorem any_zip {α : Type} {k : Key} : ∀ {ks : List Key} {xs : List α}, ks.length = xs.length → ((ks.zip xs).any fun q => decide (q.1 = k)) = decide (k ∈ ks)
  | [], [], _ => rfl
  | [], _ :: _, h => by simp at h
  | _ :: _, [], h => by simp at h
  | a :: ks, x :: xs, h => by
    rw [List.zip_cons_cons, List.any_cons, any_zip (by simpa using h)]
    by_cases c : a = k
    · simp [c]
    · simp [c]; exact fun z => absurd z.symm c
theorem zip_same {α : Type} {k : Key} {v : α} : ∀ {ks : List Key} {xs : List α}, ks.length = xs.length → (ks.zip xs).map (fun kv => if kv.1 = k then (kv.1, v) else kv) = ks.zip ((ks.zip xs).map fun q => if q.1 = k then v else q.2)
  | [], [], _ => rfl
  | [], _ :: _, h => by simp at h
  | _ :: _, [], h => by simp at h
  | a :: ks, x :: xs, h => by
    rw [List.zip_cons_cons, List.map_cons, List.map_cons, List.zip_cons_cons, zip_same (by simpa using h)]
    by_cases c : a = k <;> simp [c]
theorem putK_zip {k : Key} {v : V} {ks : List Key} {xs : List V} (h : ks.length = xs.length) : putK (ks.zip xs) k v = (putKs ks k).zip (putL ks xs k v) := by
  unfold putK putKs putL
  rw [any_zip h]
  by_cases c : k ∈ ks
  · rw [if_pos (decide_eq_true c), if_pos c, if_pos c]
    exact zip_same h
  · rw [if_neg (by simp [c]), if_neg c, if_neg c, List.zip_append h]
    rfl
theorem valV_zip {k : Key} : ∀ {ks : List Key} {xs : List V}, valV (ks.zip xs) k = dlook ks xs k
  | [], _ => by simp [valV, dlook]
  | _ :: _, [] => by simp [valV, dlook]
  | a :: ks, x :: xs => by
    rw [List.zip_cons_cons]
    unfold dlook
    by_cases c : a = k
    · rw [if_pos c, valV_pos (show (a, x).1 = k from c)]
    · rw [if_neg c, valV_neg (show ¬ (a, x).1 = k from c), valV_zip]
theorem dropK_zip {k : Key} : ∀ {ks : List Key} {xs : List V}, ks.length = xs.length → dropK (ks.zip xs) k = (dropKs ks k).zip (dropL ks xs k)
  | [], [], _ => rfl
  | [], _ :: _, h => by simp at h
  | _ :: _, [], h => by simp at h
  | a :: ks, x :: xs, h => by
    have ih := dropK_zip (k := k) (ks := ks) (xs := xs) (by simpa using h)
    unfold dropK dropKs dropL at *
    by_cases c : a = k
    · simpa [c] using ih
    · simpa [c] using ih
theorem putL_len {α : Type} {ks : List Key} {xs : List α} {k : Key} {y : α} (h : ks.length = xs.length) : (putKs ks k).length = (putL ks xs k y).length := by
  unfold putKs putL
  by_cases c : k ∈ ks
  · rw [if_pos c, if_pos c, List.length_map, List.length_zip, h]; simp
  · rw [if_neg c, if_neg c]; simp [h]
theorem dropL_len {α : Type} {k : Key} : ∀ {ks : List Key} {xs : List α}, ks.length = xs.length → (dropKs ks k).length = (dropL ks xs k).length
  | [], [], _ => rfl
  | [], _ :: _, h => by simp at h
  | _ :: _, [], h => by simp at h
  | a :: ks, x :: xs, h => by
    have ih := dropL_len (k := k) (ks := ks) (xs := xs) (by simpa using h)
    unfold dropKs dropL at *
    by_cases c : a = k
    · simpa [c] using ih
    · simpa [c] using ih
section
variable {K : PySem.W.Frag} {S : Hp}
theorem rps_dlook {d : D} {k : Key} : ∀ {ks : List Key} {ds : List D} {vs : List V}, Rps K S ds vs → dlook ks ds k = some d → ∃ v, dlook ks vs k = some v ∧ Rp K S d v
  | [], _, _, _, h => by simp [dlook] at h
  | _ :: _, [], _, _, h => by simp [dlook] at h
  | a :: ks, e :: ds, _, ⟨v, r, h1, h2, h3⟩, h => by
    subst h1
    unfold dlook at h ⊢
    by_cases c : a = k
    · rw [if_pos c] at h ⊢
      cases h
      exact ⟨v, rfl, h2⟩
    · rw [if_neg c] at h ⊢
      exact rps_dlook h3 h
theorem rps_dnone {k : Key} : ∀ {ks : List Key} {ds : List D} {vs : List V}, Rps K S ds vs → ks.length = ds.length → dlook ks ds k = none → dlook ks vs k = none
  | [], _, _, _, _, _ => by simp [dlook]
  | _ :: _, [], _, _, l, h => by simp at l
  | a :: ks, e :: ds, _, ⟨v, r, h1, h2, h3⟩, l, h => by
    subst h1
    unfold dlook at h ⊢
    by_cases c : a = k
    · rw [if_pos c] at h; cases h
    · rw [if_neg c] at h ⊢
      exact rps_dnone h3 (by simpa using l) h
theorem dlook_mem {α : Type} {k : Key} : ∀ {ks : List Key} {xs : List α}, ks.length = xs.length → (dlook ks xs k).isSome = decide (k ∈ ks)
  | [], [], _ => rfl
  | [], _ :: _, h => by simp at h
  | _ :: _, [], h => by simp at h
  | a :: ks, x :: xs, h => by
    unfold dlook
    by_cases c : a = k
    · simp [c]
    · rw [if_neg c, dlook_mem (by simpa using h)]
      simp; exact fun z => absurd z.symm c
/-- in a dict of frozen things one is exchanged -/
theorem rts_swap {d : D} {v : V} {k : Key} (h : Rp K S d v) : ∀ {ks : List Key} {ts : List T} {vs : List V} {O : OH}, RTs K S ts vs O → ks.length = ts.length →
    ∃ O1 O2, O.Perm (O1 ++ O2) ∧ RTs K S ((ks.zip ts).map fun q => if q.1 = k then T.fz d else q.2) ((ks.zip vs).map fun q => if q.1 = k then v else q.2) O1
  | [], _, _, _, _, _ => ⟨[], _, .refl _, rfl, rfl⟩
  | _ :: _, [], _, _, _, l => by simp at l
  | a :: ks, t :: ts, _, _, ⟨w, r, P1, P2, h1, h2, h3, h4⟩, l => by
    subst h1 h2
    obtain ⟨O1, O2, e1, e2⟩ := rts_swap (k := k) h h4 (show ks.length = ts.length by simpa using l)
    rw [List.zip_cons_cons, List.zip_cons_cons, List.map_cons, List.map_cons]
    by_cases c : a = k
    · rw [if_pos c, if_pos c]
      exact ⟨O1, P1 ++ O2, (List.Perm.append_left P1 e1).trans (perm_sw P1 O1 O2), v, _, [], O1, rfl, rfl, ⟨h, rfl⟩, e2⟩
    · rw [if_neg c, if_neg c]
      exact ⟨P1 ++ O1, O2, by rw [List.append_assoc]; exact List.Perm.append_left P1 e1, w, _, P1, O1, rfl, rfl, h3, e2⟩
theorem rts_put {d : D} {v : V} {k : Key} {ks : List Key} {ts : List T} {vs : List V} {O : OH} (h : Rp K S d v) (r : RTs K S ts vs O) (l : ks.length = ts.length) :
    ∃ O1 O2, O.Perm (O1 ++ O2) ∧ RTs K S (putL ks ts k (.fz d)) (putL ks vs k v) O1 := by
  unfold putL
  by_cases c : k ∈ ks
  · rw [if_pos c, if_pos c]
    exact rts_swap h r l
  · rw [if_neg c, if_neg c]
    exact ⟨O ++ [], [], by simp, r.app ⟨v, [], [], [], rfl, rfl, ⟨h, rfl⟩, rfl, rfl⟩⟩
theorem rts_drop {k : Key} : ∀ {ks : List Key} {ts : List T} {vs : List V} {O : OH}, RTs K S ts vs O → ks.length = ts.length → ∃ O1 O2, O.Perm (O1 ++ O2) ∧ RTs K S (dropL ks ts k) (dropL ks vs k) O1
  | [], _, _, _, _, _ => ⟨[], _, .refl _, rfl, rfl⟩
  | _ :: _, [], _, _, _, l => by simp at l
  | a :: ks, t :: ts, _, _, ⟨w, r, P1, P2, h1, h2, h3, h4⟩, l => by
    subst h1 h2
    obtain ⟨O1, O2, e1, e2⟩ := rts_drop (k := k) h4 (show ks.length = ts.length by simpa using l)
    unfold dropL at *
    rw [List.zip_cons_cons, List.zip_cons_cons, List.filter_cons, List.filter_cons]
    by_cases c : a = k
    · simp only [c, ne_eq, not_true_eq_false, decide_false, Bool.false_eq_true, if_false]
      exact ⟨O1, P1 ++ O2, (List.Perm.append_left P1 e1).trans (perm_sw P1 O1 O2), e2⟩
    · simp only [c, ne_eq, not_false_eq_true, decide_true, if_true, List.map_cons]
      exact ⟨P1 ++ O1, O2, by rw [List.append_assoc]; exact List.Perm.append_left P1 e1, w, _, P1, O1, rfl, rfl, h3, e2⟩
end
/-- a key as data -/
def kD : Key → D
  | .inl i => .int i
  | .inr x => .str x
theorem kD_rp {K : PySem.W.Frag} {S : Hp} {k : Key} {v : V} (h : Rp K S (kD k) v) : v = kV k := by
  cases k with
  | inl i => exact h
  | inr x => exact h
section
variable {X : Cx} {W : WX} {ρ ρ' ρ1 ρ2 : Env} {e a b o : Expr} {d d1 d2 : D} {t t1 t2 : T} {pos p apos : Pos} {Po : Post} {N : List Str} {scp : Scope} {vs ls : List Nat} {gs : List Str} {es : List Expr} {ds : List D} {ts : List T} {k : Key} {ks : List Key}
theorem ep_dnew : EP X ρ (.Dict [] [] pos) (.dct [] []) := ep_of pe_dnewK fun σ H S O R p Q q a na => q _ _ S [(a, .dK [])] (Same.refl S) (p.hi.newO na) ⟨a, [], [], rfl, rfl, ⟨rfl, rfl⟩, rfl⟩
theorem Room.u1 {A : Around} (r : Room 0 A) : A.units + 1 < cLine := by have := r.un; omega
/-- k in d, k not in d -/
theorem ep_din (hr : Room 0 X.A) (hk : EA X ρ a (kD k)) (hd : EA X ρ b (.dct ks ds)) (hm : behindInMarks .In b = false) : EA X ρ (.Compare a [.In] [b] pos) (.bl (decide (k ∈ ks))) :=
  ep_of (pe_cmp (pc_din (Room.u1 hr) hk.pe hd.pe) hm) fun σ H S O R p Q q => useA p fun v1 H1 S1 sm1 p1 r1 => useA p1 fun v2 H2 S2 sm2 p2 r2 => by
    obtain ⟨c, us, e1, e2, e3, e4⟩ := r2
    have l : ks.length = us.length := e4.trans e3.len.symm
    refine ⟨c, _, e1, .inl ⟨_, k, same_rd p2.hi.same e2, kD_rp r1, rfl⟩, ?_⟩
    rw [valV_zip, dlook_mem l]
    exact q _ H2 S2 [] (sm1.trans sm2) p2.hi ⟨rfl, rfl⟩
theorem bp_din (hr : Room 0 X.A) (hk : EA X ρ a (kD k)) (hd : EA X ρ b (.dct ks ds)) (hm : behindInMarks .In b = false) : BP X ρ (.Compare a [.In] [b] pos) (decide (k ∈ ks)) :=
  bp_of (pt_cmp (pc_din (Room.u1 hr) hk.pe hd.pe) hm) fun σ H S O R p Q q => useA p fun v1 H1 S1 sm1 p1 r1 => useA p1 fun v2 H2 S2 sm2 p2 r2 => by
    obtain ⟨c, us, e1, e2, e3, e4⟩ := r2
    have l : ks.length = us.length := e4.trans e3.len.symm
    refine ⟨c, _, e1, .inl ⟨_, k, same_rd p2.hi.same e2, kD_rp r1, rfl⟩, _, rfl, ?_⟩
    rw [valV_zip, dlook_mem l]
    exact q H2 S2 (sm1.trans sm2) p2.hi
theorem bp_dnin (hr : Room 0 X.A) (hk : EA X ρ a (kD k)) (hd : EA X ρ b (.dct ks ds)) (hm : behindInMarks .NotIn b = false) : BP X ρ (.Compare a [.NotIn] [b] pos) (!decide (k ∈ ks)) :=
  bp_of (pt_cmp (pc_dnotin (Room.u1 hr) hk.pe hd.pe) hm) fun σ H S O R p Q q => useA p fun v1 H1 S1 sm1 p1 r1 => useA p1 fun v2 H2 S2 sm2 p2 r2 => by
    obtain ⟨c, us, e1, e2, e3, e4⟩ := r2
    have l : ks.length = us.length := e4.trans e3.len.symm
    refine ⟨c, _, e1, .inl ⟨_, k, same_rd p2.hi.same e2, kD_rp r1, rfl⟩, _, rfl, ?_⟩
    rw [valV_zip, dlook_mem l]
    exact q H2 S2 (sm1.trans sm2) p2.hi
/-- d[k] -/
theorem ea_dget (hr : Room 0 X.A) (hd : EA X ρ a (.dct ks ds)) (hk : EA X ρ b (kD k)) (hl : dlook ks ds k = some d) (hs : NoSl b := by intro _ _; rfl) : EA X ρ (.Subscript a b pos) d :=
  ep_of (pe_dget (Room.u1 hr) hd.pe hk.pe hs) fun σ H S O R p Q q => useA p fun v1 H1 S1 sm1 p1 r1 => useA p1 fun v2 H2 S2 sm2 p2 r2 => by
    obtain ⟨c, us, e1, e2, e3, e4⟩ := r1.mono sm2
    obtain ⟨v, w1, w2⟩ := rps_dlook e3 hl
    exact ⟨c, v, e1, .inl ⟨_, k, same_rd p2.hi.same e2, kD_rp r2, by rw [valV_zip, w1]⟩, q _ H2 S2 [] (sm1.trans sm2) p2.hi ⟨w2, rfl⟩⟩
/-- d.get(k, x) -/
theorem ea_dget2 {f : Expr} (hr : Room 0 X.A) (hd : EA X ρ a (.dct ks ds)) (hk : EA X ρ b (kD k)) (hx : EA X ρ f d) (m : M2 X a (Str.ofString "get") apos b f pos) : EA X ρ (.Call (.Attribute a (Str.ofString "get") apos) [b, f] [] pos) ((dlook ks ds k).getD d) :=
  ep_of (pe_dget2 (Room.u1 hr) hd.pe hk.pe hx.pe m) fun σ H S O R p Q q => useA p fun v1 H1 S1 sm1 p1 r1 => by
    obtain ⟨c, us, e1, e2, e3, e4⟩ := id r1
    refine ⟨c, e1, .inl ⟨_, same_rd p1.hi.same e2⟩, useA p1 fun v2 H2 S2 sm2 p2 r2 => useA p2 fun v3 H3 S3 sm3 p3 r3 => ?_⟩
    have e3' := e3.mono (sm2.trans sm3)
    refine ⟨_, .inl ⟨_, k, same_rd p3.hi.same (same_rd (sm2.trans sm3) e2), kD_rp r2, rfl⟩, ?_⟩
    rw [valV_zip]
    cases hl : dlook ks ds k with
    | none =>
      rw [rps_dnone e3' e4 hl]
      exact q _ H3 S3 [] ((sm1.trans sm2).trans sm3) p3.hi ⟨by rw [hl]; exact r3, rfl⟩
    | some d' =>
      obtain ⟨v, w1, w2⟩ := rps_dlook e3' hl
      rw [w1]
      exact q _ H3 S3 [] ((sm1.trans sm2).trans sm3) p3.hi ⟨by rw [hl]; exact w2, rfl⟩
/-- d[k] = v, d an own dict -/
theorem s1_dput {x : Str} {tz : List T} {pos' : Pos} (hr : Room 0 X.A) (Sc : Sco X N scp vs ls gs) (i : Nat) (hv : vs.contains i = true) (hN : N[i]? = some x) (h0 : ρ[i]? = some (some (.dct ks tz))) (hk : EA X ρ b (kD k)) (he : EA X ρ e d) (hl : ks.length < sizeLine) (kp : Po.nx (ρ.set i (some (.dct (putKs ks k) (putL ks tz k (.fz d))))))
    (hs : swapsWith e (some (.Subscript (.Name x p) b pos')) pos.line X.env = pure false := by rfl) : S1 X W ρ (.Assign [.Subscript (.Name x p) b pos'] e pos) Po := by
  obtain ⟨v1, v2, v3⟩ := Sc.vis i x hv hN
  refine s1_of (ps_dput (Room.u1 hr) (pe_var (i := i) (Sc.n ▸ hN) v1 v2 v3) hk.pe he.pe hs) fun σ H S O R D p q => ?_
  refine useA p fun w H1 S1 sm1 p1 r1 => ?_
  obtain ⟨v, P, e1, _⟩ := slot_mut (G := []) (show HI H1 S1 ([] ++ (O ++ R)) from p1.hi) p1.rho h0
  refine ⟨v, e1, useA p1 fun y H2 S2 sm2 p2 r2 => ?_⟩
  obtain ⟨v', P, f1, f2, f3, f4⟩ := slot_mut (G := []) (show HI H2 S2 ([] ++ (O ++ R)) from p2.hi) p2.rho h0
  rw [e1] at f1
  cases f1
  obtain ⟨c, us, P', rfl, rfl, g2, g3⟩ := id f2
  have l : ks.length = us.length := g3.trans g2.len.symm
  obtain ⟨O1, O2, z1, z2⟩ := rts_put (k := k) (r1.mono sm2) g2 g3
  refine ⟨c, _, rfl, .inl ⟨_, k, f3 (c, _) (List.mem_cons_self), kD_rp r2, by rw [List.length_zip, l, Nat.min_self, ← l]; exact hl, rfl⟩, ?_⟩
  rw [putK_zip l]
  obtain ⟨O3, y1, y2⟩ := f4 c _ (.dK ((putKs ks k).zip (putL ks us k w))) P' O1 O2 (.dct (putKs ks k) (putL ks tz k (.fz d))) rfl (by simpa using z1) ⟨c, _, O1, rfl, rfl, z2, putL_len g3⟩
  obtain ⟨S3, sm3, hi3, _⟩ := y1.freeze
  exact q _ σ _ S3 O3 kp ((sm1.trans sm2).trans sm3) hi3 (y2.mono sm3)
/-- d.pop(k), d an own dict that has k -/
theorem et_dpop {x : Str} {tz : List T} (Sc : Sco X N scp vs ls gs) (i : Nat) (hv : vs.contains i = true) (hN : N[i]? = some x) (h0 : ρ[i]? = some (some (.dct ks tz))) (hk : EA X ρ b (kD k)) (hl : dlook ks tz k = some (.fz d)) (m : M1 X (.Name x p) (Str.ofString "pop") apos b pos) :
    ET X ρ (.Call (.Attribute (.Name x p) (Str.ofString "pop") apos) [b] [] pos) (ρ.set i (some (.dct (dropKs ks k) (dropL ks tz k)))) (.fz d) := by
  obtain ⟨v1, v2, v3⟩ := Sc.vis i x hv hN
  refine et_of (pe_dpop1 (pe_var (i := i) (Sc.n ▸ hN) v1 v2 v3) hk.pe m) fun σ H S O R p Q q => ?_
  obtain ⟨v, P, e1, e2, e3, _⟩ := slot_mut (G := []) (show HI H S ([] ++ (O ++ R)) from p.hi) p.rho h0
  obtain ⟨c, us, P', rfl, rfl, g2, g3⟩ := id e2
  refine ⟨_, e1, c, rfl, .inl ⟨_, .inl (e3 (c, _) (List.mem_cons_self))⟩, useA p fun y H1 S1 sm1 p1 r1 => ?_⟩
  obtain ⟨v', P, f1, f2, f3, f4⟩ := slot_mut (G := []) (show HI H1 S1 ([] ++ (O ++ R)) from p1.hi) p1.rho h0
  rw [e1] at f1
  cases f1
  obtain ⟨c', us', P1, y0, rfl, g4, g5⟩ := id f2
  cases y0
  have l : ks.length = us'.length := g5.trans g4.len.symm
  obtain ⟨O1, O2, z1, z2⟩ := rts_drop (k := k) g4 g5
  have look : ∀ {ks : List Key} {tz : List T} {us : List V} {O : OH}, RTs X.K S1 tz us O → dlook ks tz k = some (.fz d) → ∃ w, dlook ks us k = some w ∧ Rp X.K S1 d w := by
    intro ks
    induction ks with
    | nil => intro tz us O _ h; simp [dlook] at h
    | cons a ks ih =>
      intro tz us O r h
      cases tz with
      | nil => simp [dlook] at h
      | cons t tz =>
        obtain ⟨w, ur, Q1, Q2, rfl, rfl, h3, h4⟩ := r
        unfold dlook at h ⊢
        by_cases c : a = k
        · rw [if_pos c] at h ⊢
          cases h
          exact ⟨w, rfl, h3.1⟩
        · rw [if_neg c] at h ⊢
          exact ih h4 h
  obtain ⟨w, w1, w2⟩ := look g4 hl
  refine ⟨_, k, w, f3 (c, _) (List.mem_cons_self), kD_rp r1, by rw [valV_zip, w1], ?_⟩
  rw [dropK_zip l]
  obtain ⟨O3, y1, y2⟩ := f4 c _ (.dK ((dropKs ks k).zip (dropL ks us' k))) P1 O1 O2 (.dct (dropKs ks k) (dropL ks tz k)) rfl (by simpa using z1) ⟨c, _, O1, rfl, rfl, z2, dropL_len g5⟩
  obtain ⟨S3, sm3, hi3, _⟩ := y1.freeze
  exact q _ _ S3 O3 [] (sm1.trans sm3) hi3 (y2.mono sm3) ⟨w2.mono sm3, rfl⟩
end
end Fs

/-! F8: loops that fold; comprehensions. -/
namespace Fs
open PySem PySem.Spec L2

section
variable {X : Cx} {W : WX} {ρ ρ' ρ1 ρ2 : Env} {e a b o : Expr} {d d1 d2 : D} {t t1 t2 : T} {pos p apos : Pos} {Po : Post} {N : List Str} {scp : Scope} {vs ls : List Nat} {gs : List Str} {es : List Expr} {ds : List D} {ts : List T} {β α : Type}
theorem s1_wk {st : Stmt} (w : Wk ρ ρ') (h : S1 X W ρ' st Po) : S1 X W ρ st Po := ⟨PS.imp h.ps fun D σ H ⟨S, O, R, p, q1, q2, q3, q4, q5⟩ => by
  obtain ⟨S', O', sm, p'⟩ := p.wk w
  exact ⟨S', O', R, p', fun ρ2 σ2 H2 S2 O2 hn2 sm2 hi2 hr2 => q1 ρ2 σ2 H2 S2 O2 hn2 (sm.trans sm2) hi2 hr2, fun ρ2 σ2 H2 S2 O2 hn2 sm2 hi2 hr2 => q2 ρ2 σ2 H2 S2 O2 hn2 (sm.trans sm2) hi2 hr2,
    fun ρ2 σ2 H2 S2 O2 hn2 sm2 hi2 hr2 => q3 ρ2 σ2 H2 S2 O2 hn2 (sm.trans sm2) hi2 hr2, fun t v H2 S2 G hn2 sm2 hi2 hr2 => q4 t v H2 S2 G hn2 (sm.trans sm2) hi2 hr2,
    fun ρ2 x cls dd σ2 H2 S2 O2 hn2 sm2 hi2 hr2 hx => q5 ρ2 x cls dd σ2 H2 S2 O2 hn2 (sm.trans sm2) hi2 hr2 hx⟩⟩
/-- a weaker end -/
theorem sa_post {sts : List Stmt} {Po Po' : Post} (h : SA X W ρ sts Po) (h1 : ∀ ρ, Po.nx ρ → Po'.nx ρ) (h2 : ∀ t, Po.rt t → Po'.rt t) (h3 : ∀ ρ x, Po.ex ρ x → Po'.ex ρ x) (h4 : ∀ ρ, Po.bk ρ → Po'.bk ρ) (h5 : ∀ ρ, Po.ct ρ → Po'.ct ρ) : SA X W ρ sts Po' :=
  ⟨PSs.imp h.ps fun D σ H ⟨S, O, R, p, q1, q2, q3, q4, q5⟩ => ⟨S, O, R, p, fun ρ2 σ2 H2 S2 O2 hn2 => q1 ρ2 σ2 H2 S2 O2 (h1 _ hn2), fun ρ2 σ2 H2 S2 O2 hn2 => q2 ρ2 σ2 H2 S2 O2 (h4 _ hn2), fun ρ2 σ2 H2 S2 O2 hn2 => q3 ρ2 σ2 H2 S2 O2 (h5 _ hn2), fun t v H2 S2 G hn2 => q4 t v H2 S2 G (h2 _ hn2), fun ρ2 x cls dd σ2 H2 S2 O2 hn2 => q5 ρ2 x cls dd σ2 H2 S2 O2 (h3 _ _ hn2)⟩⟩
/-- the slots are such, or more is known -/
def Up (ρ' ρ : Env) : Prop := Wk ρ ρ'
theorem mid {xs : List β} {i : Nat} {x : β} (h : xs[i]? = some x) : xs = xs.take i ++ x :: xs.drop (i + 1) := by
  obtain ⟨hl, e⟩ := List.getElem?_eq_some_iff.mp h
  rw [← e, ← List.drop_eq_getElem_cons hl, List.take_append_drop]
/-- a loop that goes on as a fold: g the step, E the slots at a state -/
theorem s1_forF {tg iter : Expr} {body : List Stmt} (C : SC X W) (hc : X.calm = true) (xs : List β) (enc : β → D) (E : α → Env) (g : α → β → α) (a0 : α) (hI : IA X ρ tg iter (xs.map enc)) (h0 : Wk ρ (E a0))
    (ht : ∀ pre x post, xs = pre ++ x :: post → GA X tg (enc x) (E (pre.foldl g a0)) fun ρ2 => SA X W ρ2 body { Po with nx := fun ρ3 => Wk ρ3 (E (g (pre.foldl g a0) x)), ct := fun ρ3 => Wk ρ3 (E (g (pre.foldl g a0) x)), bk := Po.nx })
    (hd : ∀ ρ1, Wk ρ1 (E (xs.foldl g a0)) → Po.nx ρ1) (hs : ∀ x, foldedSetIterable iter X.env x = pure x := by intro _; rfl) : S1 X W ρ (.For tg iter body [] pos) Po := by
  refine s1_for C hc hI (fun i ρ1 => Wk ρ1 (E ((xs.take i).foldl g a0))) (by simpa using h0) (fun i d ρ1 hd' hv => ?_) (fun ρ1 hv => ?_) hs
  · rw [List.getElem?_map] at hd'
    cases q : xs[i]? with
    | none => rw [q] at hd'; cases hd'
    | some x =>
      rw [q] at hd'
      cases hd'
      have e : (xs.take (i + 1)).foldl g a0 = g ((xs.take i).foldl g a0) x := by
        rw [List.take_add_one, q, List.foldl_append]; rfl
      have h := ht (xs.take i) x _ (mid q)
      intro v σ H S O R Q p r k
      obtain ⟨S', O', sm, p'⟩ := p.wk hv
      refine h v σ H S' O' R Q p' (r.mono sm) fun ρ2 σ2 H2 S2 O2 hp sm2 hi2 hr2 => ?_
      refine k ρ2 σ2 H2 S2 O2 ?_ (sm.trans sm2) hi2 hr2
      refine sa_post hp (fun ρ3 z => ?_) (fun _ z => z) (fun _ _ z => z) (fun ρ3 z => z) (fun ρ3 z => ?_)
      · show Wk ρ3 _; rw [e]; exact z
      · show Wk ρ3 _; rw [e]; exact z
  · refine hd ρ1 ?_
    have hv' : Wk ρ1 (E ((xs.take (xs.map enc).length).foldl g a0)) := hv
    rw [List.length_map, List.take_length] at hv'
    exact hv'
/-! ### comprehensions -/
/-- the slots at vs are forgotten -/
def clr (ρ : Env) : List Nat → Env
  | [] => ρ
  | v :: vs => (clr ρ vs).set v none
theorem Rho.un {K : PySem.W.Frag} {S : Hp} {σ : L2.St} {O : OH} {v : Nat} (h : Rho K S ρ σ O) : ∃ O1 O2, O.Perm (O1 ++ O2) ∧ Rho K S (ρ.set v none) (σ.set v none) O1 := by
  cases q : ρ[v]? with
  | none =>
    have hl : ρ.length ≤ v := List.getElem?_eq_none_iff.mp q
    have hl2 : σ.length ≤ v := by rw [h.len]; exact hl
    exact ⟨O, [], by simp, by rw [List.set_eq_of_length_le hl, List.set_eq_of_length_le hl2]; exact h⟩
  | some z =>
    have hlt : v < ρ.length := (List.getElem?_eq_some_iff.mp q).1
    cases z with
    | none =>
      have : ρ.set v none = ρ := by
        obtain ⟨z1, z2⟩ := List.getElem?_eq_some_iff.mp q
        rw [← z2]; exact List.set_getElem_self z1
      exact ⟨O, [], by simp, by rw [this]; exact h.setNone q⟩
    | some t =>
      obtain ⟨w, O1, O2, e1, e2, e3, e4⟩ := h.take q
      exact ⟨O2, O1, e4.trans List.perm_append_comm, e3.setNone (by simp [hlt])⟩
theorem Rho.clr {K : PySem.W.Frag} {S : Hp} {σ : L2.St} {O : OH} (h : Rho K S ρ σ O) : ∀ vs : List Nat, ∃ O1 O2, O.Perm (O1 ++ O2) ∧ Rho K S (clr ρ vs) (wipe σ vs) O1
  | [] => ⟨O, [], by simp, h⟩
  | v :: vs => by
    obtain ⟨O1, O2, e1, e2⟩ := h.clr vs
    obtain ⟨P1, P2, f1, f2⟩ := e2.un (v := v)
    exact ⟨P1, P2 ++ O2, e1.trans (by rw [← List.append_assoc]; exact List.Perm.append_right O2 f1), f2⟩
/-- d is stored in the target, the slots aside of vs stay -/
def GW (X : Cx) (tg : Expr) (d : D) (ρ : Env) (vs : List Nat) (P : Env → Prop) : Prop := ∀ (v : V) (σ : L2.St) (H S : Hp) (O R : OH) (Q : L2.St → Hp → Prop), Pre X.K ρ σ H S O R → Rp X.K S d v →
  (∀ ρ' σ' H' S' O', P ρ' → wipe σ' vs = wipe σ vs → O'.Perm O → Same S S' → HI H' S' (O' ++ R) → Rho X.K S' ρ' σ' O' → Q σ' H') → wG X tg v σ H Q
theorem wipe_set {σ : L2.St} {i : Nat} {x : Option V} : ∀ {vs : List Nat}, i ∈ vs → wipe (σ.set i x) vs = wipe σ vs
  | [], h => by cases h
  | v :: vs, h => by
    by_cases c : i ∈ vs
    · show (wipe (σ.set i x) vs).set v none = (wipe σ vs).set v none
      rw [wipe_set c]
    · have e : i = v := by
        rcases List.mem_cons.mp h with e | e
        · exact e
        · exact absurd e c
      subst e
      show (wipe (σ.set i x) vs).set i none = (wipe σ vs).set i none
      apply List.ext_getElem?
      intro j
      by_cases cj : i = j
      · subst cj
        rw [List.getElem?_set_self', List.getElem?_set_self', wipe_out c, wipe_out c]
        by_cases l : i < σ.length
        · simp [l]
        · rw [List.set_eq_of_length_le (by omega)]
      · rw [List.getElem?_set_ne cj, List.getElem?_set_ne cj]
        exact wipe_get cj
  where wipe_get {σ : L2.St} {i j : Nat} {x : Option V} (cj : i ≠ j) : ∀ {vs : List Nat}, (wipe (σ.set i x) vs)[j]? = (wipe σ vs)[j]?
    | [] => List.getElem?_set_ne cj
    | v :: vs => by
      show ((wipe (σ.set i x) vs).set v none)[j]? = ((wipe σ vs).set v none)[j]?
      by_cases c : v = j
      · subst c
        rw [List.getElem?_set_self', List.getElem?_set_self', wipe_get cj]
      · rw [List.getElem?_set_ne c, List.getElem?_set_ne c]
        exact wipe_get cj
theorem wipe_at {σ : L2.St} {j : Nat} : ∀ {vs : List Nat}, j ∈ vs → (wipe σ vs)[j]? = if j < σ.length then some none else none
  | v :: vs, h => by
    show ((wipe σ vs).set v none)[j]? = _
    by_cases c : v = j
    · subst c
      by_cases l : v < σ.length
      · rw [List.getElem?_set_self (by rw [wipe_length]; exact l), if_pos l]
      · rw [List.getElem?_eq_none (by rw [List.length_set, wipe_length]; omega), if_neg l]
    · rw [List.getElem?_set_ne c]
      rcases List.mem_cons.mp h with e | e
      · exact absurd e.symm c
      · exact wipe_at e
theorem wipe_wipe {σ : L2.St} {vs : List Nat} : wipe (wipe σ vs) vs = wipe σ vs := by
  apply List.ext_getElem?
  intro j
  by_cases c : j ∈ vs
  · rw [wipe_at c, wipe_at c, wipe_length]
  · rw [wipe_out c]
theorem gw_name {x : Str} {P : Env → Prop} {own : List Nat} (Sc : Sco X N scp vs ls gs) (i : Nat) (hl : ls.contains i = true) (hN : N[i]? = some x) (hno : ρ[i]? = some none) (hi : i ∈ own) (k : P (ρ.set i (some (.fz d)))) : GW X (.Name x pos) d ρ own P := by
  obtain ⟨l1, l2⟩ := Sc.loc i x hl hN
  intro v σ H S O R Q p r q pins s u I rv
  refine (pg_name (i := i) Sc.nd (Sc.n ▸ hN) l1 l2).run pins s σ H v u Q I rv ?_
  obtain ⟨O2, r1, r2⟩ := Rho.put (i := i) (t := .fz d) (v := v) (O1 := []) p.rho hno ⟨r, rfl⟩
  exact q _ _ _ _ _ k (wipe_set hi) r2 (Same.refl S) (p.hi.perm (List.Perm.append_right R r2.symm)) r1
def GWs (X : Cx) (tgs : List Expr) (ds : List D) (ρ : Env) (vs : List Nat) (P : Env → Prop) : Prop := ∀ (us : List V) (σ : L2.St) (H S : Hp) (O R : OH) (Q : L2.St → Hp → Prop), Pre X.K ρ σ H S O R → Rps X.K S ds us →
  (∀ ρ' σ' H' S' O', P ρ' → wipe σ' vs = wipe σ vs → O'.Perm O → Same S S' → HI H' S' (O' ++ R) → Rho X.K S' ρ' σ' O' → Q σ' H') → wGs X tgs us σ H Q
theorem gws_nil {P : Env → Prop} {own : List Nat} (k : P ρ) : GWs X [] [] ρ own P := fun vs σ H S O R Q p r q pins s us I rv => pgs_nil.run pins s σ H vs us Q I rv ⟨r, q ρ σ H S O k rfl (.refl _) (Same.refl S) p.hi p.rho⟩
theorem gws_cons {tg : Expr} {tgs : List Expr} {ds : List D} {P : Env → Prop} {own : List Nat} (h : GW X tg d ρ own fun ρ1 => GWs X tgs ds ρ1 own P) (hs : (assignEach (tg :: tgs) X.env).map (·.2) = assign tg X.env :: (assignEach tgs X.env).map (·.2) := by rfl) : GWs X (tg :: tgs) (d :: ds) ρ own P := fun vs σ H S O R Q p r q pins s us I rv => by
  refine (pgs_cons (wG_pg X tg) (wGs_pg X tgs) hs).run pins s σ H vs us Q I rv ?_
  obtain ⟨v, r', e1, r1, r2⟩ := r
  refine ⟨v, r', e1, h v σ H S O R _ p r1 fun ρ1 σ1 H1 S1 O1 hp w1 pm1 sm hi hr => ?_⟩
  exact hp r' σ1 H1 S1 O1 R Q ⟨hi, hr⟩ (r2.mono sm) fun ρ2 σ2 H2 S2 O2 hp2 w2 pm2 sm2 hi2 hr2 => q ρ2 σ2 H2 S2 O2 hp2 (w2.trans w1) (pm2.trans pm1) (sm.trans sm2) hi2 hr2
theorem gw_tup {es : List Expr} {ds : List D} {kk : Nat} {P : Env → Prop} {own : List Nat} (hc : X.calm = true) (h : GWs X es ds ρ own P) (hl : es.length = ds.length)
    (hn : (assignEach es X.env).length = es.length := by rfl) (hst : (assignEach es X.env).findIdx? (·.1) = none := by rfl) : GW X (.Tuple es kk pos) (.tup ds) ρ own P := fun v σ H S O R Q p r q pins s u I rv => by
  refine (pg_tup (n := es.length) hc (wGs_pg X es) hn hst).run pins s σ H v u Q I rv ?_
  obtain ⟨a, xs, e1, e2, e3⟩ := r
  exact ⟨a, xs, e1, same_seqT p.hi.same e2, by rw [e3.len]; exact hl.symm, h xs σ H S O R Q p e3 q⟩
/-- a clause's tests -/
structure IP (X : Cx) (ρ : Env) (ifs : List Expr) (b : Bool) : Prop where
  pt : PTs X ifs (tPT X.K ρ b)
theorem ip_nil : IP X ρ [] true := ⟨⟨fun pins s σ H Q I ⟨S, O, R, p, q⟩ => pts_nil.run pins s σ H Q I (q H S (Same.refl S) p.hi)⟩⟩
theorem ip_one {c : Bool} (h : BP X ρ e c) : IP X ρ [e] c := ⟨pts_one h.pt⟩
/-- the surroundings in the block -/
abbrev bk (X : Cx) (scope : Scope) (s : Shared) (H : Hp) (C : Addr) (cl : List (Str × Addr)) (fp : List Addr) : Cx := X.blk s H scope (compEnvC scope cl C X.env) fp
def cG (X : Cx) (scope : Scope) (tg : Expr) : TG := fun v σ H Q => ∀ s0 H0 C cl fp, wG (bk X scope s0 H0 C cl fp) tg v σ H Q
def cI (X : Cx) (scope : Scope) (ifs : List Expr) : TT := fun σ H Q => ∀ s0 H0 C cl fp (pins : List (Addr × Obj)) (s : Shared), Inv (bk X scope s0 H0 C cl fp) pins σ H s → 
    wpAny (model X.prog X.w) X.A (forIn ifs true fun c r => if r = true then do let ok ← isTrue c (bk X scope s0 H0 C cl fp).env (eval c (bk X scope s0 H0 C cl fp).env); pure (ForInStep.yield ok) else pure (ForInStep.yield r)) (TP (bk X scope s0 H0 C cl fp) pins σ Q) (bk X scope s0 H0 C cl fp).xe s
def cE (X : Cx) (scope : Scope) (e : Expr) : TE := fun σ H Q => ∀ s0 H0 C cl fp (pins : List (Addr × Obj)) (s : Shared), Inv (bk X scope s0 H0 C cl fp) pins σ H s → wpAny (model X.prog X.w) X.A (eval e (bk X scope s0 H0 C cl fp).env) (L2.EP (bk X scope s0 H0 C cl fp) pins σ Q) (bk X scope s0 H0 C cl fp).xe s
/-- e gives t where C holds of what is known -/
def tPc (K : PySem.W.Frag) (ρ : Env) (Cn : L2.St → Hp → Prop) (t : T) : TE := fun σ H Q => ∃ S O R, Pre K ρ σ H S O R ∧ Cn σ S ∧
  ∀ v H' S' G, Same S S' → HI H' S' (G ++ (O ++ R)) → RT K S' t v G → Q v H'
def tIc (K : PySem.W.Frag) (ρ : Env) (Cn : L2.St → Hp → Prop) (ds : List D) : TI := fun σ H Q => ∃ S O R, Pre K ρ σ H S O R ∧ Cn σ S ∧ ∀ J H' S', Same S S' → HI H' S' (O ++ R) → ItOk K J S' ds → Q J H'
theorem lc_tr {Cn : L2.St → Hp → Prop} {elt tg : Expr} {ifs : List Expr} {scope : Scope} (own : List (Str × Nat)) (xs : List β) (enc : β → D) (pr : β → Bool) (f : β → T)
    (hb : ∀ s0 H0 C cl fp x, x ∈ xs → GW (bk X scope s0 H0 C cl fp) tg (enc x) (clr ρ (own.map (·.2))) (own.map (·.2)) fun ρ2 => clr ρ2 (own.map (·.2)) = clr ρ (own.map (·.2)) ∧ ∀ s0 H0 C cl fp, IP (bk X scope s0 H0 C cl fp) ρ2 ifs (pr x) ∧ (pr x = true → Fs.EP (bk X scope s0 H0 C cl fp) ρ2 elt (f x)))
    (hl : xs.length ≤ sizeLine) {σ : L2.St} {H : Hp} {Q : VK} (h : tPc X.K ρ Cn (.lst ((xs.filter pr).map f)) σ H Q) : tLc (tIc X.K ρ Cn (xs.map enc)) (cG X scope tg) (cI X scope ifs) (cE X scope elt) (own.map (·.2)) σ H Q := by
  obtain ⟨S, O, R, p, cn, k⟩ := h
  refine ⟨S, O, R, p, cn, fun J H1 S1 sm1 hi1 io D nD => ?_⟩
  obtain ⟨O1, O2, e1, e2⟩ := (p.rho.mono sm1).clr (own.map (·.2))
  refine ⟨fun i m H' => i + m = xs.length ∧ ∃ S' G acc, Same S1 S' ∧ HI H' S' ((D, .lst acc) :: (G ++ (O1 ++ (O2 ++ R)))) ∧ RTs X.K S' (((xs.take i).filter pr).map f) acc G, ⟨xs.length, by omega, S1, [], [], Same.refl _, ?_, rfl, rfl⟩, fun i m H' ⟨em, S', G, acc, sm2, hi2, ht2⟩ => ?_⟩
  · refine (hi1.newO nD).perm (List.Perm.cons _ ?_)
    rw [List.nil_append, ← List.append_assoc]
    exact List.Perm.append_right R e1
  · by_cases hlt : i < xs.length
    · have hx : xs[i]? = some xs[i] := by simp [hlt]
      have tk : (xs.take (i + 1)).filter pr = (xs.take i).filter pr ++ (if pr xs[i] = true then [xs[i]] else []) := by
        rw [List.take_add_one, hx, List.filter_append]
        cases q : pr xs[i] <;> simp [q]
      refine .inr ⟨io.go i H' S' _ hi2 sm2 (by simpa using hlt), fun H3 => ∃ S' G acc, Same S1 S' ∧ HI H3 S' ((D, .lst acc) :: (G ++ (O1 ++ (O2 ++ R)))) ∧ RTs X.K S' (((xs.take (i + 1)).filter pr).map f) acc G, fun H3 ⟨S3, G3, acc3, z⟩ => ⟨m - 1, by omega, by omega, S3, G3, acc3, z⟩, fun x H3 hy => ?_⟩
      obtain ⟨S3, sm3, hi3, rx⟩ := io.yld i H' S' _ x H3 (enc xs[i]) hi2 sm2 hy (by rw [List.getElem?_map, hx]; rfl)
      intro s0 H0 C cl fp
      have hi3' : HI H3 S3 (O1 ++ ((D, .lst acc) :: (G ++ (O2 ++ R)))) := hi3.perm (by
        refine List.Perm.trans ?_ (List.perm_middle).symm
        exact List.Perm.cons _ (perm_sw G O1 (O2 ++ R)))
      refine hb s0 H0 C cl fp xs[i] (List.getElem_mem hlt) x (wipe σ (own.map (·.2))) H3 S3 O1 ((D, .lst acc) :: (G ++ (O2 ++ R))) _ ⟨hi3', e2.mono (sm2.trans sm3)⟩ rx fun ρ2 σ2 H4 S4 O4 hp w4 pm4 sm4 hi4 hr4 => ?_
      obtain ⟨c1, c2⟩ := hp
      refine ⟨w4.trans wipe_wipe, ?_⟩
      intro s0 H0 C cl fp pins s I
      have ord : ∀ (A : Addr × HO) (B Z : OH), (O4 ++ (A :: (B ++ Z))).Perm (A :: (B ++ (O1 ++ Z))) := fun A B Z => by
        refine (List.Perm.append_right _ pm4).trans (List.perm_middle.trans (List.Perm.cons _ (perm_sw O1 B Z)))
      refine (c2 s0 H0 C cl fp).1.pt.run pins s σ2 H4 _ I ⟨S4, O4, (D, .lst acc) :: (G ++ (O2 ++ R)), ⟨hi4, hr4⟩, fun H5 S5 sm5 hi5 => ?_⟩
      cases q : pr xs[i] with
      | false =>
        rw [if_neg (by simp)]
        refine ⟨S5, G, acc, ((sm2.trans sm3).trans sm4).trans sm5, hi5.perm (ord _ _ _), ?_⟩
        rw [tk, q]
        simp only [Bool.false_eq_true, if_false, List.append_nil]
        exact ht2.mono (((sm3).trans sm4).trans sm5)
      | true =>
        rw [if_pos rfl]
        intro s0 H0 C cl fp pins s I
        refine ((c2 s0 H0 C cl fp).2 q).pe.run pins s σ2 H5 _ I ⟨S5, O4, (D, .lst acc) :: (G ++ (O2 ++ R)), ⟨hi5, hr4.mono sm5⟩, fun v H6 S6 G6 sm6 hi6 ht6 => ?_⟩
        have hi6' : HI H6 S6 ((D, .lst acc) :: ((G ++ G6) ++ (O1 ++ (O2 ++ R)))) := hi6.perm (by
          refine (List.Perm.append_left G6 (ord _ _ _)).trans ?_
          refine List.perm_middle.trans (List.Perm.cons _ ?_)
          rw [List.append_assoc]
          exact perm_sw G6 G _)
        refine ⟨acc, hi6'.atO, ?_, S6, G ++ G6, acc ++ [v], (((sm2.trans sm3).trans sm4).trans sm5).trans sm6, hi6'.put, ?_⟩
        · have h1 := ht2.len
          rw [List.length_map] at h1
          have h2 : ((xs.take i).filter pr).length ≤ (xs.take i).length := List.length_filter_le _ _
          rw [List.length_take] at h2
          omega
        · rw [tk, q]
          simp only [if_true, List.map_append, List.map_cons, List.map_nil]
          exact (ht2.mono ((((sm3).trans sm4).trans sm5).trans sm6)).app ⟨v, [], G6, [], rfl, by simp, ht6, rfl, rfl⟩
    · have ei : i = xs.length := by omega
      subst ei
      refine .inl ⟨by have := io.stop H' S' _ hi2 sm2; rwa [List.length_map] at this, ?_⟩
      rw [List.take_length] at ht2
      refine k (.ref D) H' S' ((D, .lst acc) :: G) (sm1.trans sm2) (hi2.perm (List.Perm.cons _ ?_)) ⟨D, acc, G, rfl, rfl, ht2⟩
      refine List.Perm.append_left G ?_
      rw [← List.append_assoc]
      exact List.Perm.append_right R e1.symm
theorem pe_lcc {Cn : L2.St → Hp → Prop} {elt tg iter : Expr} {ifs : List Expr} {scope : Scope} (own : List (Str × Nat)) (xs : List β) (enc : β → D) (pr : β → Bool) (f : β → T) (hc : X.calm = true) (hN : X.N.Nodup) (hI : PI X tg iter (tIc X.K ρ Cn (xs.map enc))) (ok : BlkOk X.N X.env.scope scope own)
    (hb : ∀ s0 H0 C cl fp x, x ∈ xs → GW (bk X scope s0 H0 C cl fp) tg (enc x) (clr ρ (own.map (·.2))) (own.map (·.2)) fun ρ2 => clr ρ2 (own.map (·.2)) = clr ρ (own.map (·.2)) ∧ ∀ s0 H0 C cl fp, IP (bk X scope s0 H0 C cl fp) ρ2 ifs (pr x) ∧ (pr x = true → Fs.EP (bk X scope s0 H0 C cl fp) ρ2 elt (f x)))
    (hl : xs.length ≤ sizeLine) (hs : ∀ x, foldedSetIterable iter X.env x = pure x := by intro _; rfl) : PE X (.ListComp elt [⟨tg, iter, ifs, 0⟩] scope pos) (tPc X.K ρ Cn (.lst ((xs.filter pr).map f))) :=
  PE.imp (pe_lc (g := cG X scope tg) (tt := cI X scope ifs) (te := cE X scope elt) hc hN hI ok (fun s0 H0 C cl fp => ⟨fun pins s σ H v u Q I r h => h s0 H0 C cl fp pins s u I r⟩) (fun s0 H0 C cl fp => ⟨fun pins s σ H Q I h => h s0 H0 C cl fp pins s I⟩) (fun s0 H0 C cl fp => ⟨fun pins s σ H Q I h => h s0 H0 C cl fp pins s I⟩) hs) fun σ H Q h => lc_tr own xs enc pr f hb hl h
/-- name = [..] on one line -/
theorem s1_setLc {y : Str} {py spos : Pos} {elt tg iter : Expr} {ifs : List Expr} {scope : Scope} (Sc : Sco X N scp vs ls gs) (i : Nat) (hyN : N[i]? = some y) (own : List (Str × Nat)) (xs : List β) (enc : β → D) (pr : β → Bool) (f : β → T) (hI : IA X ρ tg iter (xs.map enc)) (ok : BlkOk X.N X.env.scope scope own)
    (hb : ∀ s0 H0 C cl fp x, x ∈ xs → GW (bk X scope s0 H0 C cl fp) tg (enc x) (clr ρ (own.map (·.2))) (own.map (·.2)) fun ρ2 => clr ρ2 (own.map (·.2)) = clr ρ (own.map (·.2)) ∧ ∀ s0 H0 C cl fp, IP (bk X scope s0 H0 C cl fp) ρ2 ifs (pr x) ∧ (pr x = true → Fs.EP (bk X scope s0 H0 C cl fp) ρ2 elt (f x)))
    (hl : xs.length ≤ sizeLine) (hyl : scp.names.lookup y = some .local) (hk : scp.kind = .function) (hln : (py.line == pos.line) = true) (ha : (scope.names.any fun (n, k) => n == y && (k == .local || k == .cell)) = false) (hlt : i < ρ.length) (kk : Po.nx (ρ.set i (some (.lst ((xs.filter pr).map f)))))
    (hs : ∀ x, foldedSetIterable iter X.env x = pure x := by intro _; rfl) : S1 X W ρ (.Assign [.Name y py] (.ListComp elt [⟨tg, iter, ifs, 0⟩] scope pos) spos) Po := by
  have hyl' : X.env.scope.names.lookup y = some .local := by rw [Sc.sc]; exact hyl
  refine s1_of (ps_setLc (g := cG X scope tg) (tt := cI X scope ifs) (te := cE X scope elt) Sc.calm Sc.nd (Sc.n ▸ hyN) hyl' (sw_true (by rw [Sc.sc]; exact hk) hyl' hln ha) (PI.imp (t' := tIc X.K ρ (fun _ _ => True) (xs.map enc)) hI.pi fun σ H Q ⟨S, O, R, p, _, k⟩ => ⟨S, O, R, p, k⟩) ok (fun s0 H0 C cl fp => ⟨fun pins s σ H v u Q I r h => h s0 H0 C cl fp pins s u I r⟩) (fun s0 H0 C cl fp => ⟨fun pins s σ H Q I h => h s0 H0 C cl fp pins s I⟩) (fun s0 H0 C cl fp => ⟨fun pins s σ H Q I h => h s0 H0 C cl fp pins s I⟩) hs) fun σ H S O R D p q => ?_
  refine lc_tr own xs enc pr f hb hl ⟨S, O, R, p, trivial, fun v H' S' G sm hi ht => ?_⟩
  obtain ⟨S2, O2, sm2, hi2, hr2⟩ := rho_set hi (p.rho.mono sm) ht hlt
  exact q _ _ _ _ _ kk (sm.trans sm2) hi2 hr2
theorem ep_lc {elt tg iter : Expr} {ifs : List Expr} {scope : Scope} (own : List (Str × Nat)) (xs : List β) (enc : β → D) (pr : β → Bool) (f : β → T) (hc : X.calm = true) (hN : X.N.Nodup) (hI : IA X ρ tg iter (xs.map enc)) (ok : BlkOk X.N X.env.scope scope own)
    (hb : ∀ s0 H0 C cl fp x, x ∈ xs → GW (bk X scope s0 H0 C cl fp) tg (enc x) (clr ρ (own.map (·.2))) (own.map (·.2)) fun ρ2 => clr ρ2 (own.map (·.2)) = clr ρ (own.map (·.2)) ∧ ∀ s0 H0 C cl fp, IP (bk X scope s0 H0 C cl fp) ρ2 ifs (pr x) ∧ (pr x = true → Fs.EP (bk X scope s0 H0 C cl fp) ρ2 elt (f x)))
    (hl : xs.length ≤ sizeLine) (hs : ∀ x, foldedSetIterable iter X.env x = pure x := by intro _; rfl) : EP X ρ (.ListComp elt [⟨tg, iter, ifs, 0⟩] scope pos) (.lst ((xs.filter pr).map f)) :=
  ep_of (pe_lcc (Cn := fun _ _ => True) own xs enc pr f hc hN (PI.imp hI.pi fun σ H Q ⟨S, O, R, p, _, k⟩ => ⟨S, O, R, p, k⟩) ok hb hl hs) fun σ H S O R p Q k => ⟨S, O, R, p, trivial, k⟩
end
end Fs

/-! F9: more built-ins and displays. -/
namespace Fs
open PySem PySem.Spec L2

section
variable {X : Cx} {W : WX} {ρ ρ' ρ1 ρ2 : Env} {e a b o : Expr} {d d1 d2 : D} {t t1 t2 : T} {pos p apos : Pos} {Po : Post} {N : List Str} {scp : Scope} {vs ls : List Nat} {gs : List Str} {es : List Expr} {ds : List D} {ts : List T} {k : Key} {ks : List Key}
/-- a block's names -/
theorem sco_blk {scope : Scope} {vs' ls' : List Nat} {gs' : List Str} (Sc : Sco X N scp vs ls gs) (h : chk N (relS scope scp) vs' ls' gs' = true) (hl : (ls'.all fun i => match N[i]? with
    | some x => decide (scope.names.lookup x = some .cell) || decide ((relS scope scp).names.lookup x = some .local)
    | none => true) = true) (s0 : Shared) (H0 : Hp) (C : Addr) (cl : List (Str × Addr)) (fp : List Addr) : Sco (bk X scope s0 H0 C cl fp) N (relS scope scp) vs' ls' gs' := by
  have hs : (bk X scope s0 H0 C cl fp).env.scope = relS scope scp := by rw [← Sc.sc]; rfl
  unfold chk at h
  simp only [Bool.and_eq_true, List.all_eq_true] at h hl
  obtain ⟨⟨h1, h2⟩, h3⟩ := h
  refine ⟨Sc.n, hs, Sc.nd, Sc.calm, fun i x hi hx => ?_, fun i x hi hx => ?_, fun j x hx => ?_⟩
  · have q := h1 i (by simpa using hi)
    rw [hx] at q
    simp only [Bool.and_eq_true, Bool.not_eq_true'] at q
    obtain ⟨⟨q1, q2⟩, q3⟩ := q
    refine ⟨?_, q2, q3⟩
    unfold Vis
    rw [hs]
    split at q1 <;> simp_all
  · have q := h2 i (by simpa using hi)
    have q' := hl i (by simpa using hi)
    rw [hx] at q q'
    refine ⟨?_, ?_⟩
    · unfold L2.Loc
      rw [hs]
      dsimp only at q
      split at q <;> simp_all
    · dsimp only at q'
      rw [Bool.or_eq_true, decide_eq_true_eq, decide_eq_true_eq] at q'
      rcases q' with q' | q'
      · refine .inl ?_
        show (scope.names.lookup x == some .cell) = true
        rw [q']; rfl
      · exact .inr (by rw [hs]; exact q')
  · have q := h3 x (List.mem_of_getElem? hx)
    simp only [Bool.and_eq_true, Bool.not_eq_true', decide_eq_true_eq] at q
    obtain ⟨⟨q1, q2⟩, q3⟩ := q
    refine ⟨?_, q2, q3⟩
    show (bk X scope s0 H0 C cl fp).env.scope.names.lookup x = _
    rw [hs]
    split at q1 <;> simp_all
/-! ### built-ins -/
theorem ea_all {xs : List Bool} (Sc : Sco X N scp vs ls gs) (j : Nat) (hg : gs[j]? = some (Str.ofString "all")) (hm : X.mg (Str.ofString "all") = none) (ha : EA X ρ a (.lst (xs.map .bl))) (hn : NS a := by intro _ _; rfl) : EA X ρ (.Call (.Name (Str.ofString "all") p) [a] [] pos) (.bl (xs.all id)) :=
  ep_callB (cr_all Sc.calm) Sc j hg hm PyProof.Rows.boot_all (ap1 ha hn) hn rfl fun H S L us Q hi r q => by
    obtain ⟨v, rfl, c, us, rfl, e2, e3⟩ := r.one
    exact ⟨c, xs, rfl, .inl (.inl (by rw [← rps_bls e3]; exact hi.same _ _ e2)), q _ H S [] (Same.refl S) hi ⟨rfl, rfl⟩⟩
theorem ea_any {xs : List Bool} (Sc : Sco X N scp vs ls gs) (j : Nat) (hg : gs[j]? = some (Str.ofString "any")) (hm : X.mg (Str.ofString "any") = none) (ha : EA X ρ a (.lst (xs.map .bl))) (hn : NS a := by intro _ _; rfl) : EA X ρ (.Call (.Name (Str.ofString "any") p) [a] [] pos) (.bl (xs.any id)) :=
  ep_callB (cr_any Sc.calm) Sc j hg hm PyProof.Rows.boot_any (ap1 ha hn) hn rfl fun H S L us Q hi r q => by
    obtain ⟨v, rfl, c, us, rfl, e2, e3⟩ := r.one
    exact ⟨c, xs, rfl, .inl (.inl (by rw [← rps_bls e3]; exact hi.same _ _ e2)), q _ H S [] (Same.refl S) hi ⟨rfl, rfl⟩⟩
theorem ea_min2 {i j' : Int} (Sc : Sco X N scp vs ls gs) (j : Nat) (hg : gs[j]? = some (Str.ofString "min")) (hm : X.mg (Str.ofString "min") = none) (ha : EA X ρ a (.int i)) (hb : EA X ρ b (.int j')) (hn : NS a := by intro _ _; rfl) (hn2 : NS b := by intro _ _; rfl) : EA X ρ (.Call (.Name (Str.ofString "min") p) [a, b] [] pos) (.int (if j' < i then j' else i)) :=
  ep_callB (call_min2 Sc.calm) Sc j hg hm PyProof.Rows.boot_min (ap2 ha hb hn hn2) hn (by rw [hn2 [] X.env]; rfl) fun H S L us Q hi r q => by
    obtain ⟨v, w, rfl, rfl, rfl⟩ := r.two
    exact ⟨i, j', rfl, q _ H S [] (Same.refl S) hi ⟨rfl, rfl⟩⟩
theorem ea_max2 {i j' : Int} (Sc : Sco X N scp vs ls gs) (j : Nat) (hg : gs[j]? = some (Str.ofString "max")) (hm : X.mg (Str.ofString "max") = none) (ha : EA X ρ a (.int i)) (hb : EA X ρ b (.int j')) (hn : NS a := by intro _ _; rfl) (hn2 : NS b := by intro _ _; rfl) : EA X ρ (.Call (.Name (Str.ofString "max") p) [a, b] [] pos) (.int (if j' > i then j' else i)) :=
  ep_callB (call_max2 Sc.calm) Sc j hg hm PyProof.Rows.boot_max (ap2 ha hb hn hn2) hn (by rw [hn2 [] X.env]; rfl) fun H S L us Q hi r q => by
    obtain ⟨v, w, rfl, rfl, rfl⟩ := r.two
    exact ⟨i, j', rfl, q _ H S [] (Same.refl S) hi ⟨rfl, rfl⟩⟩
theorem ea_intb {c : Bool} (Sc : Sco X N scp vs ls gs) (j : Nat) (hg : gs[j]? = some (Str.ofString "int")) (hm : X.mg (Str.ofString "int") = none) (ha : EA X ρ a (.bl c)) (hn : NS a := by intro _ _; rfl) : EA X ρ (.Call (.Name (Str.ofString "int") p) [a] [] pos) (.int (if c then 1 else 0)) :=
  ep_callTy call_int1 Sc j hg hm PyProof.Rows.boot_int (ap1 ha hn) hn rfl fun H S L us Q hi r q => by
    obtain ⟨v, rfl, rfl⟩ := r.one
    exact .inr ⟨c, rfl, q _ H S [] (Same.refl S) hi ⟨rfl, rfl⟩⟩
/-- a built-in class as a value -/
theorem pe_tyn {x : Str} {id : String} (Sc : Sco X N scp vs ls gs) (j : Nat) (hg : gs[j]? = some x) (hm : X.mg x = none) (hv : bootBuiltins x = some (.type id)) : PE X (.Name x pos) (tC (.ty id)) := by
  obtain ⟨g1, g2, g3⟩ := Sc.glo j x hg
  exact pe_bltn g1 hm hv rfl g3 g2
/-- which built-in type it is of -/
def tyD : D → String
  | .non => "NoneType" | .bl _ => "bool" | .int _ => "int" | .str _ => "str" | .tup _ => "tuple" | .lst _ => "list" | .rol _ => "list" | .dct _ _ => "dict" | .ins _ _ _ => ""
def rolD : D → Bool
  | .rol _ => true | .ins _ _ _ => true | _ => false
theorem ty_of {K : PySem.W.Frag} {S H : Hp} {v : V} (e : Same S H) (hr : rolD d = false) (r : Rp K S d v) (hT : ∀ a xs, v = .ref a → SqT K H a xs → TyX K H (.ref a) (.type "tuple")) : TyX K H v (.type (tyD d)) := by
  cases d with
  | non => rw [show v = .non from r]; exact .base .non
  | bl c => rw [show v = .bl c from r]; exact .base (.bl c)
  | int c => rw [show v = .int c from r]; exact .base (.int c)
  | str c => rw [show v = .str c from r]; exact .base (.str c)
  | tup ds => obtain ⟨a, us, rfl, h2, h3⟩ := r; exact hT a us rfl (same_seqT e h2)
  | lst ds => obtain ⟨a, us, rfl, h2, h3⟩ := r; exact .base (.lst (e _ _ h2))
  | rol ds => cases hr
  | dct ks ds =>
    obtain ⟨a, us, rfl, h2, h3, h4⟩ := r
    rcases same_rd e h2 with h | ⟨o, h⟩
    · exact .base (.dK h)
    · exact .fDict h
  | ins C fs ds => cases hr
/-! ### displays of dicts -/
/-- {k: v} -/
theorem ep_disp1 (hk : EA X ρ a (kD k)) (hv : EA X ρ b d) : EP X ρ (.Dict [some a] [b] pos) (.dct [k] [.fz d]) :=
  ep_of (pe_disp (pps_cons hk.pe hv.pe pps_nil) rfl rfl (by simp) (by simp)) fun σ H S O R p Q q => fun z nz => by
    have p0 : Pre X.K ρ σ (upd H z (.dK [])) S O ((z, .dK []) :: R) := ⟨(p.hi.newO nz).perm (List.perm_middle).symm, p.rho⟩
    refine useA p0 fun v1 H1 S1 sm1 p1 r1 => useA p1 fun v2 H2 S2 sm2 p2 r2 => ?_
    have hi2 : HI H2 S2 ((z, .dK []) :: (O ++ R)) := p2.hi.perm List.perm_middle
    refine ⟨hi2.atO, [(k, v2)], by rw [kD_rp r1]; rfl, by simp, ?_⟩
    exact q _ _ S2 [(z, .dK [(k, v2)])] (sm1.trans sm2) hi2.put ⟨z, [v2], [], rfl, rfl, ⟨v2, [], [], [], rfl, rfl, ⟨r2, rfl⟩, rfl, rfl⟩, rfl⟩
/-- dict(d) -/
theorem ep_dcopy (Sc : Sco X N scp vs ls gs) (j : Nat) (hg : gs[j]? = some (Str.ofString "dict")) (hm : X.mg (Str.ofString "dict") = none) (ha : EA X ρ a (.dct ks ds)) (hn : NS a := by intro _ _; rfl) : EP X ρ (.Call (.Name (Str.ofString "dict") p) [a] [] pos) (.dct ks (ds.map .fz)) :=
  ep_callTy call_dictD Sc j hg hm PyProof.Rows.boot_dict (ap1 ha hn) hn rfl fun H S L us Q hi r q => by
    obtain ⟨v, rfl, c, us, rfl, e2, e3, e4⟩ := r.one
    refine ⟨c, _, rfl, same_rd hi.same e2, fun l nl => q _ _ S [(l, _)] (Same.refl S) (hi.newO nl) ⟨l, us, [], rfl, rfl, e3.ts, by simp [e4]⟩⟩
/-! ### parts -/
def cutL {α : Type} (xs : List α) (lo hi : Option Int) : List α := (xs.drop (HT.sIx xs.length 0 lo)).take (HT.sIx xs.length xs.length hi - HT.sIx xs.length 0 lo)
theorem Rps.drop {K : PySem.W.Frag} {S : Hp} : ∀ (n : Nat) {ds : List D} {vs : List V}, Rps K S ds vs → Rps K S (ds.drop n) (vs.drop n)
  | 0, _, _, h => h
  | n + 1, [], _, h => by rw [show _ = ([] : List V) from h]; exact rfl
  | n + 1, d :: ds, _, ⟨v, r, h1, h2, h3⟩ => by rw [h1]; exact Rps.drop n h3
theorem Rps.take {K : PySem.W.Frag} {S : Hp} : ∀ (n : Nat) {ds : List D} {vs : List V}, Rps K S ds vs → Rps K S (ds.take n) (vs.take n)
  | 0, _, _, h => rfl
  | n + 1, [], _, h => by rw [show _ = ([] : List V) from h]; exact rfl
  | n + 1, d :: ds, _, ⟨v, r, h1, h2, h3⟩ => by rw [h1]; exact ⟨v, _, rfl, h2, Rps.take n h3⟩
theorem Rps.cut {K : PySem.W.Frag} {S : Hp} {lo hi : Option Int} {us : List V} (h : Rps K S ds us) : Rps K S (cutL ds lo hi) (cutV us lo hi) := by
  unfold cutL cutV
  rw [h.len]
  exact (h.drop _).take _
/-- what a bound of a part is -/
structure OA (X : Cx) (ρ : Env) (e : Option Expr) (i : Option Int) : Prop where
  po : ∃ t : TO, PO X e t ∧ ∀ σ H S O R, Pre X.K ρ σ H S O R → ∀ Q : Option Int → Hp → Prop, (∀ H' S', Same S S' → HI H' S' (O ++ R) → Q i H') → t σ H Q
theorem oa_none : OA X ρ none none := ⟨_, po_none, fun σ H S O R p Q k => k H S (Same.refl S) p.hi⟩
theorem oa_some {i : Int} (h : EA X ρ e (.int i)) : OA X ρ (some e) (some i) := ⟨_, po_some h.pe, fun σ H S O R p Q k => useA p fun v H1 S1 sm p1 r => ⟨i, r, k H1 S1 sm p1.hi⟩⟩
theorem ea_cutT {lo hi : Option Expr} {l h : Option Int} {p2 : Pos} (ha : EA X ρ a (.tup ds)) (hl : OA X ρ lo l) (hh : OA X ρ hi h) : EA X ρ (.Subscript a (.Slice lo hi none p2) pos) (.tup (cutL ds l h)) := by
  obtain ⟨t1, h1, h1'⟩ := hl.po
  obtain ⟨t2, h2, h2'⟩ := hh.po
  refine ep_of (pe_slice sl_tupA ha.pe h1 h2) fun σ H S O R p Q k => useA p fun v H1 S1 sm1 p1 r1 => h1' σ H1 S1 O R p1 _ fun H2 S2 sm2 hi2 => h2' σ H2 S2 O R (p1.st sm2 hi2) _ fun H3 S3 sm3 hi3 => ?_
  obtain ⟨c, us, rfl, e2, e3⟩ := r1.mono (sm2.trans sm3)
  refine ⟨c, us, rfl, same_seqT hi3.same e2, fun hw => ?_, fun hw z nz => ?_⟩
  · have : cutL ds l h = ds := by
      unfold cutL
      rw [e3.len] at hw
      rw [hw.1, hw.2, List.drop_zero, Nat.sub_zero, List.take_length]
    rw [this] at k
    exact k _ H3 S3 [] ((sm1.trans sm2).trans sm3) hi3 ⟨⟨c, us, rfl, e2, e3⟩, rfl⟩
  · have nf := same_new (o := .tup (cutV us l h)) (hi3.free nz)
    exact k _ _ (upd S3 z (.tup (cutV us l h))) [] (((sm1.trans sm2).trans sm3).trans nf) (hi3.new nz) ⟨⟨z, _, rfl, .inl (.inl upd_same), (e3.mono nf).cut⟩, rfl⟩
theorem ep_cutL {lo hi : Option Expr} {l h : Option Int} {p2 : Pos} (ha : EA X ρ a (.lst ds)) (hl : OA X ρ lo l) (hh : OA X ρ hi h) : EP X ρ (.Subscript a (.Slice lo hi none p2) pos) (.lst ((cutL ds l h).map .fz)) := by
  obtain ⟨t1, h1, h1'⟩ := hl.po
  obtain ⟨t2, h2, h2'⟩ := hh.po
  refine ep_of (pe_slice sl_list ha.pe h1 h2) fun σ H S O R p Q k => useA p fun v H1 S1 sm1 p1 r1 => h1' σ H1 S1 O R p1 _ fun H2 S2 sm2 hi2 => h2' σ H2 S2 O R (p1.st sm2 hi2) _ fun H3 S3 sm3 hi3 => ?_
  obtain ⟨c, us, rfl, e2, e3⟩ := r1.mono (sm2.trans sm3)
  exact ⟨c, us, rfl, .inl (.inl (hi3.same _ _ e2)), fun z nz => k _ _ S3 [(z, _)] ((sm1.trans sm2).trans sm3) (hi3.newO nz) ⟨z, _, [], rfl, rfl, e3.cut.ts⟩⟩
theorem ea_cutS {lo hi : Option Expr} {l h : Option Int} {p2 : Pos} {x : Str} (ha : EA X ρ a (.str x)) (hz : x.length ≤ sizeLine) (hl : OA X ρ lo l) (hh : OA X ρ hi h) : EA X ρ (.Subscript a (.Slice lo hi none p2) pos) (.str (cutS x l h)) := by
  obtain ⟨t1, h1, h1'⟩ := hl.po
  obtain ⟨t2, h2, h2'⟩ := hh.po
  refine ep_of (pe_slice sl_str ha.pe h1 h2) fun σ H S O R p Q k => useA p fun v H1 S1 sm1 p1 r1 => h1' σ H1 S1 O R p1 _ fun H2 S2 sm2 hi2 => h2' σ H2 S2 O R (p1.st sm2 hi2) _ fun H3 S3 sm3 hi3 => ?_
  exact ⟨x, r1, hz, k _ H3 S3 [] ((sm1.trans sm2).trans sm3) hi3 ⟨rfl, rfl⟩⟩
/-! ### enumerate -/
def enumD (ds : List D) : List D := (ds.zipIdx).map fun p => .tup [.int (p.2 : Nat), p.1]
theorem ia_enum {elts : List Expr} {kk : Nat} {tpos : Pos} (Sc : Sco X N scp vs ls gs) (j : Nat) (hg : gs[j]? = some (Str.ofString "enumerate")) (hm : X.mg (Str.ofString "enumerate") = none) (ha : EA X ρ e d) (hd : d = .lst ds ∨ d = .rol ds) (hn : NS e := by intro _ _; rfl) : IA X ρ (.Tuple elts kk tpos) (.Call (.Name "enumerate" p) [e] [] pos) (enumD ds) :=
  ia_of (pi_enum (Sc.glo j _ hg).1 hm (ap1 ha hn).pa (hn [] X.env)) fun σ H S O R p Q q => useAP (es := []) p fun us H1 S1 sm p1 r => by
    obtain ⟨v, rfl, h1⟩ := r.one
    have sq : ∃ a us, v = .ref a ∧ (∀ S2 H2, Same S1 S2 → Same S2 H2 → SqL X.K H2 a us) ∧ Rps X.K S1 ds us := by
      rcases hd with rfl | rfl
      · obtain ⟨a, us, e1, e2, e3⟩ := h1
        exact ⟨a, us, e1, fun S2 H2 z1 z2 => .inl (.inl (z2 _ _ (z1 _ _ e2))), e3⟩
      · obtain ⟨a, us, e1, e2, e3⟩ := h1
        exact ⟨a, us, e1, fun S2 H2 z1 z2 => Same.seq z2 (Same.seq z1 e2), e3⟩
    obtain ⟨a, us, rfl, e2, e3⟩ := sq
    have len : (enumD ds).length = us.length := by unfold enumD; rw [List.length_map, List.length_zipIdx, e3.len]
    refine ⟨a, us, rfl, e2 S1 H1 (Same.refl _) p1.hi.same, q _ H1 S1 sm p1.hi ⟨fun H S L hi z => ⟨us, e2 S H z hi.same, by rw [len]; exact Nat.le_refl _⟩, fun i H S L hi z hl => ?_, fun i H S L x H' d' hi z hy hd' => ?_⟩⟩
    · rw [len] at hl
      exact ⟨us, us[i], e2 S H z hi.same, by simp [hl]⟩
    · obtain ⟨t, w, rfl, nt, rfl, hx⟩ := hy
      have hw := hx us (e2 S H z hi.same)
      unfold enumD at hd'
      rw [List.getElem?_map, List.getElem?_zipIdx] at hd'
      cases q : ds[i]? with
      | none => rw [q] at hd'; cases hd'
      | some d0 =>
        rw [q] at hd'
        obtain ⟨w', w1, w2⟩ := e3.get q
        rw [hw] at w1
        cases w1
        have ed : d' = .tup [.int ((i : Nat) : Int), d0] := by simpa using hd'.symm
        subst ed
        have nf := same_new (o := .tup [.int (i : Nat), w]) (hi.free nt)
        exact ⟨_, nf, hi.new nt, t, _, rfl, .inl (.inl upd_same), _, _, rfl, rfl, _, _, rfl, (w2.mono z).mono nf, rfl⟩
end
end Fs

/-! F10: isinstance, own lists, keys in order, locks. -/
namespace Fs
open PySem PySem.Spec L2

section
variable {X : Cx} {W : WX} {ρ ρ' ρ1 ρ2 : Env} {e a b o : Expr} {d d1 d2 : D} {t t1 t2 : T} {pos p apos : Pos} {Po : Post} {N : List Str} {scp : Scope} {vs ls : List Nat} {gs : List Str} {es : List Expr} {ds : List D} {ts : List T} {k : Key} {ks : List Key}
theorem ty_all {K : PySem.W.Frag} {S H : Hp} {v : V} (e : Same S H) (hr : rolD d = false) (r : Rp K S d v) : TyX K H v (.type (tyD d)) := ty_of e hr r fun a xs e1 h => by
  rcases h with (h | ⟨o, h⟩) | ⟨o, its, n, h1, h2, h3⟩
  · exact .base (.tup h)
  · exact .fTuple h
  · exact .kTuple h1 h2
/-- isinstance(x, c), c a built-in class -/
theorem ea_isi {x : Str} {id : String} {c : Bool} {p2 : Pos} (Sc : Sco X N scp vs ls gs) (j i : Nat) (hg : gs[j]? = some (Str.ofString "isinstance")) (hm : X.mg (Str.ofString "isinstance") = none) (hg2 : gs[i]? = some x) (hm2 : X.mg x = none) (hv : bootBuiltins x = some (.type id)) (ha : EA X ρ a d) (hr : rolD d = false) (hk : kitB (tyD d) id = some c) (hn : NS a := by intro _ _; rfl) :
    EA X ρ (.Call (.Name (Str.ofString "isinstance") p) [a, .Name x p2] [] pos) (.bl c) := by
  obtain ⟨g1, g2, g3⟩ := Sc.glo j _ hg
  refine ep_of (pe_callB call_isi g1 hm PyProof.Rows.boot_isinstance (pa_cons ha.pe (pa_cons (pe_tyn Sc i hg2 hm2 hv) pa_nil rfl) (hn _ _)) g3 g2 (hn _ _) rfl) fun σ H S O R p Q q => useA p fun v H1 S1 sm p1 r => ?_
  exact ⟨v, .ty id, .type (tyD d), .type id, c, rfl, .ty id, ty_all p1.hi.same hr r, kit_ty hk, q _ H1 S1 [] sm p1.hi ⟨rfl, rfl⟩⟩
/-! ### own lists -/
theorem RTs.get {K : PySem.W.Frag} {S : Hp} : ∀ {ts : List T} {us : List V} {O : OH} {i : Nat} {t : T}, RTs K S ts us O → ts[i]? = some t → ∃ v O1 O2, us[i]? = some v ∧ RT K S t v O1 ∧ O.Perm (O1 ++ O2) ∧ RTs K S (ts.eraseIdx i) (us.eraseIdx i) O2
  | [], _, _, _, _, _, h => by simp at h
  | t :: ts, _, _, 0, t', ⟨v, r, O1, O2, h1, h2, h3, h4⟩, h => by
    have e : t = t' := by simpa using h
    subst e h1 h2
    exact ⟨v, O1, O2, rfl, h3, .refl _, h4⟩
  | t :: ts, _, _, i + 1, t', ⟨v, r, O1, O2, h1, h2, h3, h4⟩, h => by
    subst h1 h2
    obtain ⟨w, P1, P2, e1, e2, e3, e4⟩ := RTs.get h4 (show ts[i]? = some t' by simpa using h)
    exact ⟨w, P1, O1 ++ P2, by simpa using e1, e2, (List.Perm.append_left O1 e3).trans (perm_sw O1 P1 P2), v, _, O1, P2, rfl, rfl, h3, e4⟩
theorem RTs.put {K : PySem.W.Frag} {S : Hp} {d : D} {w : V} (hw : Rp K S d w) : ∀ {ts : List T} {us : List V} {O : OH} (i : Nat), RTs K S ts us O → ∃ O1 O2, O.Perm (O1 ++ O2) ∧ RTs K S (ts.set i (.fz d)) (us.set i w) O1
  | [], us, O, i, h => ⟨[], O, .refl _, by rw [h.1]; exact ⟨rfl, rfl⟩⟩
  | t :: ts, _, _, 0, ⟨v, r, O1, O2, h1, h2, h3, h4⟩ => by
    subst h1 h2
    exact ⟨O2, O1, List.perm_append_comm, w, r, [], O2, rfl, rfl, ⟨hw, rfl⟩, h4⟩
  | t :: ts, _, _, i + 1, ⟨v, r, O1, O2, h1, h2, h3, h4⟩ => by
    subst h1 h2
    obtain ⟨P1, P2, e1, e2⟩ := RTs.put hw i h4
    exact ⟨O1 ++ P1, P2, by rw [List.append_assoc]; exact List.Perm.append_left O1 e1, v, _, O1, P1, rfl, rfl, h3, e2⟩
/-- x.pop(i) of an own list -/
theorem et_popAt {x : Str} {tz : List T} {i' : Int} {n : Nat} (Sc : Sco X N scp vs ls gs) (i : Nat) (hv : vs.contains i = true) (hN : N[i]? = some x) (h0 : ρ[i]? = some (some (.lst tz))) (he : EA X ρ e (.int i')) (hb : -(2 ^ 63) ≤ i' ∧ i' < 2 ^ 63) (hi : seqIndex? i' tz.length = some n) (ht : tz[n]? = some t) (hn : NS e := by intro _ _; rfl)
    (hbase : attributeBase (.Name x p) (Str.ofString "pop") X.env (eval (.Name x p) X.env) = eval (.Name x p) X.env := by rfl)
    (hfew : ((backTo pos (starEach [e] X.env)).all (fun x => !x.1) && (backToKw pos (keywordEach [] X.env)).all (fun x => x.1.isSome) && decide (([e] : List Expr).length + ([] : List Keyword).length + (if ([] : List Keyword).isEmpty then 0 else 1) < 30)) = true := by rfl)
    (hline : (apos.endLine == pos.line) = true := by rfl) : ET X ρ (.Call (.Attribute (.Name x p) (Str.ofString "pop") apos) [e] [] pos) (ρ.set i (some (.lst (tz.eraseIdx n)))) t := by
  obtain ⟨v1, v2, v3⟩ := Sc.vis i x hv hN
  refine et_of (pe_bm PySem.F.plainAttrs_list PySem.F.slot_list_pop PySem.F.type_list_pop mt_popAt (pe_var (i := i) (Sc.n ▸ hN) v1 v2 v3) (ap1 he hn).pa hbase hfew hline (hn _ _) rfl) fun σ H S O R p Q k => ?_
  obtain ⟨v, P, e1, e2, e3, _⟩ := slot_mut (G := []) (show HI H S ([] ++ (O ++ R)) from p.hi) p.rho h0
  obtain ⟨q, us, P', rfl, rfl, r1⟩ := id e2
  refine ⟨.ref q, e1, .inl ⟨rfl, us, .inl (.inl (e3 (q, _) (List.mem_cons_self)))⟩, useAP (es := []) p fun ws H1 S1 sm p1 rw' => ?_⟩
  obtain ⟨w, rfl, rfl⟩ := rw'.one
  obtain ⟨v', P1, f1, f2, f3, f4⟩ := slot_mut (G := []) (show HI H1 S1 ([] ++ (O ++ R)) from p1.hi) p1.rho h0
  rw [e1] at f1
  cases f1
  obtain ⟨q', us', P1', g1, rfl, g2⟩ := id f2
  cases g1
  obtain ⟨y, G1, G2, y1, y2, y3, y4⟩ := g2.get ht
  refine ⟨q, us', i', n, y, rfl, rfl, f3 (q, _) (List.mem_cons_self), hb.1, hb.2, by rw [g2.len]; exact hi, y1, ?_⟩
  obtain ⟨O3, z1, z2⟩ := f4 q (.lst us') (.lst (us'.eraseIdx n)) P1' G2 G1 (.lst (tz.eraseIdx n)) rfl (by
    rw [List.append_nil]; exact y3.trans List.perm_append_comm) ⟨q, _, G2, rfl, rfl, y4⟩
  exact k y _ S1 O3 G1 sm z1 z2 y2
/-- x[i] = e in an own list -/
theorem s1_lput {x : Str} {tz : List T} {i' : Int} {n : Nat} {pos' : Pos} (Sc : Sco X N scp vs ls gs) (i : Nat) (hv : vs.contains i = true) (hN : N[i]? = some x) (h0 : ρ[i]? = some (some (.lst tz))) (hb : EA X ρ b (.int i')) (he : EA X ρ e d) (hi : ixN tz.length i' = some n) (kp : Po.nx (ρ.set i (some (.lst (tz.set n (.fz d))))))
    (hs : swapsWithSole [.Subscript (.Name x p) b pos'] e pos.line X.env = pure false := by rfl) (hw : swappedStores [.Subscript (.Name x p) b pos'] e X.env = pure none := by rfl)
    (ha : ∀ v, assign (.Subscript (.Name x p) b pos') X.env v = (do
      let ov ← holding [v] (eval (.Name x p) X.env)
      let iv ← holding [v, ov] (eval b X.env)
      standAt pos'
      holding [v, ov, iv] (setItem ov iv v)
      release [v, ov, iv] []) := by intro _; rfl)
    (h1 : (assignEach [.Subscript (.Name x p) b pos'] X.env).map (·.2) = [assign (.Subscript (.Name x p) b pos') X.env] := by rfl) : S1 X W ρ (.Assign [.Subscript (.Name x p) b pos'] e pos) Po := by
  obtain ⟨v1, v2, v3⟩ := Sc.vis i x hv hN
  refine s1_of (ps_asg he.pe (pg_sub (pe_var (i := i) (Sc.n ▸ hN) v1 v2 v3) hb.pe set_list ha) hs hw h1) fun σ H S O R D p q => ?_
  refine useA p fun w H1 S1 sm1 p1 r1 => ?_
  obtain ⟨v, P, e1, _⟩ := slot_mut (G := []) (show HI H1 S1 ([] ++ (O ++ R)) from p1.hi) p1.rho h0
  refine ⟨v, e1, useA p1 fun y H2 S2 sm2 p2 r2 => ?_⟩
  obtain ⟨v', P, f1, f2, f3, f4⟩ := slot_mut (G := []) (show HI H2 S2 ([] ++ (O ++ R)) from p2.hi) p2.rho h0
  rw [e1] at f1
  cases f1
  obtain ⟨c, us, P', rfl, rfl, g2⟩ := id f2
  obtain ⟨O1, O2, z1, z2⟩ := g2.put (r1.mono sm2) n
  refine ⟨c, us, i', n, rfl, r2, f3 (c, _) (List.mem_cons_self), by rw [g2.len]; exact hi, ?_⟩
  obtain ⟨O3, y1, y2⟩ := f4 c _ (.lst (us.set n w)) P' O1 O2 (.lst (tz.set n (.fz d))) rfl (by simpa using z1) ⟨c, _, O1, rfl, rfl, z2⟩
  obtain ⟨S3, sm3, hi3, _⟩ := y1.freeze
  exact q _ σ _ S3 O3 kp ((sm1.trans sm2).trans sm3) hi3 (y2.mono sm3)
/-! ### sorted(d.keys()), sorted(d) -/
theorem kx_strs {P : Program} {w : World} {us : List (Key × Value)} {acc : Array Value} {n : Nat} {kz : List Str} (h : ItemsOf (fun i v => ∃ k x, us[i]? = some (k, x) ∧ (mixKind P w).is k v = true) acc n) (hn : n = kz.length) (hk : us.map (·.1) = kz.map Sum.inr) : AreS acc.toList kz := by
  obtain ⟨h1, h2⟩ := h
  have key : ∀ (l : List Value) (cs : List Str), l.length = cs.length → (∀ (i : Nat) v c, l[i]? = some v → cs[i]? = some c → ∃ t, v = Value.str c t) → AreS l cs := by
    intro l
    induction l with
    | nil => intro cs hl _; cases cs with
      | nil => exact .nil
      | cons c cs => simp at hl
    | cons v l ih => intro cs hl hi; cases cs with
      | nil => simp at hl
      | cons c cs => exact .cons (hi 0 v c rfl rfl) (ih cs (by simpa using hl) fun i v' c' q1 q2 => hi (i + 1) v' c' (by simpa using q1) (by simpa using q2))
  refine key _ _ (by rw [Array.length_toList, h1, hn]) fun i v c q1 q2 => ?_
  obtain ⟨k, x, e1, e2⟩ := h2 i v (by simpa using q1)
  have e3 : (us.map (·.1))[i]? = some k := by rw [List.getElem?_map, e1]; rfl
  rw [hk, List.getElem?_map, q2] at e3
  cases e3
  obtain ⟨t, ev⟩ := Value.isStrOf_shape (x := c) (v := v) e2
  exact ⟨t, ev⟩
def tSkeys (ta : TE) : TE := fun σ H Q => ta σ H fun x H1 => ∃ a kvs kz, x = .ref a ∧ Rd H1 a (.dK kvs) ∧ kvs.map (·.1) = kz.map Sum.inr ∧ ∀ p, H1 p = none → Q (.ref p) (upd H1 p (.lst ((srt kz).map V.str)))
theorem pe_skeys {ta : TE} {cpos : Pos} (hc : X.calm = true) (hu : X.A.units + 200 < cLine) (hg : Gl X "sorted") (hm : X.mg "sorted" = none) (ha : PE X e ta)
    (hbase : attributeBase e "keys" X.env (eval e X.env) = eval e X.env := by rfl) (hline : (apos.endLine == cpos.line) = true := by rfl) : PE X (.Call (.Name "sorted" p) [.Call (.Attribute e "keys" apos) [] [] cpos] [] pos) (tSkeys ta) := by
  refine ⟨fun pins s σ H Q I h => ?_⟩
  refine PyProof.Rows.Call_ (ld_blt I hg hm boot_sorted ?_)
  refine PyProof.Rows.callWith_builtin1 (PyProof.Rows.args_cons ?_ rfl) rfl rfl
  refine wpAny_Call_method (T := "dict") (id := "dict.keys") hbase rfl hline F.plainAttrs_dict F.slot_dict_keys F.type_dict_keys (thn (ha.run pins s σ H _ I h) fun u s1 ⟨x, H1, I1, rx, a, kvs, kz, ex, hd, hk, q⟩ => ?_)
  subst ex
  obtain rfl : u = Value.ref a := rx
  obtain ⟨z, lo, us, rel, dd⟩ := dk_rd I1.hok hd
  obtain ⟨ep, hat⟩ := dd.dictAt
  refine ⟨hat.dictOf.typeIs, hat.dictOf.mapOf.noDict, ?_⟩
  have hkeys : us.map (·.1) = kz.map Sum.inr := rel.keys.symm.trans hk
  have hl : us.length = kz.length := by
    have e := congrArg List.length hkeys
    rw [List.length_map, List.length_map] at e
    exact e
  have hlk : kvs.length = kz.length := by
    have e := congrArg List.length hk
    rw [List.length_map, List.length_map] at e
    exact e
  have I2 : Inv X pins σ H1 { s1 with heap := s1.heap.push { cls := .type "dict_keys", data := .fields #[.ref a] } } := I1.kept (t' := s1.toks) fun b ob q => Heap.get?_push_of_some _ q
  have hzz : kz.length ≤ sizeLine := by rw [← hlk]; exact z
  have fin : wpAny (model X.prog X.w) X.A (call (.builtin "sorted") [.ref s1.heap.objs.size]) (L2.EP X pins σ Q) X.xe { s1 with heap := s1.heap.push { cls := .type "dict_keys", data := .fields #[.ref a] } } := by
    refine call_sorted (xs := kz) (I2.ok.hd hc) (fun A E Q hh q => ?_) hzz (by omega) fun s' p out n k g o hp hg e => ?_
    · refine PySem.W.kdu_collect (PySem.W.kdl_keys (knd := mixKind X.prog X.w) (kvs := us) (ep := ep)) hh ⟨⟨_, Heap.get?_push_size _ rfl, rfl, rfl⟩, hat.push _⟩ (by rw [hl]; exact hzz) fun h' tk acc hk' hacc => ?_
      exact q _ acc.toList kz hk' rfl rfl (kx_strs hacc hl hkeys) (.refl _)
    · obtain ⟨hn, J⟩ := inv_new (o := .lst ((srt kz).map V.str)) I2 k g o hp fun H' => ⟨by rw [List.length_map, srt_len]; exact hzz, out, n, vals_strs e, hg⟩
      exact ⟨.ref p, _, J, rfl, q p hn⟩
  show wpAny _ _ (callWith cpos (.builtin "dict.keys") [.ref a] [] []) _ _ s1
  exact method_meetsIn F.slot_dict_keys F.entry_dict_keys rfl (PySem.evalArgs_none ⟨rfl, hat.dictOf.typeIs, F.args_dict_keys_1 _, _, PySem.W.kdl_meets_keys (mixKind X.prog X.w) a lo, ⟨us, hat.dictOf⟩, PyProof.Rows.args_nil fin⟩)
theorem ep_skeys {kz : List Str} {cpos : Pos} (hr : Room 0 X.A) (Sc : Sco X N scp vs ls gs) (j : Nat) (hg : gs[j]? = some (Str.ofString "sorted")) (hm : X.mg (Str.ofString "sorted") = none) (ha : EA X ρ e (.dct (kz.map Sum.inr) ds))
    (hbase : attributeBase e "keys" X.env (eval e X.env) = eval e X.env := by rfl) (hline : (apos.endLine == cpos.line) = true := by rfl) : EP X ρ (.Call (.Name (Str.ofString "sorted") p) [.Call (.Attribute e (Str.ofString "keys") apos) [] [] cpos] [] pos) (.lst ((srt kz).map fun x => .fz (.str x))) :=
  ep_of (pe_skeys Sc.calm (Room.u200 hr) (Sc.glo j _ hg).1 hm ha.pe hbase hline) fun σ H S O R p Q k => useA p fun v H1 S1 sm p1 r => by
    obtain ⟨c, us, e1, e2, e3, e4⟩ := r
    refine ⟨c, _, kz, e1, same_rd p1.hi.same e2, ?_, fun p np => k _ _ S1 [(p, _)] sm (p1.hi.newO np) ⟨p, _, [], rfl, rfl, rt_strs _⟩⟩
    have hl : (kz.map (Sum.inr : Str → Key)).length ≤ us.length := by rw [e4, e3.len]; exact Nat.le_refl _
    exact List.map_fst_zip hl
end
end Fs

/-! F11: dicts gone through, dicts of texts as pairs. -/
namespace Fs
open PySem PySem.Spec L2

section
variable {X : Cx} {W : WX} {ρ ρ' ρ1 ρ2 : Env} {e a b o : Expr} {d d1 d2 : D} {t t1 t2 : T} {pos p apos : Pos} {Po : Post} {N : List Str} {scp : Scope} {vs ls : List Nat} {gs : List Str} {es : List Expr} {ds : List D} {ts : List T} {k : Key} {ks : List Key}
def LkC (i : Nat) (ks : List Key) : L2.St → Hp → Prop := fun σ S => ∃ a us od, σ[i]? = some (some (.ref a)) ∧ S a = some (.frz od (.dK (ks.zip us))) ∧ us.length = ks.length
theorem pi_lk {x : Str} {tg : Expr} (Sc : Sco X N scp vs ls gs) (i : Nat) (hv : vs.contains i = true) (hN : N[i]? = some x) : PI X tg (.Name x p) (tIc X.K ρ (LkC i ks) (ks.map kD)) := by
  obtain ⟨v1, v2, v3⟩ := Sc.vis i x hv hN
  refine PI.imp (pi_keys (pe_var (i := i) (Sc.n ▸ hN) v1 v2 v3)) fun σ H Q ⟨S, O, R, p, ⟨a, us, od, c1, c2, c3⟩, k⟩ => ?_
  refine ⟨.ref a, c1, a, od, rfl, .inl ⟨_, p.hi.same _ _ c2, k _ H S (Same.refl S) p.hi ⟨fun H2 S2 L hi z => ?_, fun j H2 S2 L hi z hl => ?_, fun j H2 S2 L x' H3 d' hi z hy hd => ?_⟩⟩⟩
  · exact ⟨hi.same _ _ (z _ _ c2), by rw [List.length_map, List.length_zip, c3, Nat.min_self]; exact Nat.le_refl _⟩
  · exact ⟨hi.same _ _ (z _ _ c2), by rw [List.length_map] at hl; rw [List.length_zip, c3, Nat.min_self]; exact hl⟩
  · obtain ⟨rfl, k', v', h1, rfl⟩ := hy
    rw [List.getElem?_map] at hd
    cases q : ks[j]? with
    | none => rw [q] at hd; cases hd
    | some k0 =>
      rw [q] at hd
      cases hd
      have e : k' = k0 := by
        rw [List.getElem?_zip_eq_some] at h1
        have := h1.1
        rw [q] at this
        exact (Option.some.inj this).symm
      subst e
      refine ⟨S2, Same.refl _, hi, ?_⟩
      cases k' with
      | inl i => rfl
      | inr x => rfl
/-- [elt for k in d if ..], d an own dict that is read in it -/
theorem ep_lcd {x : Str} {elt tg : Expr} {ifs : List Expr} {scope : Scope} {tz : List T} {p2 : Pos} (own : List (Str × Nat)) (Sc : Sco X N scp vs ls gs) (i : Nat) (hv : vs.contains i = true) (hNi : N[i]? = some x) (h0 : ρ[i]? = some (some (.dct ks tz))) (pr : Key → Bool) (f : Key → T) (hc : X.calm = true) (hN : X.N.Nodup) (ok : BlkOk X.N X.env.scope scope own)
    (hb : ∀ s0 H0 C cl fp k, k ∈ ks → GW (bk X scope s0 H0 C cl fp) tg (kD k) (clr (ρ.set i (some (.fz (.dct ks (ers tz))))) (own.map (·.2))) (own.map (·.2)) fun ρ2 => clr ρ2 (own.map (·.2)) = clr (ρ.set i (some (.fz (.dct ks (ers tz))))) (own.map (·.2)) ∧ ∀ s0 H0 C cl fp, IP (bk X scope s0 H0 C cl fp) ρ2 ifs (pr k) ∧ (pr k = true → Fs.EP (bk X scope s0 H0 C cl fp) ρ2 elt (f k)))
    (hl : ks.length ≤ sizeLine) (hi : inds ((ks.filter pr).map f) = true) (hs : ∀ y, foldedSetIterable (.Name x p2) X.env y = pure y := by intro _; rfl) : EP X ρ (.ListComp elt [⟨tg, .Name x p2, ifs, 0⟩] scope pos) (.lst ((ks.filter pr).map f)) := by
  refine ep_of (pe_lock (pe_lcc (ρ := ρ.set i (some (.fz (.dct ks (ers tz))))) (Cn := LkC i ks) own ks kD pr f hc hN (pi_lk Sc i hv hNi) ok hb hl hs)) fun σ H S O R p Q q => ?_
  obtain ⟨v, P, O2, e1, e2, e3, e4⟩ := p.rho.take h0
  obtain ⟨a, us, P', rfl, rfl, r1, r2⟩ := id e2
  have hlt : i < ρ.length := (List.getElem?_eq_some_iff.mp h0).1
  have hi1 : HI H S ((a, .dK (ks.zip us)) :: (P' ++ (O2 ++ R))) := p.hi.perm (by
    refine (List.Perm.append_right R e4).trans ?_
    rw [List.append_assoc]; exact .refl _)
  refine ⟨a, _, hi1.atO, trivial, fun od => ?_⟩
  have hi2 : HI (upd H a (.frz od (.dK (ks.zip us)))) S (((a, .frz od (.dK (ks.zip us))) :: P') ++ (O2 ++ R)) := hi1.put
  obtain ⟨S1, sm1, hi3, fz⟩ := hi2.freeze
  have rd : Rp X.K S1 (.dct ks (ers tz)) (.ref a) := ⟨a, us, rfl, .inr ⟨od, fz (a, _) List.mem_cons_self⟩, RTs.er sm1 r1 fun q hq => fz q (List.mem_cons_of_mem _ hq), by rw [ers_len]; exact r2⟩
  obtain ⟨O3, z1, z2⟩ := Rho.put (i := i) (σ := σ) (v := .ref a) (t := .fz (.dct ks (ers tz))) (O1 := []) (e3.mono sm1) (by simp [hlt]) ⟨rd, rfl⟩
  rw [List.set_set] at z1
  have es : σ.set i (some (.ref a)) = σ := by
    obtain ⟨y1, y2⟩ := List.getElem?_eq_some_iff.mp e1
    rw [← y2]; exact List.set_getElem_self y1
  rw [es] at z1
  refine ⟨S1, O3, R, ⟨hi3.perm (List.Perm.append_right R z2.symm), z1⟩, ⟨a, us, od, e1, fz (a, _) List.mem_cons_self, by rw [r1.len, r2]⟩, fun w H' S' G sm2 hi4 ht => ?_⟩
  have hi4' : HI H' S' (G ++ (O2 ++ R)) := hi4.perm (List.Perm.append_left G (List.Perm.append_right R z2))
  obtain ⟨S3, sm3, hi5⟩ := hi2.thaw sm1 fz sm2 hi4'
  have hi6 : HI H' S3 ((a, .frz od (.dK (ks.zip us))) :: (G ++ (P' ++ (O2 ++ R)))) := hi5.perm (by
    rw [List.cons_append]; exact List.perm_middle)
  refine ⟨hi6.atO, q w _ S3 G sm3 (hi6.put.perm ?_) (ht.ind hi)⟩
  refine (List.perm_middle).symm.trans (List.Perm.append_left G ?_)
  refine List.Perm.trans ?_ (List.Perm.append_right R e4.symm)
  rw [List.append_assoc]; exact .refl _
end

/-! ### dicts of texts as pairs -/
section
variable {α : Type}
abbrev kS (x : Str) : Key := .inr x
def aput (kv : List (Str × α)) (x : Str) (v : α) : List (Str × α) := if x ∈ kv.map (·.1) then kv.map (fun q => if q.1 = x then (x, v) else q) else kv ++ [(x, v)]
def adel (kv : List (Str × α)) (x : Str) : List (Str × α) := kv.filter fun q => decide (q.1 ≠ x)
def aget : List (Str × α) → Str → Option α
  | [], _ => none
  | q :: kv, x => if q.1 = x then some q.2 else aget kv x
abbrev aK (kv : List (Str × α)) : List Key := kv.map fun q => kS q.1
theorem aK_mem {kv : List (Str × α)} {x : Str} : kS x ∈ aK kv ↔ x ∈ kv.map (·.1) := by
  unfold aK
  rw [List.mem_map, List.mem_map]
  exact ⟨fun ⟨q, h1, h2⟩ => ⟨q, h1, Sum.inr.inj h2⟩, fun ⟨q, h1, h2⟩ => ⟨q, h1, congrArg Sum.inr h2⟩⟩
theorem kS_eq {x y : Str} : (kS x = kS y) = (x = y) := propext ⟨fun h => Sum.inr.inj h, fun h => congrArg Sum.inr h⟩
theorem ite_kS {β : Type} {x y : Str} {u v : β} : (if kS x = kS y then u else v) = if x = y then u else v := by
  by_cases c : x = y
  · rw [if_pos c, if_pos (congrArg Sum.inr c)]
  · rw [if_neg c, if_neg fun z => c (Sum.inr.inj z)]
theorem aput_K {kv : List (Str × α)} {x : Str} {v : α} : putKs (aK kv) (kS x) = aK (aput kv x v) := by
  unfold putKs aput
  by_cases c : x ∈ kv.map (·.1)
  · rw [if_pos (aK_mem.mpr c), if_pos c]
    unfold aK
    rw [List.map_map]
    refine List.map_congr_left fun q _ => ?_
    show kS q.1 = kS (if q.1 = x then (x, v) else q).1
    split
    · rename_i h; rw [h]
    · rfl
  · rw [if_neg (fun z => c (aK_mem.mp z)), if_neg c]
    unfold aK
    rw [List.map_append]; rfl
theorem aput_V {β : Type} {g : α → β} {kv : List (Str × α)} {x : Str} {v : α} : putL (aK kv) (kv.map fun q => g q.2) (kS x) (g v) = (aput kv x v).map fun q => g q.2 := by
  unfold putL aput
  by_cases c : x ∈ kv.map (·.1)
  · rw [if_pos (aK_mem.mpr c), if_pos c]
    unfold aK
    rw [List.zip_map', List.map_map, List.map_map]
    refine List.map_congr_left fun q _ => ?_
    show (if kS q.1 = kS x then g v else g q.2) = g (if q.1 = x then (x, v) else q).2
    rw [ite_kS]
    split <;> rfl
  · rw [if_neg (fun z => c (aK_mem.mp z)), if_neg c, List.map_append]; rfl
theorem adel_K {kv : List (Str × α)} {x : Str} : dropKs (aK kv) (kS x) = aK (adel kv x) := by
  unfold dropKs adel aK
  rw [List.filter_map]
  congr 1
  refine List.filter_congr fun q _ => ?_
  show decide (kS q.1 ≠ kS x) = decide (q.1 ≠ x)
  simp only [ne_eq, kS_eq]
theorem adel_V {β : Type} {g : α → β} {kv : List (Str × α)} {x : Str} : dropL (aK kv) (kv.map fun q => g q.2) (kS x) = (adel kv x).map fun q => g q.2 := by
  unfold dropL adel aK
  rw [List.zip_map', List.filter_map, List.map_map]
  show List.map (fun q : Str × α => g q.2) _ = _
  congr 1
  refine List.filter_congr fun q _ => ?_
  show decide (kS q.1 ≠ kS x) = decide (q.1 ≠ x)
  simp only [ne_eq, kS_eq]
theorem aget_V {β : Type} {g : α → β} {x : Str} : ∀ {kv : List (Str × α)}, dlook (aK kv) (kv.map fun q => g q.2) (kS x) = (aget kv x).map g
  | [] => rfl
  | q :: kv => by
    show (if kS q.1 = kS x then some (g q.2) else dlook (aK kv) (kv.map fun q => g q.2) (kS x)) = _
    unfold aget
    rw [ite_kS]
    split
    · rfl
    · exact aget_V
theorem aget_some {x : Str} : ∀ {kv : List (Str × α)}, x ∈ kv.map (·.1) → ∃ v, aget kv x = some v
  | q :: kv, h => by
    unfold aget
    by_cases c : q.1 = x
    · rw [if_pos c]; exact ⟨_, rfl⟩
    · rw [if_neg c]
      refine aget_some ?_
      rcases List.mem_cons.mp h with e | e
      · exact absurd e.symm c
      · exact e
end
/-- an own dict of texts -/
abbrev dT {α : Type} (g : α → T) (kv : List (Str × α)) : T := .dct (aK kv) (kv.map fun q => g q.2)
/-- .. frozen -/
abbrev dF {α : Type} (g : α → D) (kv : List (Str × α)) : D := .dct (aK kv) (kv.map fun q => g q.2)
theorem ers_dT {α : Type} {g : α → D} {kv : List (Str × α)} : ers (kv.map fun q => .fz (g q.2)) = kv.map fun q => g q.2 := by
  rw [ers_map, List.map_map]; rfl
end Fs

/-! M1: forms, plainly. -/
namespace Fs
open PySem
open SX (S)
abbrev Pr := List Nat
abbrev Fo := List Pr
def leN (a b : Nat) : Bool := decide (a ≤ b)
def leP (a b : Pr) : Bool := decide (a ≤ b)
def srtP (l : List Pr) : List Pr := l.mergeSort leP
def srtN (l : List Nat) : List Nat := l.eraseDups.mergeSort leN
theorem leP_trans (a b c : Pr) (h : leP a b = true) (h2 : leP b c = true) : leP a c = true := by
  unfold leP at *; rw [decide_eq_true_eq] at *; exact List.le_trans h h2
theorem leP_total (a b : Pr) : (leP a b || leP b a) = true := by
  unfold leP; rw [Bool.or_eq_true, decide_eq_true_eq, decide_eq_true_eq]; exact List.le_total _ _
theorem leP_antisymm {a b : Pr} (h : leP a b = true) (h2 : leP b a = true) : a = b := by
  unfold leP at *; rw [decide_eq_true_eq] at *; exact List.le_antisymm h h2
theorem leN_trans (a b c : Nat) (h : leN a b = true) (h2 : leN b c = true) : leN a c = true := by
  unfold leN at *; rw [decide_eq_true_eq] at *; omega
theorem leN_total (a b : Nat) : (leN a b || leN b a) = true := by
  unfold leN; rw [Bool.or_eq_true, decide_eq_true_eq, decide_eq_true_eq]; omega
theorem leS_S (a b : Pr) : leS (S a) (S b) = leP a b := rfl
theorem srtP_perm (l : List Pr) : (srtP l).Perm l := List.mergeSort_perm l leP
theorem srtP_pw (l : List Pr) : (srtP l).Pairwise fun a b => leP a b = true := List.pairwise_mergeSort leP_trans leP_total l
theorem srtN_pw (l : List Nat) : (srtN l).Pairwise fun a b => leN a b = true := List.pairwise_mergeSort leN_trans leN_total _
theorem srtN_mem {l : List Nat} {a : Nat} : a ∈ srtN l ↔ a ∈ l := by
  unfold srtN; rw [(List.mergeSort_perm _ _).mem_iff, List.mem_eraseDups]
theorem srtN_nodup (l : List Nat) : (srtN l).Nodup := (List.mergeSort_perm _ _).nodup_iff.mpr (nodup_eraseDups l)
/-- strictly upwards -/
def up (l : List Nat) : Prop := l.Pairwise (· < ·)
theorem srtN_up (l : List Nat) : up (srtN l) := by
  have h := (srtN_pw l).and (srtN_nodup l)
  refine h.imp fun {a b} ⟨h1, h2⟩ => ?_
  unfold leN at h1
  rw [decide_eq_true_eq] at h1
  omega
theorem up_eq : ∀ {a b : List Nat}, up a → up b → (∀ x, x ∈ a ↔ x ∈ b) → a = b := fun {a b} ha hb h => by
  have na : a.Nodup := ha.imp fun {x y} z => Nat.ne_of_lt z
  have nb : b.Nodup := hb.imp fun {x y} z => Nat.ne_of_lt z
  exact List.Perm.eq_of_pairwise (fun x y _ _ h h' => absurd h (Nat.lt_asymm h')) ha hb (perm_of_mem na nb h)
theorem srtN_of {l : List Nat} (h : up l) : srtN l = l := up_eq (srtN_up l) h fun _ => srtN_mem
theorem map_S_nodup {l : List Pr} (h : l.Nodup) : (l.map S).Nodup := List.pairwise_map.mpr (h.imp fun {a b} z e => z (SX.S_inj e))
theorem srt_S (l : List Pr) : srt (l.map S) = (srtP l).map S :=
  sorted_eq ((srt_perm _).trans ((srtP_perm l).map S).symm) (srt_pairwise _) (List.pairwise_map.mpr (srtP_pw l))
theorem srtU_S (l : List Pr) : srtU (l.map S) = (srtP l.eraseDups).map S := by
  rw [← srt_S]
  refine (srtU_of (map_S_nodup (nodup_eraseDups l)) fun x => ?_).symm
  simp only [List.mem_map, List.mem_eraseDups]
theorem sgn_S (c : Nat) : sgn c = S [c] := rfl
theorem tl_S (l : List Nat) : (S l).cps.toList = l := rfl
theorem sgn_inj {a b : Nat} (h : sgn a = sgn b) : a = b := by
  have := SX.S_inj (show S [a] = S [b] from h); simpa using this
theorem leS_sgn (a b : Nat) : leS (sgn a) (sgn b) = leN a b := by
  show decide ([a] ≤ [b]) = decide (a ≤ b)
  congr 1
  refine propext ⟨fun h => ?_, fun h => ?_⟩
  · rcases Nat.lt_or_ge b a with c | c
    · exact absurd (List.Lex.rel c) h
    · exact c
  · rcases Nat.lt_or_eq_of_le h with c | c
    · exact List.le_of_lt (List.Lex.rel c)
    · rw [c]; exact List.le_refl _
theorem srtU_sgn (l : List Nat) : srtU (l.map sgn) = (srtN l).map sgn := by
  have e : srt (l.eraseDups.map sgn) = srtU (l.map sgn) := srtU_of (List.pairwise_map.mpr ((nodup_eraseDups l).imp fun {a b} z e => z (sgn_inj e))) fun x => by simp only [List.mem_map, List.mem_eraseDups]
  rw [← e]
  refine sorted_eq ((srt_perm _).trans ((List.mergeSort_perm _ leN).map sgn).symm) (srt_pairwise _) (List.pairwise_map.mpr ((srtN_pw l).imp fun {a b} h => by rw [leS_sgn]; exact h))
theorem joinL_one : ∀ l : List Nat, TL.joinL [] (l.map fun c => [c]) = l
  | [] => rfl
  | [a] => rfl
  | a :: b :: r => by
    show [a] ++ ([] ++ TL.joinL [] ((b :: r).map fun c => [c])) = _
    rw [joinL_one (b :: r)]; rfl
theorem join_sgn (l : List Nat) : Txt.join (S []) (l.map sgn) = S l := by
  have := SX.join_S [] (l.map fun c => [c])
  rw [List.map_map] at this
  rw [joinL_one] at this
  exact this
theorem joinL_flat : ∀ l : List Pr, TL.joinL [] l = l.flatten
  | [] => rfl
  | [a] => by simp [TL.joinL]
  | a :: b :: r => by
    show a ++ ([] ++ TL.joinL [] (b :: r)) = _
    rw [joinL_flat (b :: r)]; simp
theorem join_S0 (l : List Pr) : Txt.join (S []) (l.map S) = S l.flatten := by rw [SX.join_S, joinL_flat]

/-! ### products, forms -/
def L9 : List Nat := [97, 98, 99, 112, 113, 114, 120, 121, 122]
def okP (p : Pr) : Prop := up p ∧ ∀ c ∈ p, c ∈ L9
/-- two products in one -/
def uni (a b : Pr) : Pr := srtN (a ++ b)
theorem uni_mem {a b : Pr} {c : Nat} : c ∈ uni a b ↔ c ∈ a ∨ c ∈ b := by unfold uni; rw [srtN_mem, List.mem_append]
theorem okP_nil : okP [] := ⟨List.Pairwise.nil, fun _ h => nomatch h⟩
theorem okP_one {c : Nat} (h : c ∈ L9) : okP [c] := ⟨List.pairwise_singleton _ _, fun x hx => by rw [List.mem_singleton.mp hx]; exact h⟩
theorem okP_uni {a b : Pr} (ha : okP a) (hb : okP b) : okP (uni a b) := ⟨srtN_up _, fun c h => (uni_mem.mp h).elim (ha.2 c) (hb.2 c)⟩
theorem okP_srtN {l : List Nat} (h : ∀ c ∈ l, c ∈ L9) : okP (srtN l) := ⟨srtN_up _, fun c hc => h c (srtN_mem.mp hc)⟩
theorem up_len {l m : List Nat} (h : up l) (hs : ∀ c ∈ l, c ∈ m) : l.length ≤ m.length := by
  have nd : l.Nodup := h.imp fun {x y} z => Nat.ne_of_lt z
  exact nodup_len nd hs
  where nodup_len {α : Type} [DecidableEq α] : ∀ {l m : List α}, l.Nodup → (∀ c ∈ l, c ∈ m) → l.length ≤ m.length
    | [], _, _, _ => Nat.zero_le _
    | a :: l, m, nd, h => by
      have nd' := List.nodup_cons.mp nd
      have ha : a ∈ m := h a List.mem_cons_self
      have := nodup_len (l := l) (m := m.erase a) nd'.2 fun c hc => (List.mem_erase_of_ne fun e => nd'.1 (by rw [← e]; exact hc)).mpr (h c (List.mem_cons_of_mem _ hc))
      rw [List.length_erase_of_mem ha] at this
      have hp : 0 < m.length := List.length_pos_of_mem ha
      simp only [List.length_cons]; omega
theorem okP_len {p : Pr} (h : okP p) : p.length ≤ 9 := up_len h.1 h.2
/-- all products -/
def allP : List Nat → List Pr
  | [] => [[]]
  | c :: r => allP r ++ (allP r).map (c :: ·)
theorem allP_len : ∀ l : List Nat, (allP l).length = 2 ^ l.length
  | [] => rfl
  | c :: r => by
    show (allP r ++ (allP r).map (c :: ·)).length = _
    rw [List.length_append, List.length_map, allP_len r, List.length_cons, Nat.pow_succ]; omega
theorem allP_mem : ∀ {l : List Nat} {p : Pr}, up l → up p → (∀ c ∈ p, c ∈ l) → p ∈ allP l
  | [], p, _, _, h => by
    cases p with
    | nil => exact List.mem_singleton.mpr rfl
    | cons a p => exact absurd (h a List.mem_cons_self) (by simp)
  | c :: r, [], hl, hp, h => by
    refine List.mem_append_left _ (allP_mem (List.pairwise_cons.mp hl).2 hp fun x hx => nomatch hx)
  | c :: r, a :: p, hl, hp, h => by
    have hl' := List.pairwise_cons.mp hl
    have hp' := List.pairwise_cons.mp hp
    by_cases e : a = c
    · subst e
      refine List.mem_append_right _ (List.mem_map.mpr ⟨p, allP_mem hl'.2 hp'.2 fun x hx => ?_, rfl⟩)
      rcases List.mem_cons.mp (h x (List.mem_cons_of_mem _ hx)) with z | z
      · have := hp'.1 x hx; omega
      · exact z
    · refine List.mem_append_left _ (allP_mem hl'.2 hp fun x hx => ?_)
      have ha : a ∈ r := (List.mem_cons.mp (h a List.mem_cons_self)).resolve_left e
      rcases List.mem_cons.mp (h x hx) with z | z
      · subst z
        have h1 := hl'.1 a ha
        rcases List.mem_cons.mp hx with y | y
        · exact absurd y.symm e
        · have := hp'.1 x y; omega
      · exact z
theorem L9_up : up L9 := by unfold up L9; decide
structure okF (f : Fo) : Prop where
  pr : ∀ p ∈ f, okP p
  srt : f.Pairwise fun a b => leP a b = true
  nd : f.Nodup
theorem nodup_le {f : Fo} (h : ∀ p ∈ f, okP p) (nd : f.Nodup) : f.length ≤ 512 := by
  have := up_len.nodup_len (l := f) (m := allP L9) nd fun p hp => allP_mem L9_up (h p hp).1 (h p hp).2
  rw [allP_len] at this
  exact this
theorem okF.len {f : Fo} (h : okF f) : f.length ≤ 512 := nodup_le h.pr h.nd
theorem okF_nil : okF [] := ⟨fun _ h => (nomatch h), List.Pairwise.nil, List.nodup_nil⟩
theorem okF_one {p : Pr} (h : okP p) : okF [p] := ⟨fun x hx => by rw [List.mem_singleton.mp hx]; exact h, List.pairwise_singleton _ _, by simp⟩
theorem okF_sub {f g : Fo} (h : okF f) (s : g.Sublist f) : okF g := ⟨fun p hp => h.pr p (s.subset hp), h.srt.sublist s, h.nd.sublist s⟩
/-! ### gathering -/
def tog (o : Fo) (p : Pr) : Fo := if p ∈ o then o.filter (fun q => decide (q ≠ p)) else o ++ [p]
def gaL (ps : List Pr) : Fo := ps.foldl tog []
def ga (ps : List Pr) : Fo := srtP (gaL ps)
theorem tog_nd {o : Fo} {p : Pr} (h : o.Nodup) : (tog o p).Nodup := by
  unfold tog
  split
  · exact h.sublist List.filter_sublist
  · rename_i c
    exact List.nodup_append.mpr ⟨h, by simp, fun a ha b hb e => c (by rw [List.mem_singleton.mp hb] at e; rw [← e]; exact ha)⟩
theorem tog_sub {o : Fo} {p q : Pr} (h : q ∈ tog o p) : q ∈ o ∨ q = p := by
  unfold tog at h
  split at h
  · exact .inl (List.mem_filter.mp h).1
  · rcases List.mem_append.mp h with h | h
    · exact .inl h
    · exact .inr (List.mem_singleton.mp h)
theorem gaL_nd : ∀ (ps : List Pr) {o : Fo}, o.Nodup → (ps.foldl tog o).Nodup
  | [], _, h => h
  | p :: ps, _, h => gaL_nd ps (tog_nd h)
theorem gaL_sub : ∀ (ps : List Pr) {o : Fo} {q : Pr}, q ∈ ps.foldl tog o → q ∈ o ∨ q ∈ ps
  | [], _, _, h => .inl h
  | p :: ps, _, _, h => by
    rcases gaL_sub ps h with h | h
    · rcases tog_sub h with h | h
      · exact .inl h
      · exact .inr (by rw [h]; exact List.mem_cons_self)
    · exact .inr (List.mem_cons_of_mem _ h)
theorem ga_ok {ps : List Pr} (h : ∀ p ∈ ps, okP p) : okF (ga ps) := by
  refine ⟨fun p hp => ?_, srtP_pw _, (srtP_perm _).nodup_iff.mpr (gaL_nd ps List.nodup_nil)⟩
  · rcases gaL_sub ps ((srtP_perm _).mem_iff.mp hp) with z | z
    · nomatch z
    · exact h p z
/-! ### truth -/
abbrev Row := Nat → Bool
def par (ps : List Pr) (v : Row) : Bool := ps.foldl (fun b p => xor b (p.all v)) false
theorem par_from (v : Row) : ∀ (ps : List Pr) (b : Bool), ps.foldl (fun b p => xor b (p.all v)) b = xor b (par ps v)
  | [], b => by cases b <;> rfl
  | p :: ps, b => by
    unfold par
    rw [List.foldl_cons, List.foldl_cons, par_from v ps, par_from v ps (xor false (p.all v))]
    cases b <;> cases p.all v <;> cases par ps v <;> rfl
theorem par_nil (v : Row) : par [] v = false := rfl
theorem par_cons (p : Pr) (ps : List Pr) (v : Row) : par (p :: ps) v = xor (p.all v) (par ps v) := by
  unfold par
  rw [List.foldl_cons, par_from]
  cases p.all v <;> rfl
theorem par_app (v : Row) : ∀ (ps qs : List Pr), par (ps ++ qs) v = xor (par ps v) (par qs v)
  | [], qs => by rw [List.nil_append, par_nil]; cases par qs v <;> rfl
  | p :: ps, qs => by
    rw [List.cons_append, par_cons, par_cons, par_app v ps qs]
    cases p.all v <;> cases par ps v <;> cases par qs v <;> rfl
theorem par_perm {ps qs : List Pr} (v : Row) (h : ps.Perm qs) : par ps v = par qs v := by
  induction h with
  | nil => rfl
  | cons p _ ih => rw [par_cons, par_cons, ih]
  | swap a b l => rw [par_cons, par_cons, par_cons, par_cons]; cases a.all v <;> cases b.all v <;> cases par l v <;> rfl
  | trans _ _ h1 h2 => exact h1.trans h2
theorem par_del {p : Pr} (v : Row) : ∀ {o : Fo}, o.Nodup → p ∈ o → par (o.filter (fun q => decide (q ≠ p))) v = xor (par o v) (p.all v)
  | q :: o, nd, h => by
    have nd' := List.nodup_cons.mp nd
    by_cases c : q = p
    · subst c
      have e : o.filter (fun r => decide (r ≠ q)) = o := List.filter_eq_self.mpr fun r hr => by
        rw [decide_eq_true_eq]; intro z; exact nd'.1 (by rw [← z]; exact hr)
      rw [List.filter_cons_of_neg (by simp), e, par_cons]
      cases q.all v <;> cases par o v <;> rfl
    · rw [List.filter_cons_of_pos (by simpa using c), par_cons, par_cons, par_del v nd'.2 ((List.mem_cons.mp h).resolve_left fun z => c z.symm)]
      cases q.all v <;> cases par o v <;> cases p.all v <;> rfl
theorem par_tog {o : Fo} {p : Pr} (v : Row) (nd : o.Nodup) : par (tog o p) v = xor (par o v) (p.all v) := by
  unfold tog
  split
  · rename_i c; exact par_del v nd c
  · rw [par_app, par_cons, par_nil]; cases p.all v <;> cases par o v <;> rfl
theorem par_gaL (v : Row) : ∀ (ps : List Pr) {o : Fo}, o.Nodup → par (ps.foldl tog o) v = xor (par o v) (par ps v)
  | [], o, _ => by rw [List.foldl_nil, par_nil]; cases par o v <;> rfl
  | p :: ps, o, nd => by
    rw [List.foldl_cons, par_gaL v ps (tog_nd nd), par_tog v nd, par_cons]
    cases par o v <;> cases p.all v <;> cases par ps v <;> rfl
theorem par_ga (ps : List Pr) (v : Row) : par (ga ps) v = par ps v := by
  unfold ga
  rw [par_perm v (srtP_perm _), gaL, par_gaL v ps List.nodup_nil, par_nil]
  cases par ps v <;> rfl
/-! ### the functions -/
def adF (a b : Fo) : Fo := ga (a ++ b)
def muL (a b : Fo) : List Pr := a.flatMap fun p => b.map fun q => uni p q
def muF (a b : Fo) : Fo := ga (muL a b)
def opF (a : Fo) : Fo := adF a [[]]
def joF (a b : Fo) : Fo := adF (adF a b) (muF a b)
theorem uni_all (v : Row) (p q : Pr) : (uni p q).all v = (p.all v && q.all v) := by
  rw [Bool.eq_iff_iff, Bool.and_eq_true, List.all_eq_true, List.all_eq_true, List.all_eq_true]
  exact ⟨fun h => ⟨fun x hx => h x (uni_mem.mpr (.inl hx)), fun x hx => h x (uni_mem.mpr (.inr hx))⟩, fun ⟨h1, h2⟩ x hx => (uni_mem.mp hx).elim (h1 x) (h2 x)⟩
theorem par_map_uni (v : Row) (p : Pr) : ∀ b : Fo, par (b.map fun q => uni p q) v = (p.all v && par b v)
  | [] => by rw [List.map_nil, par_nil, Bool.and_false]
  | q :: b => by
    rw [List.map_cons, par_cons, par_cons, par_map_uni v p b, uni_all]
    cases p.all v <;> cases q.all v <;> cases par b v <;> rfl
theorem par_muL (v : Row) : ∀ a b : Fo, par (muL a b) v = (par a v && par b v)
  | [], b => by rw [show muL [] b = [] from rfl, par_nil]; rfl
  | p :: a, b => by
    rw [show muL (p :: a) b = (b.map fun q => uni p q) ++ muL a b from rfl, par_app, par_map_uni, par_muL v a b, par_cons]
    cases p.all v <;> cases par a v <;> cases par b v <;> rfl
theorem par_ad (v : Row) (a b : Fo) : par (adF a b) v = xor (par a v) (par b v) := by rw [adF, par_ga, par_app]
theorem par_mu (v : Row) (a b : Fo) : par (muF a b) v = (par a v && par b v) := by rw [muF, par_ga, par_muL]
theorem par_one (v : Row) : par [[]] v = true := rfl
theorem par_op (v : Row) (a : Fo) : par (opF a) v = !par a v := by rw [opF, par_ad, par_one]; cases par a v <;> rfl
theorem par_jo (v : Row) (a b : Fo) : par (joF a b) v = (par a v || par b v) := by
  rw [joF, par_ad, par_ad, par_mu]; cases par a v <;> cases par b v <;> rfl
theorem ad_ok {a b : Fo} (ha : okF a) (hb : okF b) : okF (adF a b) := ga_ok fun p hp => (List.mem_append.mp hp).elim (ha.pr p) (hb.pr p)
theorem muL_ok {a b : Fo} (ha : okF a) (hb : okF b) : ∀ p ∈ muL a b, okP p := fun p hp => by
  obtain ⟨x, hx, h⟩ := List.mem_flatMap.mp hp
  obtain ⟨y, hy, rfl⟩ := List.mem_map.mp h
  exact okP_uni (ha.pr x hx) (hb.pr y hy)
theorem mu_ok {a b : Fo} (ha : okF a) (hb : okF b) : okF (muF a b) := ga_ok (muL_ok ha hb)
theorem one_ok : okF [[]] := okF_one okP_nil
theorem op_ok {a : Fo} (ha : okF a) : okF (opF a) := ad_ok ha one_ok
theorem jo_ok {a b : Fo} (ha : okF a) (hb : okF b) : okF (joF a b) := ad_ok (ad_ok ha hb) (mu_ok ha hb)
theorem muL_len : ∀ a b : Fo, (muL a b).length = a.length * b.length
  | [], b => by simp [muL]
  | p :: a, b => by
    rw [show muL (p :: a) b = (b.map fun q => uni p q) ++ muL a b from rfl, List.length_append, List.length_map, muL_len a b, List.length_cons, Nat.succ_mul, Nat.add_comm]
/-! ### a form that is never true is empty -/
theorem sub_eq {p q : Pr} (hp : up p) (hq : up q) (hs : ∀ c ∈ q, c ∈ p) (hl : p.length ≤ q.length) : q = p := by
  have np : p.Nodup := hp.imp fun {x y} z => Nat.ne_of_lt z
  have nq : q.Nodup := hq.imp fun {x y} z => Nat.ne_of_lt z
  refine up_eq hq hp fun x => ⟨hs x, fun hx => ?_⟩
  false_or_by_contra
  rename_i c
  have := up_len.nodup_len (l := x :: q) (m := p) (List.nodup_cons.mpr ⟨c, nq⟩) fun y hy => by
    rcases List.mem_cons.mp hy with e | e
    · rw [e]; exact hx
    · exact hs y e
  simp only [List.length_cons] at this; omega
theorem par_only {f : Fo} (v : Row) {p : Pr} (nd : f.Nodup) (hp : p ∈ f) (h : ∀ q ∈ f, q.all v = decide (q = p)) : par f v = true := by
  have e := par_del v nd hp
  have z : ∀ g : Fo, (∀ q ∈ g, q.all v = false) → par g v = false := fun g => by
    induction g with
    | nil => intro _; rfl
    | cons q g ih => intro h; rw [par_cons, h q List.mem_cons_self, ih fun r hr => h r (List.mem_cons_of_mem _ hr)]; rfl
  rw [z _ fun q hq => by
    have := List.mem_filter.mp hq
    rw [h q this.1]
    exact decide_eq_false (of_decide_eq_true this.2), h p hp] at e
  simp only [decide_true] at e
  cases q : par f v with
  | true => rfl
  | false => rw [q] at e; cases e
theorem min_ex : ∀ {f : Fo}, f ≠ [] → ∃ p ∈ f, ∀ q ∈ f, p.length ≤ q.length
  | [], h => absurd rfl h
  | [p], _ => ⟨p, List.mem_singleton.mpr rfl, fun q hq => by rw [List.mem_singleton.mp hq]; exact Nat.le_refl _⟩
  | p :: q :: f, _ => by
    obtain ⟨r, hr, h⟩ := min_ex (f := q :: f) (by simp)
    by_cases c : p.length ≤ r.length
    · exact ⟨p, List.mem_cons_self, fun x hx => by
        rcases List.mem_cons.mp hx with e | e
        · rw [e]; exact Nat.le_refl _
        · exact Nat.le_trans c (h x e)⟩
    · exact ⟨r, List.mem_cons_of_mem _ hr, fun x hx => by
        rcases List.mem_cons.mp hx with e | e
        · rw [e]; omega
        · exact h x e⟩
theorem never_nil' {f : Fo} (hpr : ∀ p ∈ f, okP p) (hnd : f.Nodup) (hv : ∀ v, par f v = false) : f = [] := by
  false_or_by_contra
  rename_i c
  obtain ⟨p, hp, hm⟩ := min_ex c
  have := par_only (fun n => decide (n ∈ p)) hnd hp fun q hq => by
    rw [Bool.eq_iff_iff, List.all_eq_true, decide_eq_true_eq]
    constructor
    · intro z
      exact sub_eq (hpr p hp).1 (hpr q hq).1 (fun c hc => of_decide_eq_true (z c hc)) (hm q hq)
    · rintro rfl c hc
      exact decide_eq_true hc
  rw [hv] at this
  cases this
theorem never_nil {f : Fo} (h : okF f) (hv : ∀ v, par f v = false) : f = [] := never_nil' h.pr h.nd hv
theorem par_split (v : Row) (q : Pr → Bool) : ∀ f : Fo, par f v = xor (par (f.filter q) v) (par (f.filter fun p => !q p) v)
  | [] => rfl
  | p :: f => by
    rw [par_cons, par_split v q f]
    cases h : q p with
    | true =>
      rw [List.filter_cons_of_pos h, List.filter_cons_of_neg (by simp [h]), par_cons]
      cases p.all v <;> cases par (f.filter q) v <;> cases par (f.filter fun p => !q p) v <;> rfl
    | false =>
      rw [List.filter_cons_of_neg (by simp [h]), List.filter_cons_of_pos (by simp [h]), par_cons]
      cases p.all v <;> cases par (f.filter q) v <;> cases par (f.filter fun p => !q p) v <;> rfl
/-- the same truths, the same form -/
theorem form_eq {f g : Fo} (hf : okF f) (hg : okF g) (h : ∀ v, par f v = par g v) : f = g := by
  have e : (f.filter fun p => !decide (p ∈ g)) ++ (g.filter fun p => !decide (p ∈ f)) = [] := by
    refine never_nil' (fun p hp => (List.mem_append.mp hp).elim (fun z => hf.pr p (List.mem_filter.mp z).1) fun z => hg.pr p (List.mem_filter.mp z).1) ?_ fun v => ?_
    · refine List.nodup_append.mpr ⟨hf.nd.sublist List.filter_sublist, hg.nd.sublist List.filter_sublist, fun a ha b hb e => ?_⟩
      have h1 := (List.mem_filter.mp ha).2
      have h2 := (List.mem_filter.mp hb).1
      rw [e] at h1
      simp [h2] at h1
    · have h1 := par_split v (fun p => decide (p ∈ g)) f
      have h2 := par_split v (fun p => decide (p ∈ f)) g
      have h3 : par (f.filter fun p => decide (p ∈ g)) v = par (g.filter fun p => decide (p ∈ f)) v := par_perm v (perm_of_mem (hf.nd.sublist List.filter_sublist) (hg.nd.sublist List.filter_sublist) fun x => by
        simp only [List.mem_filter, decide_eq_true_eq]; exact And.comm)
      rw [par_app]
      have h4 := h v
      rw [h1, h2, h3] at h4
      revert h4
      cases par (g.filter fun p => decide (p ∈ f)) v <;> cases par (f.filter fun p => !decide (p ∈ g)) v <;> cases par (g.filter fun p => !decide (p ∈ f)) v <;> simp
  have e1 := List.append_eq_nil_iff.mp e
  have m : ∀ x, x ∈ f ↔ x ∈ g := fun x => by
    constructor
    · intro hx
      false_or_by_contra; rename_i c
      have : x ∈ (f.filter fun p => !decide (p ∈ g)) := List.mem_filter.mpr ⟨hx, by simp [c]⟩
      rw [e1.1] at this; nomatch this
    · intro hx
      false_or_by_contra; rename_i c
      have : x ∈ (g.filter fun p => !decide (p ∈ f)) := List.mem_filter.mpr ⟨hx, by simp [c]⟩
      rw [e1.2] at this; nomatch this
  exact List.Perm.eq_of_pairwise (fun a b _ _ h h' => leP_antisymm h h') hf.srt hg.srt (perm_of_mem hf.nd hg.nd m)
def leF (a b : Fo) : Bool := decide (muF a (opF b) = [])
theorem le_iff {a b : Fo} (ha : okF a) (hb : okF b) : leF a b = true ↔ ∀ v, par a v = true → par b v = true := by
  unfold leF
  rw [decide_eq_true_eq]
  constructor
  · intro h v hv
    have : par (muF a (opF b)) v = false := by rw [h]; rfl
    rw [par_mu, par_op, hv] at this
    cases q : par b v with
    | true => rfl
    | false => rw [q] at this; cases this
  · intro h
    refine never_nil (mu_ok ha (op_ok hb)) fun v => ?_
    rw [par_mu, par_op]
    cases q : par a v with
    | false => rfl
    | true => rw [h v q]; rfl
end Fs

/-! P0: what all defs use. -/
namespace Fs
open PySem PySem.Spec L2
open SX (S)
abbrev sS (p : Pr) : D := .str (S p)
abbrev frm (f : Fo) : D := .tup (f.map sS)
abbrev lsS (f : List Pr) : D := .lst (f.map sS)
abbrev B0 : Bool → T := fun b => .fz (.bl b)
theorem empty_S : Str.ofString "" = S [] := by decide +kernel
theorem few_L9 {a : List Nat} (h : ∀ c ∈ a, c ∈ L9) : Few (a.map sgn) := fun ys nd hs => by
  have := up_len.nodup_len (l := ys) (m := L9.map sgn) nd fun y hy => by
    obtain ⟨c, hc, e⟩ := List.mem_map.mp (hs y hy)
    exact List.mem_map.mpr ⟨c, h c hc, e⟩
  simp only [List.length_map] at this
  exact Nat.lt_of_le_of_lt this (by decide)
theorem few_len {xs : List Str} (h : xs.length < 4096) : Few xs := fun ys nd hs => Nat.lt_of_le_of_lt (up_len.nodup_len nd hs) h
theorem size64 : (16777216 : Nat) = sizeLine := by decide
theorem le_size {n m : Nat} (h : n ≤ m) (hm : m ≤ 16777216) : n ≤ sizeLine := by rw [← size64]; omega
theorem lt_size {n m : Nat} (h : n ≤ m) (hm : m < 16777216) : n < sizeLine := by rw [← size64]; omega
section
variable {X : Cx} {W : WX} {ρ ρ' ρ1 ρ2 : Env} {e a b o : Expr} {d d1 d2 : D} {t t1 t2 : T} {pos p apos : Pos} {Po : Post} {N : List Str} {scp : Scope} {vs ls : List Nat} {gs : List Str} {es : List Expr} {ds : List D} {ts : List T} {k : Key} {ks : List Key}
/-- own lists of frozen things, given up -/
theorem ep_fzL {α : Type} {xs : List α} {f : α → D} (h : EP X ρ e (.lst (xs.map fun x => .fz (f x)))) : EA X ρ e (.lst (xs.map f)) := ep_fz' h (by
  show D.lst (ers _) = _
  rw [ers_map, List.map_map]; rfl)
theorem ea_es {j} : EA X ρ (.Constant (.str (Str.ofString "")) j pos) (sS []) := (ea_str).eq (congrArg D.str empty_S)
theorem pre_lt {α : Type} {xs pre post : List α} {x : α} {n : Nat} (h : xs = pre ++ x :: post) (hl : xs.length ≤ n) : pre.length < n := by
  subst h; simp at hl; omega
theorem pre_mem {α : Type} {xs pre post : List α} {x : α} (h : xs = pre ++ x :: post) : x ∈ xs := by subst h; simp
theorem pre_sub {α : Type} {xs pre post : List α} {x : α} (h : xs = pre ++ x :: post) : ∀ y ∈ pre, y ∈ xs := fun y hy => by subst h; simp [hy]
/-- ''.join(sorted(set(e))) -/
theorem ea_jsu {l : List Nat} {q1 q2 p1 p2 cp : Pos} {jj} (hr : Room 0 X.A) (Sc : Sco X N scp vs ls gs) (j i : Nat) (hg : gs[j]? = some (Str.ofString "sorted")) (hm : X.mg (Str.ofString "sorted") = none) (hg2 : gs[i]? = some (Str.ofString "set")) (hm2 : X.mg (Str.ofString "set") = none) (ha : EA X ρ e (sS l)) (hl : l.length ≤ 4194304) (few : Few (l.map sgn)) (hn : NS e := by intro _ _; rfl)
    (hline : (apos.endLine == pos.line) = true := by rfl) : EA X ρ (.Call (.Attribute (.Constant (.str (Str.ofString "")) jj cp) (Str.ofString "join") apos) [.Call (.Name (Str.ofString "sorted") p1) [.Call (.Name (Str.ofString "set") p2) [e] [] q2] [] q1] [] pos) (sS (srtN l)) := by
  have hl2 : (l.map sgn).length ≤ sizeLine := by rw [List.length_map]; exact le_size hl (by decide)
  have h := ea_join (o := .Constant (.str (Str.ofString "")) jj cp) (pos := pos) (apos := apos) (hline := hline) (sep := S []) ea_es (ep_fzL (f := D.str) (ep_srtU (p := p1) (pos := q1) (q2 := q2) (p2 := p2) hr Sc j i hg hm hg2 hm2 ha (Txts.str (S l) (le_size (show (S l).cps.size ≤ 4194304 from hl) (by decide))) hl2 few hn)) (.inl rfl) ?_
  · refine h.eq ?_
    rw [show (S l).cps.toList = l from rfl, srtU_sgn, join_sgn]
  · have e : srtU ((S l).cps.toList.map sgn) = (srtN l).map sgn := srtU_sgn l
    rw [e, List.map_map, List.length_map]
    have hs : ∀ l : List Nat, ((l.map ((fun x : Str => x.length) ∘ sgn)).sum) = l.length := fun l => by
      induction l with
      | nil => rfl
      | cons a l ih => rw [List.map_cons, List.sum_cons, ih]; show 1 + l.length = _; rw [List.length_cons]; omega
    rw [hs]
    have h1 : (srtN l).length ≤ l.length := up_len.nodup_len (srtN_nodup l) fun c hc => srtN_mem.mp hc
    rw [show (S []).length = 0 from rfl, Nat.mul_zero]
    omega
/-- sorted(d.keys()) of a dict of texts -/
theorem ea_skeysF {α : Type} {g : α → D} {kv : List (Str × α)} {cpos : Pos} (hr : Room 0 X.A) (Sc : Sco X N scp vs ls gs) (j : Nat) (hg : gs[j]? = some (Str.ofString "sorted")) (hm : X.mg (Str.ofString "sorted") = none) (ha : EA X ρ e (dF g kv))
    (hbase : attributeBase e "keys" X.env (eval e X.env) = eval e X.env := by rfl) (hline : (apos.endLine == cpos.line) = true := by rfl) : EA X ρ (.Call (.Name (Str.ofString "sorted") p) [.Call (.Attribute e (Str.ofString "keys") apos) [] [] cpos] [] pos) (.lst ((srt (kv.map (·.1))).map .str)) :=
  ep_fzL (ep_skeys (kz := kv.map (·.1)) (ds := kv.map fun q => g q.2) hr Sc j hg hm (ha.eq (by
    show D.dct _ _ = D.dct _ _
    rw [List.map_map]; rfl)) hbase hline)
theorem er_dT {α : Type} {g : α → D} {kv : List (Str × α)} : (dT (fun a => T.fz (g a)) kv).er = dF g kv := by
  show D.dct _ (ers _) = D.dct _ _
  rw [ers_dT]
theorem sa_fzD {α : Type} {g : α → D} {kv : List (Str × α)} {sts : List Stmt} (i : Nat) (hi : ρ[i]? = some (some (dT (fun a => T.fz (g a)) kv))) (h : SA X W (ρ.set i (some (.fz (dF g kv)))) sts Po) : SA X W ρ sts Po := sa_fz i hi (by rw [er_dT]; exact h)
theorem sa_fzL {α : Type} {xs : List α} {f : α → D} {sts : List Stmt} (i : Nat) (hi : ρ[i]? = some (some (.lst (xs.map fun x => .fz (f x))))) (h : SA X W (ρ.set i (some (.fz (.lst (xs.map f))))) sts Po) : SA X W ρ sts Po := sa_fz i hi (by
  rw [show T.er (.lst (xs.map fun x => .fz (f x))) = D.lst (xs.map f) by
    show D.lst (ers _) = _
    rw [ers_map, List.map_map]; rfl]
  exact h)
theorem ea_list (Sc : Sco X N scp vs ls gs) (j : Nat) (hg : gs[j]? = some (Str.ofString "list")) (hm : X.mg (Str.ofString "list") = none) (ha : EA X ρ a d) (hd : d = .lst ds ∨ d = .tup ds ∨ d = .rol ds) (hn : NS a := by intro _ _; rfl) : EA X ρ (.Call (.Name (Str.ofString "list") p) [a] [] pos) (.lst ds) :=
  ep_fz' (ep_list Sc j hg hm ha hd hn) (congrArg D.lst (ers_fz ds))
theorem ea_cat {xs ys : List D} (ha : EA X ρ a (.lst xs)) (hb : EA X ρ b (.lst ys)) (hl : xs.length + ys.length ≤ sizeLine) : EA X ρ (.BinOp a .Add b pos) (.lst (xs ++ ys)) :=
  ep_fz' (ep_bin ha hb hl) (congrArg D.lst (ers_fz _))
theorem ea_scat {x y : Pr} (ha : EA X ρ a (sS x)) (hb : EA X ρ b (sS y)) (hl : x.length + y.length ≤ sizeLine) : EA X ρ (.BinOp a .Add b pos) (sS (x ++ y)) :=
  (ep_fz' (ep_bin ha hb (by rw [SX.S_len, SX.S_len]; exact hl)) rfl : EA X ρ (.BinOp a .Add b pos) (.str (S x ++ S y))).eq (by rw [SX.S_cat])
theorem ea_joinT {f : Fo} {jj} {cp : Pos} (he : EA X ρ e (frm f)) (hl : (f.map (·.length)).sum ≤ 16777216) (hn : NS e := by intro _ _; rfl) (hline : (apos.endLine == pos.line) = true := by rfl) : EA X ρ (.Call (.Attribute (.Constant (.str (Str.ofString "")) jj cp) (Str.ofString "join") apos) [e] [] pos) (sS f.flatten) :=
  (ea_join (o := .Constant (.str (Str.ofString "")) jj cp) (sep := S []) (xs := f.map S) ea_es he (.inr (by rw [List.map_map]; rfl)) (by
    rw [show (S []).length = 0 from rfl, Nat.mul_zero, SX.lens]; exact hl) hn rfl hline).eq (by rw [join_S0])
theorem ea_joinL {f : Fo} {jj} {cp : Pos} (he : EA X ρ e (lsS f)) (hl : (f.map (·.length)).sum ≤ 16777216) (hn : NS e := by intro _ _; rfl) (hline : (apos.endLine == pos.line) = true := by rfl) : EA X ρ (.Call (.Attribute (.Constant (.str (Str.ofString "")) jj cp) (Str.ofString "join") apos) [e] [] pos) (sS f.flatten) :=
  (ea_join (o := .Constant (.str (Str.ofString "")) jj cp) (sep := S []) (xs := f.map S) ea_es he (.inl (by rw [List.map_map]; rfl)) (by
    rw [show (S []).length = 0 from rfl, Nat.mul_zero, SX.lens]; exact hl) hn rfl hline).eq (by rw [join_S0])
theorem okF_sum {f : Fo} (h : ∀ p ∈ f, okP p) : (f.map (·.length)).sum ≤ 9 * f.length := by
  induction f with
  | nil => simp
  | cons p f ih =>
    have h1 := okP_len (h p List.mem_cons_self)
    have h2 := ih fun q hq => h q (List.mem_cons_of_mem _ hq)
    simp only [List.map_cons, List.sum_cons, List.length_cons]; omega
theorem flat_L9 {f : Fo} (h : ∀ p ∈ f, okP p) : ∀ c ∈ f.flatten, c ∈ L9 := fun c hc => by
  obtain ⟨p, hp, h2⟩ := List.mem_flatten.mp hc
  exact (h p hp).2 c h2
theorem foldl_map {α β : Type} {f : α → β} : ∀ (xs : List α) (acc : List β), xs.foldl (fun acc x => acc ++ [f x]) acc = acc ++ xs.map f
  | [], acc => by simp
  | x :: xs, acc => by rw [List.foldl_cons, foldl_map xs, List.append_assoc]; rfl
theorem foldl_flat {α β : Type} {f : α → List β} : ∀ (xs : List α) (acc : List β), xs.foldl (fun acc x => acc ++ f x) acc = acc ++ xs.flatMap f
  | [], acc => by simp
  | x :: xs, acc => by rw [List.foldl_cons, foldl_flat xs, List.append_assoc]; rfl
theorem Wk.trans : ∀ {a b c : Env}, Wk a b → Wk b c → Wk a c
  | [], _, _, h, h2 => by rw [show _ = ([] : Env) from h] at h2; exact h2
  | _ :: _, [], _, h, _ => h.elim
  | _ :: a, none :: b, [], h, h2 => h2.elim
  | _ :: a, none :: b, none :: c, h, h2 => Wk.trans (a := a) (b := b) (c := c) h h2
  | _ :: a, none :: b, some t :: c, h, h2 => nomatch h2.1
  | x :: a, some u :: b, [], h, h2 => h2.elim
  | x :: a, some u :: b, none :: c, h, h2 => Wk.trans (a := a) (b := b) (c := c) h.2 h2
  | x :: a, some u :: b, some t :: c, h, h2 => ⟨h.1.trans h2.1, Wk.trans h.2 h2.2⟩
/-! ### comparing -/
def okS (x : Str) : Bool := PyData.strOk x
structure Shp (n : Nat) (d : D) : Prop where
  pl : plainD d = true
  cl : PyData.canLay0 (toPy d) = true
  dp : (toPy d).depth ≤ n
theorem toPys_map : ∀ ds : List D, toPys ds = ds.map toPy
  | [] => rfl
  | d :: ds => by rw [toPys, toPys_map ds]; rfl
theorem Shps : ∀ {n : Nat} {ds : List D}, (∀ d ∈ ds, Shp n d) → plainDs ds = true ∧ PyData.canLayAll0 (toPys ds) = true ∧ PyData.depthAll (toPys ds) ≤ n
  | n, [], _ => ⟨rfl, rfl, Nat.zero_le _⟩
  | n, d :: ds, h => by
    obtain ⟨h1, h2, h3⟩ := Shps (ds := ds) fun x hx => h x (List.mem_cons_of_mem _ hx)
    obtain ⟨g1, g2, g3⟩ := h d List.mem_cons_self
    refine ⟨?_, ?_, ?_⟩
    · show (plainD d && plainDs ds) = true; rw [g1, h1]; rfl
    · show (PyData.canLay0 (toPy d) && PyData.canLayAll0 (toPys ds)) = true; rw [g2, h2]; rfl
    · show max (toPy d).depth (PyData.depthAll (toPys ds)) ≤ n; omega
theorem Shp.tup {n : Nat} (h : ∀ d ∈ ds, Shp n d) : Shp (n + 1) (.tup ds) := by
  obtain ⟨h1, h2, h3⟩ := Shps h
  exact ⟨h1, h2, Nat.succ_le_succ h3⟩
theorem Shp.lst {n : Nat} (h : ∀ d ∈ ds, Shp n d) : Shp (n + 1) (.lst ds) := by
  obtain ⟨h1, h2, h3⟩ := Shps h
  exact ⟨h1, h2, Nat.succ_le_succ h3⟩
theorem Shp.rol {n : Nat} (h : ∀ d ∈ ds, Shp n d) : Shp (n + 1) (.rol ds) := by
  obtain ⟨h1, h2, h3⟩ := Shps h
  exact ⟨h1, h2, Nat.succ_le_succ h3⟩
theorem Shp.str {x : Str} (h : PyData.strOk x = true) : Shp 0 (.str x) := ⟨rfl, h, Nat.le_refl _⟩
theorem Shp.int {i : Int} : Shp 0 (.int i) := ⟨rfl, rfl, Nat.le_refl _⟩
theorem Shp.bl {i : Bool} : Shp 0 (.bl i) := ⟨rfl, rfl, Nat.le_refl _⟩
theorem Shp.non : Shp 0 .non := ⟨rfl, rfl, Nat.le_refl _⟩
theorem Shp.mono {n m : Nat} (h : Shp n d) (l : n ≤ m) : Shp m d := ⟨h.pl, h.cl, Nat.le_trans h.dp l⟩
theorem Shp.shp {n : Nat} (h : Shp n d) (l : n ≤ 64) : shp d := ⟨h.pl, by unfold SeqAt.shaped; rw [h.cl, decide_eq_true (Nat.le_trans h.dp l)]; rfl⟩
theorem eqvAll_map {α : Type} {g : α → PyData} {f : α → PyData} [DecidableEq α] (h : ∀ x y, PyData.eqv (g x) (f y) = decide (x = y)) : ∀ xs ys : List α, PyData.eqvAll (xs.map g) (ys.map f) = decide (xs = ys)
  | [], [] => rfl
  | [], _ :: _ => rfl
  | _ :: _, [] => rfl
  | x :: xs, y :: ys => by
    show (PyData.eqv (g x) (f y) && PyData.eqvAll (xs.map g) (ys.map f)) = _
    rw [h, eqvAll_map h xs ys]
    by_cases c : x = y <;> by_cases c2 : xs = ys <;> simp [c, c2]
theorem eqv_sS (x y : Pr) : PyData.eqv (toPy (sS x)) (toPy (sS y)) = decide (x = y) := by
  show (S x == S y) = _
  rw [SX.S_beq_eq]
theorem eqD_frm (f g : Fo) : eqD (frm f) (frm g) = decide (f = g) := by
  show PyData.eqvAll (toPys (f.map sS)) (toPys (g.map sS)) = _
  rw [toPys_map, toPys_map, List.map_map, List.map_map]
  exact eqvAll_map (fun x y => eqv_sS x y) f g
theorem eqD_lsS (f g : Fo) : eqD (lsS f) (lsS g) = decide (f = g) := by
  show PyData.eqvAll (toPys (f.map sS)) (toPys (g.map sS)) = _
  rw [toPys_map, toPys_map, List.map_map, List.map_map]
  exact eqvAll_map (fun x y => eqv_sS x y) f g
theorem L9_small : ∀ c ∈ L9, c < 0x110000 := by decide
theorem strOk_S {l : List Nat} (h : ∀ c ∈ l, c < 0x110000) : PyData.strOk (S l) = true := by
  show (S l).cps.all _ = true
  rw [← Array.all_toList, List.all_eq_true]
  exact fun c hc => decide_eq_true (h c hc)
theorem okP_str {q : Pr} (h : okP q) : PyData.strOk (S q) = true := strOk_S fun c hc => L9_small c (h.2 c hc)
theorem Shp.frm {f : Fo} (h : ∀ p ∈ f, okP p) : Shp 1 (frm f) := Shp.tup fun d hd => by
  obtain ⟨p, hp, rfl⟩ := List.mem_map.mp hd
  exact Shp.str (okP_str (h p hp))
theorem shp_frm {f : Fo} (h : ∀ p ∈ f, okP p) : shp (frm f) := (Shp.frm h).shp (by decide)
theorem shp_lsS {f : Fo} (h : ∀ p ∈ f, okP p) : shp (lsS f) := (Shp.lst (n := 0) fun d hd => by
  obtain ⟨p, hp, rfl⟩ := List.mem_map.mp hd
  exact Shp.str (okP_str (h p hp))).shp (by decide)
/-! one sign in a text -/
theorem bp_inS {c : Nat} {l : List Nat} (ha : EA X ρ a (sS [c])) (hb : EA X ρ b (sS l)) (hm : behindInMarks .In b = false) : BP X ρ (.Compare a [.In] [b] pos) (decide (c ∈ l)) :=
  bp_of (pt_cmpR op_in_sign ha.pe hb.pe hm) fun σ H S O R p Q k => useA p fun v1 H1 S1 sm1 p1 r1 => useA p1 fun v2 H2 S2 sm2 p2 r2 => ⟨c, SX.S l, r1, r2, _, rfl, k H2 S2 (sm1.trans sm2) p2.hi⟩
theorem bp_ninS {c : Nat} {l : List Nat} (ha : EA X ρ a (sS [c])) (hb : EA X ρ b (sS l)) (hm : behindInMarks .NotIn b = false) : BP X ρ (.Compare a [.NotIn] [b] pos) (!decide (c ∈ l)) :=
  bp_of (pt_cmpR op_notIn_sign ha.pe hb.pe hm) fun σ H S O R p Q k => useA p fun v1 H1 S1 sm1 p1 r1 => useA p1 fun v2 H2 S2 sm2 p2 r2 => ⟨c, SX.S l, r1, r2, _, rfl, k H2 S2 (sm1.trans sm2) p2.hi⟩
/-! comprehensions, the names looked at by a check -/
def ckB (N : List Str) (scp scope : Scope) (own : List (Str × Nat)) (vs' ls' : List Nat) (gs' : List Str) : Bool := blkC N scp scope own && (chk N (relS scope scp) vs' ls' gs' && (ls'.all fun i => match N[i]? with
    | some x => decide (scope.names.lookup x = some .cell) || decide ((relS scope scp).names.lookup x = some .local)
    | none => true))
theorem ep_lcS {β : Type} {elt tg iter : Expr} {ifs : List Expr} {scope : Scope} (Sc : Sco X N scp vs ls gs) (own : List (Str × Nat)) (vs' ls' : List Nat) (gs' : List Str) (xs : List β) (enc : β → D) (pr : β → Bool) (f : β → T) (hI : IA X ρ tg iter (xs.map enc))
    (hb : (∀ s0 H0 C cl fp, Sco (bk X scope s0 H0 C cl fp) N (relS scope scp) vs' ls' gs') → ∀ s0 H0 C cl fp x, x ∈ xs → GW (bk X scope s0 H0 C cl fp) tg (enc x) (clr ρ (own.map (·.2))) (own.map (·.2)) fun ρ2 => clr ρ2 (own.map (·.2)) = clr ρ (own.map (·.2)) ∧ ∀ s0 H0 C cl fp, IP (bk X scope s0 H0 C cl fp) ρ2 ifs (pr x) ∧ (pr x = true → Fs.EP (bk X scope s0 H0 C cl fp) ρ2 elt (f x)))
    (hl : xs.length ≤ sizeLine) (hck : ckB N scp scope own vs' ls' gs' = true := by decide +kernel) (hs : ∀ x, foldedSetIterable iter X.env x = pure x := by intro _; rfl) : EP X ρ (.ListComp elt [⟨tg, iter, ifs, 0⟩] scope pos) (.lst ((xs.filter pr).map f)) := by
  unfold ckB at hck
  rw [Bool.and_eq_true, Bool.and_eq_true] at hck
  refine ep_lc own xs enc pr f Sc.calm Sc.nd hI (by rw [Sc.n, Sc.sc]; exact blkOk_by hck.1) (hb fun s0 H0 C cl fp => sco_blk Sc hck.2.1 hck.2.2 s0 H0 C cl fp) hl hs
theorem s1_setLcS {β : Type} {y : Str} {py spos : Pos} {elt tg iter : Expr} {ifs : List Expr} {scope : Scope} (Sc : Sco X N scp vs ls gs) (i : Nat) (hyN : N[i]? = some y) (own : List (Str × Nat)) (vs' ls' : List Nat) (gs' : List Str) (xs : List β) (enc : β → D) (pr : β → Bool) (f : β → T) (hI : IA X ρ tg iter (xs.map enc))
    (hb : (∀ s0 H0 C cl fp, Sco (bk X scope s0 H0 C cl fp) N (relS scope scp) vs' ls' gs') → ∀ s0 H0 C cl fp x, x ∈ xs → GW (bk X scope s0 H0 C cl fp) tg (enc x) (clr ρ (own.map (·.2))) (own.map (·.2)) fun ρ2 => clr ρ2 (own.map (·.2)) = clr ρ (own.map (·.2)) ∧ ∀ s0 H0 C cl fp, IP (bk X scope s0 H0 C cl fp) ρ2 ifs (pr x) ∧ (pr x = true → Fs.EP (bk X scope s0 H0 C cl fp) ρ2 elt (f x)))
    (hl : xs.length ≤ sizeLine) (hlt : i < ρ.length) (kk : Po.nx (ρ.set i (some (.lst ((xs.filter pr).map f))))) (hck : (ckB N scp scope own vs' ls' gs' && decide (scp.names.lookup y = some .local) && decide (scp.kind = .function) && !(scope.names.any fun (n, k) => n == y && (k == .local || k == .cell))) = true := by decide +kernel)
    (hln : (py.line == pos.line) = true := by rfl) (hs : ∀ x, foldedSetIterable iter X.env x = pure x := by intro _; rfl) : S1 X W ρ (.Assign [.Name y py] (.ListComp elt [⟨tg, iter, ifs, 0⟩] scope pos) spos) Po := by
  unfold ckB at hck
  simp only [Bool.and_eq_true, decide_eq_true_eq, Bool.not_eq_true'] at hck
  obtain ⟨⟨⟨⟨h1, h2⟩, h3⟩, h4⟩, h5⟩ := hck
  exact s1_setLc Sc i hyN own xs enc pr f hI (by rw [Sc.n, Sc.sc]; exact blkOk_by h1) (hb fun s0 H0 C cl fp => sco_blk Sc h2.1 h2.2 s0 H0 C cl fp) hl h3 h4 hln h5 hlt kk hs
/-- all of them, no test -/
theorem ep_lcM {β : Type} {elt tg iter : Expr} {scope : Scope} (Sc : Sco X N scp vs ls gs) (own : List (Str × Nat)) (vs' ls' : List Nat) (gs' : List Str) (xs : List β) (enc : β → D) (f : β → T) (hI : IA X ρ tg iter (xs.map enc))
    (hb : (∀ s0 H0 C cl fp, Sco (bk X scope s0 H0 C cl fp) N (relS scope scp) vs' ls' gs') → ∀ s0 H0 C cl fp x, x ∈ xs → GW (bk X scope s0 H0 C cl fp) tg (enc x) (clr ρ (own.map (·.2))) (own.map (·.2)) fun ρ2 => clr ρ2 (own.map (·.2)) = clr ρ (own.map (·.2)) ∧ ∀ s0 H0 C cl fp, Fs.EP (bk X scope s0 H0 C cl fp) ρ2 elt (f x))
    (hl : xs.length ≤ sizeLine) (hck : ckB N scp scope own vs' ls' gs' = true := by decide +kernel) (hs : ∀ x, foldedSetIterable iter X.env x = pure x := by intro _; rfl) : EP X ρ (.ListComp elt [⟨tg, iter, [], 0⟩] scope pos) (.lst (xs.map f)) := by
  have h := ep_lcS (pos := pos) (ifs := []) Sc own vs' ls' gs' xs enc (fun _ => true) f hI (fun Sb s0 H0 C cl fp x hx v σ H S O R Q p r q => hb Sb s0 H0 C cl fp x hx v σ H S O R Q p r fun ρ' σ' H' S' O' hp => q ρ' σ' H' S' O' ⟨hp.1, fun s0 H0 C cl fp => ⟨ip_nil, fun _ => hp.2 s0 H0 C cl fp⟩⟩) hl hck hs
  rwa [List.filter_eq_self.mpr fun _ _ => rfl] at h
/-! whole numbers -/
theorem ea_add {i j : Int} (ha : EA X ρ a (.int i)) (hb : EA X ρ b (.int j)) : EA X ρ (.BinOp a .Add b pos) (.int (i + j)) := ep_bin ha hb trivial
theorem ea_sub {i j : Int} (ha : EA X ρ a (.int i)) (hb : EA X ρ b (.int j)) : EA X ρ (.BinOp a .Sub b pos) (.int (i - j)) := ep_bin ha hb trivial
theorem ea_mul {i j : Int} (ha : EA X ρ a (.int i)) (hb : EA X ρ b (.int j)) (h : CMul i j) : EA X ρ (.BinOp a .Mult b pos) (.int (i * j)) := ep_bin ha hb h
theorem ea_mod {i j : Int} (ha : EA X ρ a (.int i)) (hb : EA X ρ b (.int j)) (h : 0 < j) : EA X ρ (.BinOp a .Mod b pos) (.int (i % j)) := ep_bin ha hb h
theorem ea_div {i j : Int} (ha : EA X ρ a (.int i)) (hb : EA X ρ b (.int j)) (h : CDiv i j) : EA X ρ (.BinOp a .FloorDiv b pos) (.int (i / j)) := ep_bin ha hb h
theorem ea_pow {i j : Int} (ha : EA X ρ a (.int i)) (hb : EA X ρ b (.int j)) (h : CPow i j) : EA X ρ (.BinOp a .Pow b pos) (.int (i ^ j.toNat)) := ep_bin ha hb h
theorem bp_ieq {i j : Int} (hr : Room 0 X.A) (ha : EA X ρ a (.int i)) (hb : EA X ρ b (.int j)) (hm : behindInMarks .Eq b = false) : BP X ρ (.Compare a [.Eq] [b] pos) (decide (i = j)) := bp_cmp hr ha hb trivial hm
theorem bp_ine {i j : Int} (hr : Room 0 X.A) (ha : EA X ρ a (.int i)) (hb : EA X ρ b (.int j)) (hm : behindInMarks .NotEq b = false) : BP X ρ (.Compare a [.NotEq] [b] pos) (!decide (i = j)) := bp_cmp hr ha hb trivial hm
theorem bp_ilt {i j : Int} (hr : Room 0 X.A) (ha : EA X ρ a (.int i)) (hb : EA X ρ b (.int j)) (hm : behindInMarks .Lt b = false) : BP X ρ (.Compare a [.Lt] [b] pos) (decide (i < j)) := bp_cmp hr ha hb trivial hm
theorem bp_ile {i j : Int} (hr : Room 0 X.A) (ha : EA X ρ a (.int i)) (hb : EA X ρ b (.int j)) (hm : behindInMarks .LtE b = false) : BP X ρ (.Compare a [.LtE] [b] pos) (decide (i ≤ j)) := bp_cmp hr ha hb trivial hm
theorem bp_igt {i j : Int} (hr : Room 0 X.A) (ha : EA X ρ a (.int i)) (hb : EA X ρ b (.int j)) (hm : behindInMarks .Gt b = false) : BP X ρ (.Compare a [.Gt] [b] pos) (decide (j < i)) := bp_cmp hr ha hb trivial hm
theorem bp_ige {i j : Int} (hr : Room 0 X.A) (ha : EA X ρ a (.int i)) (hb : EA X ρ b (.int j)) (hm : behindInMarks .GtE b = false) : BP X ρ (.Compare a [.GtE] [b] pos) (decide (j ≤ i)) := bp_cmp hr ha hb trivial hm
theorem ea_ieq {i j : Int} (hr : Room 0 X.A) (ha : EA X ρ a (.int i)) (hb : EA X ρ b (.int j)) (hm : behindInMarks .Eq b = false) : EA X ρ (.Compare a [.Eq] [b] pos) (.bl (decide (i = j))) := ea_cmp hr ha hb trivial hm
theorem ea_ile {i j : Int} (hr : Room 0 X.A) (ha : EA X ρ a (.int i)) (hb : EA X ρ b (.int j)) (hm : behindInMarks .LtE b = false) : EA X ρ (.Compare a [.LtE] [b] pos) (.bl (decide (i ≤ j))) := ea_cmp hr ha hb trivial hm
theorem bp_sne {x y : Pr} (hr : Room 0 X.A) (ha : EA X ρ a (sS x)) (hb : EA X ρ b (sS y)) (hm : behindInMarks .NotEq b = false) : BP X ρ (.Compare a [.NotEq] [b] pos) (!decide (x = y)) := by
  have h := bp_cmp (pos := pos) hr ha hb trivial hm
  rwa [show decide (S x = S y) = decide (x = y) by congr 1; exact propext ⟨SX.S_inj, fun e => e ▸ rfl⟩] at h
theorem bp_seq {x y : Pr} (hr : Room 0 X.A) (ha : EA X ρ a (sS x)) (hb : EA X ρ b (sS y)) (hm : behindInMarks .Eq b = false) : BP X ρ (.Compare a [.Eq] [b] pos) (decide (x = y)) := by
  have h := bp_cmp (pos := pos) hr ha hb trivial hm
  rwa [show decide (S x = S y) = decide (x = y) by congr 1; exact propext ⟨SX.S_inj, fun e => e ▸ rfl⟩] at h
/-- the script -/
abbrev scr (ns : List Int) : D := .rol (ns.map .int)
theorem scr_at {ns : List Int} {i : Int} {n : Nat} (h : i = n) (hl : n < ns.length) : atI (ns.map D.int) i = some (.int (ns.getD n 0)) := by
  subst h
  unfold atI ixN
  rw [List.length_map, if_pos (by omega), if_pos (by omega)]
  show (List.map D.int ns)[((n : Nat) : Int).toNat]? = _
  rw [Int.toNat_natCast, List.getElem?_map, List.getElem?_eq_getElem hl, List.getD_eq_getElem?_getD, List.getElem?_eq_getElem hl]
  rfl
/-- list(text) -/
theorem cr_listS (hc : X.calm = true) : CallR X (.type "list") (fun xs H Q => ∃ z : Str, xs = [.str z] ∧ z.cps.size ≤ sizeLine ∧ ∀ l, H l = none → Q (.ref l) (upd H l (.lst ((z.cps.toList.map sgn).map V.str)))) := by
  intro pins s σ H vs us Q I r h
  obtain ⟨z, rfl, hz, q⟩ := h
  obtain ⟨u, rfl, ru⟩ := vals1 r
  obtain ⟨t, rfl⟩ := ru
  refine call_list_str (I.ok.hd hc) z t (fun h' tk acc c k hS it => ?_) hz
  have hp : s.heap.get? s.heap.objs.size = none := by
    cases e : s.heap.get? s.heap.objs.size with
    | none => rfl
    | some o => exact absurd (Heap.lt_size e) (Nat.lt_irrefl _)
  have ar := items_signs _ it rfl
  obtain ⟨hn, J⟩ := inv_new (s' := { s with heap := h', toks := tk }) (a := s.heap.objs.size) (o := .lst ((z.cps.toList.map sgn).map V.str)) I k rfl rfl hp fun H' => ⟨by simpa using hz, acc.toList, c, vals_strs ar, by rw [Array.toArray_toList]; exact hS⟩
  exact ⟨.ref s.heap.objs.size, _, J, rfl, q _ hn⟩
theorem ep_listS {l : List Nat} (Sc : Sco X N scp vs ls gs) (j : Nat) (hg : gs[j]? = some (Str.ofString "list")) (hm : X.mg (Str.ofString "list") = none) (ha : EA X ρ a (sS l)) (hl : l.length ≤ sizeLine) (hn : NS a := by intro _ _; rfl) : EP X ρ (.Call (.Name (Str.ofString "list") p) [a] [] pos) (.lst (l.map fun c => .fz (sS [c]))) :=
  ep_callTy (cr_listS Sc.calm) Sc j hg hm boot_list' (ap1 ha hn) hn rfl fun H S L us Q hi r q => by
    obtain ⟨v, rfl, rfl⟩ := r.one
    refine ⟨SX.S l, rfl, hl, fun z nz => q _ _ S [(z, _)] (Same.refl S) (hi.newO nz) ⟨z, _, [], rfl, rfl, ?_⟩⟩
    have := rt_strs (K := X.K) (S := S) (l.map sgn)
    rw [List.map_map] at this
    exact this
theorem L9_S : Str.ofString "abcpqrxyz" = S L9 := by decide +kernel
theorem ea_L9 {j} : EA X ρ (.Constant (.str (Str.ofString "abcpqrxyz")) j pos) (sS L9) := (ea_str).eq (congrArg D.str L9_S)
theorem ep_dcopyT {α : Type} {g : α → D} {kv : List (Str × α)} (Sc : Sco X N scp vs ls gs) (j : Nat) (hg : gs[j]? = some (Str.ofString "dict")) (hm : X.mg (Str.ofString "dict") = none) (ha : EA X ρ a (dF g kv)) (hn : NS a := by intro _ _; rfl) : EP X ρ (.Call (.Name (Str.ofString "dict") p) [a] [] pos) (dT (fun x => .fz (g x)) kv) := by
  have h := ep_dcopy (p := p) (pos := pos) Sc j hg hm ha hn
  rw [List.map_map] at h
  exact h
theorem bp_eq {c c' : Bool} (h : BP X ρ e c) (q : c = c') : BP X ρ e c' := q ▸ h
theorem kit_tt : kitB "tuple" "tuple" = some true := by decide +kernel
theorem kit_ss : kitB "str" "str" = some true := by decide +kernel
theorem kit_bb : kitB "bool" "bool" = some true := by decide +kernel
theorem kit_dd : kitB "dict" "dict" = some true := by decide +kernel
theorem boot_str' : bootBuiltins "str" = some (.type "str") := by decide +kernel
theorem boot_bool' : bootBuiltins "bool" = some (.type "bool") := by decide +kernel
theorem ep_lcdS {x : Str} {elt tg : Expr} {ifs : List Expr} {scope : Scope} {tz : List T} {p2 : Pos} (Sc : Sco X N scp vs ls gs) (own : List (Str × Nat)) (vs' ls' : List Nat) (gs' : List Str) (i : Nat) (hv : vs.contains i = true) (hNi : N[i]? = some x) (h0 : ρ[i]? = some (some (.dct ks tz))) (pr : Key → Bool) (f : Key → T)
    (hb : (∀ s0 H0 C cl fp, Sco (bk X scope s0 H0 C cl fp) N (relS scope scp) vs' ls' gs') → ∀ s0 H0 C cl fp k, k ∈ ks → GW (bk X scope s0 H0 C cl fp) tg (kD k) (clr (ρ.set i (some (.fz (.dct ks (ers tz))))) (own.map (·.2))) (own.map (·.2)) fun ρ2 => clr ρ2 (own.map (·.2)) = clr (ρ.set i (some (.fz (.dct ks (ers tz))))) (own.map (·.2)) ∧ ∀ s0 H0 C cl fp, IP (bk X scope s0 H0 C cl fp) ρ2 ifs (pr k) ∧ (pr k = true → Fs.EP (bk X scope s0 H0 C cl fp) ρ2 elt (f k)))
    (hl : ks.length ≤ sizeLine) (hi : inds ((ks.filter pr).map f) = true) (hck : ckB N scp scope own vs' ls' gs' = true := by decide +kernel) (hs : ∀ y, foldedSetIterable (.Name x p2) X.env y = pure y := by intro _; rfl) : EP X ρ (.ListComp elt [⟨tg, .Name x p2, ifs, 0⟩] scope pos) (.lst ((ks.filter pr).map f)) := by
  unfold ckB at hck
  rw [Bool.and_eq_true, Bool.and_eq_true] at hck
  exact ep_lcd own Sc i hv hNi h0 pr f Sc.calm Sc.nd (by rw [Sc.n, Sc.sc]; exact blkOk_by hck.1) (hb fun s0 H0 C cl fp => sco_blk Sc hck.2.1 hck.2.2 s0 H0 C cl fp) hl hi hs
end
end Fs

namespace Fs
open PySem PySem.Spec L2
open SX (S)
def top (i : Nat) : Stmt := PySem.Challenge.pw_fillsay_k85_rows_that_part.main.body.getD i (.Pass ⟨0, 0, 0, 0⟩)
section
variable {X : Cx} {W : WX} {k : Nat}
/-! gathered -/
def togD (o : List (Str × Bool)) (p : Pr) : List (Str × Bool) := if S p ∈ o.map (·.1) then adel o (S p) else aput o (S p) true
theorem togD_K (o : Fo) (p : Pr) : togD (o.map fun q => (S q, true)) p = (tog o p).map fun q => (S q, true) := by
  have e : S p ∈ (o.map fun q => (S q, true)).map (·.1) ↔ p ∈ o := by
    rw [List.map_map, List.mem_map]
    exact ⟨fun ⟨q, h1, h2⟩ => (SX.S_inj h2) ▸ h1, fun h => ⟨p, h, rfl⟩⟩
  unfold togD tog
  by_cases c : p ∈ o
  · rw [if_pos (e.mpr c), if_pos c]
    unfold adel
    rw [List.filter_map]
    congr 1
    refine List.filter_congr fun q _ => ?_
    show decide (S q ≠ S p) = decide (q ≠ p)
    congr 1
    exact propext ⟨fun h z => h (z ▸ rfl), fun h z => h (SX.S_inj z)⟩
  · rw [if_neg fun z => c (e.mp z), if_neg c]
    unfold aput
    rw [if_neg fun z => c (e.mp z), List.map_append]; rfl
theorem togD_fold : ∀ (ps : List Pr) (o : Fo), ps.foldl togD (o.map fun q => (S q, true)) = (ps.foldl tog o).map fun q => (S q, true)
  | [], _ => rfl
  | p :: ps, o => by rw [List.foldl_cons, togD_K, togD_fold ps]; rfl
theorem tog_len (o : Fo) (p : Pr) : (tog o p).length ≤ o.length + 1 := by
  unfold tog
  split
  · have := List.length_filter_le (fun q : Pr => decide (q ≠ p)) o; omega
  · simp
theorem gaL_len : ∀ (ps : List Pr) (o : Fo), (ps.foldl tog o).length ≤ o.length + ps.length
  | [], o => by simp
  | p :: ps, o => by have := gaL_len ps (tog o p); have := tog_len o p; simp only [List.foldl_cons, List.length_cons]; omega
abbrev kT (q : Pr) : Str × Bool := (S q, true)
def N_gathered : List Str := ["products", "odd", "product"]
theorem bd_gathered (ps : List Pr) (hl : ps.length ≤ 1048576) (Sc : Sco X N_gathered (defScope (top 1)) [0, 1, 2] [0, 1, 2] ["sorted", "tuple"]) (hr : Room 0 X.A) (C : SC X W) (mS : X.mg "sorted" = none) (mT : X.mg "tuple" = none) :
    SA X W [some (.fz (lsS ps)), none, none] (defBody (top 1)) (PostOf (.ok (.fz (frm (ga ps))))) := by
  refine sa_cons (s1_setP Sc 1 rfl rfl ep_dnew (by simp) ?_)
  refine sa_cons (s1_forF C Sc.calm ps sS (fun odd => [none, some (dT B0 (odd.map kT)), none]) tog [] (ia_lst (ea_var Sc 0 rfl rfl rfl)) ⟨rfl, rfl⟩ (fun pre x post hx => ?_) (fun _ w => sa_wk w ?_))
  · refine ga_name Sc 2 rfl rfl (by simp) ?_
    have hlen : (pre.foldl tog []).length < sizeLine := lt_size (Nat.le_trans (gaL_len pre []) (by have := pre_lt hx hl; simp; omega)) (m := 1048576) (by decide)
    have e := togD_K (pre.foldl tog []) x
    refine s1_one (s1_if (bp_bor (bp_din hr (k := kS (S x)) (ea_var Sc 2 rfl rfl rfl) (ea_var Sc 1 rfl rfl rfl) rfl)) (fun hc => ?_) (fun hc => ?_))
    · have hc' := aK_mem.mp (of_decide_eq_true hc)
      obtain ⟨v, hv⟩ := aget_some hc'
      refine s1_one (s1_expr (et_dpop (k := kS (S x)) (d := .bl v) Sc 1 rfl rfl rfl (ea_var Sc 2 rfl rfl rfl) (by rw [aget_V (g := B0), hv]; rfl) ⟨rfl, rfl, rfl, rfl⟩) ?_)
      refine ⟨?_, rfl⟩
      rw [togD, if_pos hc'] at e
      rw [adel_K, adel_V (g := B0), e]
    · have hc' := fun z => of_decide_eq_false hc (aK_mem.mpr z)
      refine s1_one (s1_dput (k := kS (S x)) hr Sc 1 rfl rfl rfl (ea_var Sc 2 rfl rfl rfl) ea_bl (by simpa using hlen) ?_)
      refine ⟨?_, rfl⟩
      rw [togD, if_neg hc'] at e
      rw [aput_K (v := true), aput_V (g := B0), e]
  · refine sa_fzD (g := D.bl) 1 rfl ?_
    refine s1_one (s1_retP ((ep_tuple Sc 1 rfl mT (ea_skeysF hr Sc 0 rfl mS (ea_var Sc 1 rfl rfl rfl))).eq ?_) rfl)
    rw [List.map_map, show ((fun x : Str × Bool => x.1) ∘ kT) = S from rfl, srt_S, List.map_map]
    rfl
/-! added -/
def SpGathered : Spec := fun ds o => ∃ ps : List Pr, ps.length ≤ 1048576 ∧ ds = [lsS ps] ∧ o = .ok (.fz (frm (ga ps)))
def N_added : List Str := ["one", "other"]
theorem bd_added (a b : Fo) (ha : a.length + b.length ≤ 1048576) (Sc : Sco X N_added (defScope (top 2)) [0, 1] [0, 1] ["gathered", "list"]) (hr : Room k X.A) (hr0 : Room 0 X.A) (C : SC X W) (cG : CalX X k "gathered" ["products"] SpGathered) (mL : X.mg "list" = none) :
    SA X W [some (.fz (frm a)), some (.fz (frm b))] (defBody (top 2)) (PostOf (.ok (.fz (frm (adF a b))))) := by
  exact s1_one (s1_retP (ep_call cG hr Sc 0 rfl (ap1 (ea_cat (ea_list Sc 1 rfl mL (ea_var Sc 0 rfl rfl rfl) (.inr (.inl rfl))) (ea_list Sc 1 rfl mL (ea_var Sc 1 rfl rfl rfl) (.inr (.inl rfl))) (by rw [List.length_map, List.length_map]; exact le_size ha (by decide)))) ⟨a ++ b, by rw [List.length_append]; exact ha, by rw [lsS, List.map_append], rfl⟩) rfl)
/-! both_letters -/
def N_both : List Str := ["one", "other"]
theorem bd_both (a b : Pr) (ha : okP a) (hb : okP b) (Sc : Sco X N_both (defScope (top 3)) [0, 1] [0, 1] ["sorted", "set"]) (hr : Room 0 X.A) (C : SC X W) (mS : X.mg "sorted" = none) (mT : X.mg "set" = none) :
    SA X W [some (.fz (sS a)), some (.fz (sS b))] (defBody (top 3)) (PostOf (.ok (.fz (sS (uni a b))))) :=
  s1_one (s1_retP (ea_jsu hr Sc 0 1 rfl mS rfl mT (ea_scat (ea_var Sc 0 rfl rfl rfl) (ea_var Sc 1 rfl rfl rfl) (by have := okP_len ha; have := okP_len hb; exact le_size (m := 18) (by omega) (by decide))) (by have := okP_len ha; have := okP_len hb; simp; omega) (few_L9 fun c hc => (List.mem_append.mp hc).elim (ha.2 c) (hb.2 c))) rfl)
/-! multiplied -/
def SpBoth : Spec := fun ds o => ∃ a b : Pr, okP a ∧ okP b ∧ ds = [sS a, sS b] ∧ o = .ok (.fz (sS (uni a b)))
def N_mult : List Str := ["one", "other", "products", "product", "factor"]
theorem muL_app (a a' b : Fo) : muL (a ++ a') b = muL a b ++ muL a' b := by unfold muL; rw [List.flatMap_append]
theorem bd_mult (a b : Fo) (ha : okF a) (hb : okF b) (Sc : Sco X N_mult (defScope (top 4)) [0, 1, 2, 3, 4] [0, 1, 2, 3, 4] ["gathered", "both_letters"]) (hr : Room k X.A) (C : SC X W) (cG : CalX X k "gathered" ["products"] SpGathered) (cB : CalX X k "both_letters" ["one", "other"] SpBoth) :
    SA X W [some (.fz (frm a)), some (.fz (frm b)), none, none, none] (defBody (top 4)) (PostOf (.ok (.fz (frm (muF a b))))) := by
  have hla := ha.len
  have hlb := hb.len
  refine sa_cons (s1_setP Sc 2 rfl rfl (ep_lst ap_nil (by simp)) (by simp) ?_)
  refine sa_cons (s1_forF C Sc.calm a sS (fun ps => [some (.fz (frm a)), some (.fz (frm b)), some (.lst (ps.map fun p => .fz (sS p))), none, none]) (fun ps p => ps ++ b.map fun q => uni p q) [] (ia_tup (ea_var Sc 0 rfl rfl rfl)) ⟨rfl, rfl, rfl, rfl⟩ (fun pre x post hx => ?_) (fun _ w => sa_wk w ?_))
  · refine ga_name Sc 3 rfl rfl (by simp) ?_
    have hx' := ha.pr x (pre_mem hx)
    have hf : ∀ (pre : Fo) (acc : List Pr), pre.foldl (fun ps p => ps ++ b.map fun q => uni p q) acc = acc ++ muL pre b := fun pre => by
      induction pre with
      | nil => intro acc; simp [muL]
      | cons p pre ih => intro acc; rw [List.foldl_cons, ih, List.append_assoc]; rfl
    have hpl : (muL pre b).length + b.length ≤ 512 * 512 := by
      rw [muL_len, ← Nat.succ_mul]
      exact Nat.mul_le_mul (by have := pre_lt hx hla; omega) hlb
    rw [hf, List.nil_append]
    refine s1_one (s1_forF C Sc.calm b sS (fun ps => [some (.fz (frm a)), some (.fz (frm b)), some (.lst (ps.map fun p => .fz (sS p))), some (.fz (sS x)), none]) (fun ps q => ps ++ [uni x q]) (muL pre b) (ia_tup (ea_var Sc 1 rfl rfl rfl)) ⟨rfl, rfl, rfl, rfl, rfl⟩ (fun pre2 y post2 hy => ?_) (fun _ w => ?_))
    · refine ga_name Sc 4 rfl rfl (by simp) ?_
      have hf2 : ∀ (pre2 : Fo) (acc : List Pr), pre2.foldl (fun ps q => ps ++ [uni x q]) acc = acc ++ pre2.map fun q => uni x q := fun pre2 => by
        induction pre2 with
        | nil => intro acc; simp
        | cons p pre ih => intro acc; rw [List.foldl_cons, ih, List.append_assoc]; rfl
      refine s1_one (s1_expr (et_append (t := .fz (sS (uni x y))) Sc 2 rfl rfl rfl (ep_call cB hr Sc 1 rfl (ap2 (ea_var Sc 3 rfl rfl rfl) (ea_var Sc 4 rfl rfl rfl)) ⟨x, y, hx', hb.pr y (pre_mem hy), rfl, rfl⟩).et rfl ?_) ?_)
      · rw [hf2, List.length_map, List.length_append, List.length_map]
        exact lt_size (m := 512 * 512) (by have := pre_lt hy (Nat.le_refl _); omega) (by decide)
      · refine ⟨rfl, rfl, ?_, rfl, rfl⟩
        rw [List.map_append]; rfl
    · have hf2 : ∀ (pre2 : Fo) (acc : List Pr), pre2.foldl (fun ps q => ps ++ [uni x q]) acc = acc ++ pre2.map fun q => uni x q := fun pre2 => by
        induction pre2 with
        | nil => intro acc; simp
        | cons p pre ih => intro acc; rw [List.foldl_cons, ih, List.append_assoc]; rfl
      rw [hf2] at w
      exact Wk.trans w ⟨rfl, rfl, rfl, rfl⟩
  · have e : a.foldl (fun ps p => ps ++ b.map fun q => uni p q) [] = muL a b := by rw [foldl_flat, List.nil_append]; rfl
    rw [e]
    refine sa_fzL (f := sS) 2 rfl ?_
    exact s1_one (s1_retP (ep_call cG hr Sc 0 rfl (ap1 (ea_var Sc 2 rfl rfl rfl)) ⟨muL a b, by rw [muL_len]; exact Nat.le_trans (Nat.mul_le_mul hla hlb) (by decide), rfl, rfl⟩) rfl)
/-! opposite, joined, leads, letters_of -/
def SpAdded : Spec := fun ds o => ∃ a b : Fo, okF a ∧ okF b ∧ ds = [frm a, frm b] ∧ o = .ok (.fz (frm (adF a b)))
def SpMult : Spec := fun ds o => ∃ a b : Fo, okF a ∧ okF b ∧ ds = [frm a, frm b] ∧ o = .ok (.fz (frm (muF a b)))
def N_opp : List Str := ["form"]
theorem ea_one {ρ : Env} {j} {p1 p2 : Pos} {kk} : EA X ρ (.Tuple [.Constant (.str (Str.ofString "")) j p1] kk p2) (frm [[]]) :=
  ep_fz' (ep_tup (ap_cons ea_es ap_nil) (show 1 ≤ sizeLine by decide)) rfl
theorem ea_none {ρ : Env} {p2 : Pos} {kk} : EA X ρ (.Tuple [] kk p2) (frm []) :=
  ep_fz' (ep_tup ap_nil (by simp)) rfl
theorem bd_opp (a : Fo) (ha : okF a) (Sc : Sco X N_opp (defScope (top 5)) [0] [0] ["added"]) (hr : Room k X.A) (C : SC X W) (cA : CalX X k "added" ["one", "other"] SpAdded) :
    SA X W [some (.fz (frm a))] (defBody (top 5)) (PostOf (.ok (.fz (frm (opF a))))) :=
  s1_one (s1_retP (ep_call cA hr Sc 0 rfl (ap2 (ea_var Sc 0 rfl rfl rfl) ea_one) ⟨a, [[]], ha, one_ok, rfl, rfl⟩) rfl)
def SpOpp : Spec := fun ds o => ∃ a : Fo, okF a ∧ ds = [frm a] ∧ o = .ok (.fz (frm (opF a)))
theorem bd_join (a b : Fo) (ha : okF a) (hb : okF b) (Sc : Sco X N_both (defScope (top 6)) [0, 1] [0, 1] ["added", "multiplied"]) (hr : Room k X.A) (C : SC X W) (cA : CalX X k "added" ["one", "other"] SpAdded) (cM : CalX X k "multiplied" ["one", "other"] SpMult) :
    SA X W [some (.fz (frm a)), some (.fz (frm b))] (defBody (top 6)) (PostOf (.ok (.fz (frm (joF a b))))) :=
  s1_one (s1_retP (ep_call cA hr Sc 0 rfl (ap2 (ep_call cA hr Sc 0 rfl (ap2 (ea_var Sc 0 rfl rfl rfl) (ea_var Sc 1 rfl rfl rfl)) ⟨a, b, ha, hb, rfl, rfl⟩) (ep_call cM hr Sc 1 rfl (ap2 (ea_var Sc 0 rfl rfl rfl) (ea_var Sc 1 rfl rfl rfl)) ⟨a, b, ha, hb, rfl, rfl⟩)) ⟨_, _, ad_ok ha hb, mu_ok ha hb, rfl, rfl⟩) rfl)
def SpJoin : Spec := fun ds o => ∃ a b : Fo, okF a ∧ okF b ∧ ds = [frm a, frm b] ∧ o = .ok (.fz (frm (joF a b)))
theorem bd_leads (a b : Fo) (ha : okF a) (hb : okF b) (Sc : Sco X N_both (defScope (top 7)) [0, 1] [0, 1] ["multiplied", "opposite"]) (hr : Room k X.A) (hr0 : Room 0 X.A) (C : SC X W) (cO : CalX X k "opposite" ["form"] SpOpp) (cM : CalX X k "multiplied" ["one", "other"] SpMult) :
    SA X W [some (.fz (frm a)), some (.fz (frm b))] (defBody (top 7)) (PostOf (.ok (.fz (.bl (leF a b))))) :=
  s1_one (s1_retP ((ea_cmp hr0 (ep_call cM hr Sc 0 rfl (ap2 (ea_var Sc 0 rfl rfl rfl) (ep_call cO hr Sc 1 rfl (ap1 (ea_var Sc 1 rfl rfl rfl)) ⟨b, hb, rfl, rfl⟩)) ⟨_, _, ha, op_ok hb, rfl, rfl⟩ : EA X _ _ (frm (muF a (opF b)))) ea_none ⟨shp_frm (mu_ok ha (op_ok hb)).pr, shp_frm okF_nil.pr⟩ rfl).eq (congrArg D.bl (eqD_frm _ _))) rfl)
def SpLeads : Spec := fun ds o => ∃ a b : Fo, okF a ∧ okF b ∧ ds = [frm a, frm b] ∧ o = .ok (.fz (.bl (leF a b)))
/-- the letters of a form -/
def ltF (a : Fo) : Pr := srtN a.flatten
theorem ltF_ok {a : Fo} (h : okF a) : okP (ltF a) := okP_srtN (flat_L9 h.pr)
theorem bd_letters (a : Fo) (ha : okF a) (Sc : Sco X N_opp (defScope (top 8)) [0] [0] ["sorted", "set"]) (hr0 : Room 0 X.A) (C : SC X W) (mS : X.mg "sorted" = none) (mT : X.mg "set" = none) :
    SA X W [some (.fz (frm a))] (defBody (top 8)) (PostOf (.ok (.fz (sS (ltF a))))) := by
  have hs : (a.map List.length).sum ≤ 9 * a.length := okF_sum ha.pr
  have hs' := okF_sum ha.pr
  have hl := ha.len
  exact s1_one (s1_retP (ea_jsu hr0 Sc 0 1 rfl mS rfl mT (ea_joinT (ea_var Sc 0 rfl rfl rfl) (by omega)) (by rw [List.length_flatten]; omega) (few_L9 (flat_L9 ha.pr))) rfl)
def SpLetters : Spec := fun ds o => ∃ a : Fo, okF a ∧ ds = [frm a] ∧ o = .ok (.fz (sS (ltF a)))
/-! put_in -/
/-- the forms of a dict -/
def lkF (kv : List (Str × Fo)) (c : Nat) : Fo := (aget kv (S [c])).getD [[c]]
def trF (g : Nat → Fo) (p : Pr) : Fo := p.foldl (fun t c => muF t (g c)) [[]]
def putF (f : Fo) (g : Nat → Fo) : Fo := f.foldl (fun found p => adF found (trF g p)) []
theorem foldl_ok {α β : Type} {I : β → Prop} {g : β → α → β} : ∀ {xs : List α} {a : β}, I a → (∀ b x, x ∈ xs → I b → I (g b x)) → I (xs.foldl g a)
  | [], _, h, _ => h
  | x :: xs, _, h, k => foldl_ok (xs := xs) (k _ x List.mem_cons_self h) fun b y hy => k b y (List.mem_cons_of_mem _ hy)
theorem trF_ok {g : Nat → Fo} (hg : ∀ c ∈ L9, okF (g c)) {q : Pr} (h : ∀ c ∈ q, c ∈ L9) : okF (trF g q) := foldl_ok one_ok fun b x hx hb => mu_ok hb (hg x (h x hx))
theorem putF_ok {g : Nat → Fo} (hg : ∀ c ∈ L9, okF (g c)) {f : Fo} (h : ∀ p ∈ f, okP p) : okF (putF f g) := foldl_ok okF_nil fun b x hx hb => ad_ok hb (trF_ok hg (h x hx).2)
theorem lkF_ok {kv : List (Str × Fo)} (h : ∀ q ∈ kv, okF q.2) {c : Nat} (hc : c ∈ L9) : okF (lkF kv c) := by
  have key : ∀ {kv : List (Str × Fo)}, (∀ q ∈ kv, okF q.2) → ∀ {F}, aget kv (S [c]) = some F → okF F := fun {kv} => by
    induction kv with
    | nil => intro _ F h; cases h
    | cons q kv ih =>
      intro h F e
      unfold aget at e
      split at e
      · cases e; exact h q List.mem_cons_self
      · exact ih (fun r hr => h r (List.mem_cons_of_mem _ hr)) e
  unfold lkF
  cases e : aget kv (S [c]) with
  | none => exact okF_one (okP_one hc)
  | some F => exact key h e
def SpPut : Spec := fun ds o => ∃ (f : Fo) (kv : List (Str × Fo)), okF f ∧ (∀ q ∈ kv, okF q.2) ∧ ds = [frm f, dF (fun f : Fo => frm f) kv] ∧ o = .ok (.fz (frm (putF f (lkF kv))))
def N_put : List Str := ["form", "forms", "found", "product", "term", "letter"]
theorem bd_put (f : Fo) (kv : List (Str × Fo)) (hf : okF f) (hk : ∀ q ∈ kv, okF q.2) (Sc : Sco X N_put (defScope (top 12)) [0, 1, 2, 3, 4, 5] [0, 1, 2, 3, 4, 5] ["added", "multiplied", "ALWAYS", "NEVER"]) (hr : Room k X.A) (hr0 : Room 0 X.A) (C : SC X W) (cA : CalX X k "added" ["one", "other"] SpAdded) (cM : CalX X k "multiplied" ["one", "other"] SpMult)
    (gA : Gv X.K X.mg "ALWAYS" (frm [[]])) (gN : Gv X.K X.mg "NEVER" (frm [])) :
    SA X W [some (.fz (frm f)), some (.fz (dF (fun f : Fo => frm f) kv)), none, none, none, none] (defBody (top 12)) (PostOf (.ok (.fz (frm (putF f (lkF kv)))))) := by
  have hg : ∀ c ∈ L9, okF (lkF kv c) := fun c hc => lkF_ok hk hc
  refine sa_cons (s1_setP Sc 2 rfl rfl (ea_glob Sc 3 rfl gN) (by simp) ?_)
  refine sa_cons (s1_forF C Sc.calm f sS (fun a => [some (.fz (frm f)), some (.fz (dF (fun f : Fo => frm f) kv)), some (.fz (frm a)), none, none, none]) (fun found p => adF found (trF (lkF kv) p)) [] (ia_tup (ea_var Sc 0 rfl rfl rfl)) ⟨rfl, rfl, rfl, rfl⟩ (fun pre x post hx => ?_) (fun _ w => sa_wk w ?_))
  · refine ga_name Sc 3 rfl rfl (by simp) ?_
    have hx' := (hf.pr x (pre_mem hx))
    have h1 : okF (pre.foldl (fun found p => adF found (trF (lkF kv) p)) []) := putF_ok hg fun p hp => hf.pr p (pre_sub hx p hp)
    refine sa_cons (s1_setP Sc 4 rfl rfl (ea_glob Sc 2 rfl gA) (by simp) ?_)
    refine sa_cons (s1_forF C Sc.calm x (fun c => sS [c]) (fun a => [some (.fz (frm f)), some (.fz (dF (fun f : Fo => frm f) kv)), some (.fz (frm (pre.foldl (fun found p => adF found (trF (lkF kv) p)) []))), none, some (.fz (frm a)), none]) (fun t c => muF t (lkF kv c)) [[]] (ia_str (z := S x) (ea_var Sc 3 rfl rfl rfl)) ⟨rfl, rfl, rfl, rfl, rfl⟩ (fun pre2 y post2 hy => ?_) (fun _ w => sa_wk w ?_))
    · refine ga_name Sc 5 rfl rfl (by simp) ?_
      have hy' := hx'.2 y (pre_mem hy)
      have h2 : okF (pre2.foldl (fun t c => muF t (lkF kv c)) [[]]) := trF_ok hg fun c hc => hx'.2 c (pre_sub hy c hc)
      refine s1_one (s1_setP Sc 4 rfl rfl (ep_call cM hr Sc 1 rfl (ap2 (ea_var Sc 4 rfl rfl rfl) ((ea_dget2 (k := kS (S [y])) (d := frm [[y]]) hr0 (ea_var Sc 1 rfl rfl rfl) (ea_var Sc 5 rfl rfl rfl) (ep_fz' (ep_tup (ap_cons (ea_var Sc 5 rfl rfl rfl) ap_nil) (show 1 ≤ sizeLine by decide)) rfl) ⟨rfl, rfl, rfl, rfl⟩).eq (d1 := frm (lkF kv y)) ?_)) ⟨_, _, h2, hg y hy', rfl, rfl⟩) (by simp) ⟨rfl, rfl, rfl, rfl, rfl⟩)
      rw [aget_V (g := fun f : Fo => frm f)]
      unfold lkF
      cases aget kv (S [y]) <;> rfl
    · exact s1_one (s1_setP Sc 2 rfl rfl (ep_call cA hr Sc 0 rfl (ap2 (ea_var Sc 2 rfl rfl rfl) (ea_var Sc 4 rfl rfl rfl)) ⟨_, _, h1, trF_ok hg hx'.2, rfl, rfl⟩) (by simp) ⟨rfl, rfl, rfl, rfl⟩)
  · exact s1_one (s1_retP (ea_var Sc 2 rfl rfl rfl) rfl)
/-! fixed_at -/
def fxG (c : Nat) (t : Bool) (x : Nat) : Fo := if x = c then (if t then [[]] else []) else [[x]]
def fixF (f : Fo) (c : Nat) (t : Bool) : Fo := putF f (fxG c t)
theorem lk_fx (c : Nat) (t : Bool) : lkF [(S [c], if t then [[]] else [])] = fxG c t := by
  funext x
  unfold lkF fxG aget
  by_cases e : x = c
  · subst e; rw [if_pos rfl, if_pos rfl]; rfl
  · rw [if_neg e, if_neg fun z => e (by have := SX.S_inj z; simpa using this.symm)]; rfl
theorem fxG_ok {c : Nat} {t : Bool} : ∀ x ∈ L9, okF (fxG c t x) := fun x hx => by
  unfold fxG
  split
  · cases t
    · exact okF_nil
    · exact one_ok
  · exact okF_one (okP_one hx)
theorem fixF_ok {f : Fo} (h : okF f) (c : Nat) (t : Bool) : okF (fixF f c t) := putF_ok fxG_ok h.pr
def SpFix : Spec := fun ds o => ∃ (f : Fo) (c : Nat) (t : Bool), okF f ∧ ds = [frm f, sS [c], .bl t] ∧ o = .ok (.fz (frm (fixF f c t)))
def N_fix : List Str := ["form", "letter", "truth"]
theorem bd_fix (f : Fo) (c : Nat) (t : Bool) (hf : okF f) (Sc : Sco X N_fix (defScope (top 13)) [0, 1, 2] [0, 1, 2] ["put_in", "ALWAYS", "NEVER"]) (hr : Room k X.A) (C : SC X W) (cP : CalX X k "put_in" ["form", "forms"] SpPut)
    (gA : Gv X.K X.mg "ALWAYS" (frm [[]])) (gN : Gv X.K X.mg "NEVER" (frm [])) :
    SA X W [some (.fz (frm f)), some (.fz (sS [c])), some (.fz (.bl t))] (defBody (top 13)) (PostOf (.ok (.fz (frm (fixF f c t))))) := by
  refine sa_cons (s1_if (bp_val (ea_var Sc 2 rfl rfl rfl) fun _ => rfl) (fun e => ?_) (fun e => ?_))
  · subst e
    exact s1_one (s1_retP (ep_call cP hr Sc 0 rfl (ap2 (ea_var Sc 0 rfl rfl rfl) (ep_fz' (ep_disp1 (k := kS (S [c])) (ea_var Sc 1 rfl rfl rfl) (ea_glob Sc 1 rfl gA)) rfl)) ⟨f, [(S [c], [[]])], hf, fun q hq => by rw [List.mem_singleton.mp hq]; exact one_ok, rfl, by rw [fixF, ← lk_fx]; rfl⟩) rfl)
  · subst e
    refine sa_nil ?_
    exact s1_one (s1_retP (ep_call cP hr Sc 0 rfl (ap2 (ea_var Sc 0 rfl rfl rfl) (ep_fz' (ep_disp1 (k := kS (S [c])) (ea_var Sc 1 rfl rfl rfl) (ea_glob Sc 2 rfl gN)) rfl)) ⟨f, [(S [c], [])], hf, fun q hq => by rw [List.mem_singleton.mp hq]; exact okF_nil, rfl, by rw [fixF, ← lk_fx]; rfl⟩) rfl)
/-! some_of, every_of -/
def someF (f : Fo) (l : List Nat) : Fo := l.foldl (fun f c => joF (fixF f c false) (fixF f c true)) f
def evryF (f : Fo) (l : List Nat) : Fo := l.foldl (fun f c => muF (fixF f c false) (fixF f c true)) f
theorem someF_ok {f : Fo} (h : okF f) (l : List Nat) : okF (someF f l) := foldl_ok h fun b x _ hb => jo_ok (fixF_ok hb x _) (fixF_ok hb x _)
theorem evryF_ok {f : Fo} (h : okF f) (l : List Nat) : okF (evryF f l) := foldl_ok h fun b x _ hb => mu_ok (fixF_ok hb x _) (fixF_ok hb x _)
def SpSome : Spec := fun ds o => ∃ (f : Fo) (l : List Nat), okF f ∧ ds = [frm f, sS l] ∧ o = .ok (.fz (frm (someF f l)))
def SpEvery : Spec := fun ds o => ∃ (f : Fo) (l : List Nat), okF f ∧ ds = [frm f, sS l] ∧ o = .ok (.fz (frm (evryF f l)))
def N_some : List Str := ["form", "letters", "letter"]
theorem bd_some (f : Fo) (l : List Nat) (hf : okF f) (Sc : Sco X N_some (defScope (top 14)) [0, 1, 2] [0, 1, 2] ["joined", "fixed_at"]) (hr : Room k X.A) (C : SC X W) (cJ : CalX X k "joined" ["one", "other"] SpJoin) (cF : CalX X k "fixed_at" ["form", "letter", "truth"] SpFix) :
    SA X W [some (.fz (frm f)), some (.fz (sS l)), none] (defBody (top 14)) (PostOf (.ok (.fz (frm (someF f l))))) := by
  refine sa_cons (s1_forF C Sc.calm l (fun c => sS [c]) (fun a => [some (.fz (frm a)), some (.fz (sS l)), none]) (fun f c => joF (fixF f c false) (fixF f c true)) f (ia_str (z := S l) (ea_var Sc 1 rfl rfl rfl)) ⟨rfl, rfl, rfl⟩ (fun pre x post hx => ?_) (fun _ w => sa_wk w ?_))
  · refine ga_name Sc 2 rfl rfl (by simp) ?_
    have h := someF_ok hf pre
    exact s1_one (s1_setP Sc 0 rfl rfl (ep_call cJ hr Sc 0 rfl (ap2 (ep_call cF hr Sc 1 rfl (ap_cons (ea_var Sc 0 rfl rfl rfl) (ap2 (ea_var Sc 2 rfl rfl rfl) ea_bl)) ⟨_, x, false, h, rfl, rfl⟩) (ep_call cF hr Sc 1 rfl (ap_cons (ea_var Sc 0 rfl rfl rfl) (ap2 (ea_var Sc 2 rfl rfl rfl) ea_bl)) ⟨_, x, true, h, rfl, rfl⟩)) ⟨_, _, fixF_ok h x _, fixF_ok h x _, rfl, rfl⟩) (by simp) ⟨rfl, rfl, rfl⟩)
  · exact s1_one (s1_retP (ea_var Sc 0 rfl rfl rfl) rfl)
theorem bd_every (f : Fo) (l : List Nat) (hf : okF f) (Sc : Sco X N_some (defScope (top 15)) [0, 1, 2] [0, 1, 2] ["multiplied", "fixed_at"]) (hr : Room k X.A) (C : SC X W) (cM : CalX X k "multiplied" ["one", "other"] SpMult) (cF : CalX X k "fixed_at" ["form", "letter", "truth"] SpFix) :
    SA X W [some (.fz (frm f)), some (.fz (sS l)), none] (defBody (top 15)) (PostOf (.ok (.fz (frm (evryF f l))))) := by
  refine sa_cons (s1_forF C Sc.calm l (fun c => sS [c]) (fun a => [some (.fz (frm a)), some (.fz (sS l)), none]) (fun f c => muF (fixF f c false) (fixF f c true)) f (ia_str (z := S l) (ea_var Sc 1 rfl rfl rfl)) ⟨rfl, rfl, rfl⟩ (fun pre x post hx => ?_) (fun _ w => sa_wk w ?_))
  · refine ga_name Sc 2 rfl rfl (by simp) ?_
    have h := evryF_ok hf pre
    exact s1_one (s1_setP Sc 0 rfl rfl (ep_call cM hr Sc 0 rfl (ap2 (ep_call cF hr Sc 1 rfl (ap_cons (ea_var Sc 0 rfl rfl rfl) (ap2 (ea_var Sc 2 rfl rfl rfl) ea_bl)) ⟨_, x, false, h, rfl, rfl⟩) (ep_call cF hr Sc 1 rfl (ap_cons (ea_var Sc 0 rfl rfl rfl) (ap2 (ea_var Sc 2 rfl rfl rfl) ea_bl)) ⟨_, x, true, h, rfl, rfl⟩)) ⟨_, _, fixF_ok h x _, fixF_ok h x _, rfl, rfl⟩) (by simp) ⟨rfl, rfl, rfl⟩)
  · exact s1_one (s1_retP (ea_var Sc 0 rfl rfl rfl) rfl)
/-! less -/
def lessL (a b : List Nat) : List Nat := a.filter fun c => !decide (c ∈ b)
def SpLess : Spec := fun ds o => ∃ a b : List Nat, a.length ≤ 1048576 ∧ ds = [sS a, sS b] ∧ o = .ok (.fz (sS (lessL a b)))
def N_less : List Str := ["letters", "others", "letter"]
theorem sum_one : ∀ l : List Nat, ((l.map fun c => [c]).map (fun p : Pr => p.length)).sum = l.length
  | [] => rfl
  | c :: l => by rw [List.map_cons, List.map_cons, List.sum_cons, sum_one l, List.length_cons, Nat.add_comm]; rfl
theorem flat_one : ∀ l : List Nat, (l.map fun c => [c]).flatten = l
  | [] => rfl
  | c :: l => by rw [List.map_cons, List.flatten_cons, flat_one l]; rfl
theorem bd_less (a b : List Nat) (ha : a.length ≤ 1048576) (Sc : Sco X N_less (defScope (top 17)) [0, 1] [0, 1] []) (C : SC X W) :
    SA X W [some (.fz (sS a)), some (.fz (sS b)), none] (defBody (top 17)) (PostOf (.ok (.fz (sS (lessL a b))))) := by
  have hl : (lessL a b).length ≤ a.length := List.length_filter_le _ _
  refine s1_one (s1_retP ((ea_joinL (f := (lessL a b).map fun c => [c]) ((ep_fzL (f := fun c => sS [c]) (ep_lcS Sc [("letter", 2)] [1, 2] [2] [] a (fun c => sS [c]) (fun c => !decide (c ∈ b)) (fun c => .fz (sS [c])) (ia_str (z := S a) (ea_var Sc 0 rfl rfl rfl)) (fun Sb s0 H0 Cc cl fp x hx => gw_name (Sb s0 H0 Cc cl fp) 2 rfl rfl rfl (by decide) ⟨rfl, fun s0 H0 Cc cl fp => ⟨ip_one (bp_ninS (ea_var (Sb s0 H0 Cc cl fp) 2 rfl rfl rfl) (ea_var (Sb s0 H0 Cc cl fp) 1 rfl rfl rfl) rfl), fun _ => ea_var (Sb s0 H0 Cc cl fp) 2 rfl rfl rfl⟩⟩) (le_size ha (by decide)))).eq (by
    show D.lst _ = D.lst (List.map sS (List.map _ _))
    rw [List.map_map]; rfl)) (by rw [sum_one]; omega)).eq (congrArg sS (flat_one _))) rfl)
/-! true_row -/
theorem aget_put {α : Type} {x : Str} {v : α} : ∀ {kv : List (Str × α)}, aget (aput kv x v) x = some v := fun {kv} => by
  have h1 : ∀ kv : List (Str × α), x ∈ kv.map (·.1) → aget (kv.map (fun q => if q.1 = x then (x, v) else q)) x = some v := fun kv => by
    induction kv with
    | nil => intro h; nomatch h
    | cons q kv ih =>
      intro h
      rw [List.map_cons]
      unfold aget
      by_cases c : q.1 = x
      · rw [if_pos c, if_pos rfl]
      · rw [if_neg c, if_neg c]
        exact ih ((List.mem_cons.mp h).resolve_left fun z => c z.symm)
  have h2 : ∀ kv : List (Str × α), x ∉ kv.map (·.1) → aget (kv ++ [(x, v)]) x = some v := fun kv => by
    induction kv with
    | nil => intro _; rw [List.nil_append]; unfold aget; rw [if_pos rfl]
    | cons q kv ih =>
      intro h
      rw [List.cons_append]
      unfold aget
      have h' := fun z => h (List.mem_cons.mpr z)
      rw [if_neg fun z => h' (.inl z.symm)]
      exact ih fun z => h' (.inr z)
  unfold aput
  split
  · exact h1 kv (by assumption)
  · exact h2 kv (by assumption)
theorem aput_len {α : Type} {x : Str} {v : α} {kv : List (Str × α)} : (aput kv x v).length ≤ kv.length + 1 := by
  unfold aput
  split <;> simp
def rowS (s : Fo × List (Str × Bool)) (c : Nat) : Fo × List (Str × Bool) := if fixF s.1 c false = [] then (fixF s.1 c true, aput s.2 (S [c]) true) else (fixF s.1 c false, aput s.2 (S [c]) false)
def rowF (f : Fo) (l : List Nat) : List (Str × Bool) := (l.foldl rowS (f, [])).2
theorem rowS_ok {s : Fo × List (Str × Bool)} (h : okF s.1) (c : Nat) : okF (rowS s c).1 := by
  unfold rowS
  split
  · exact fixF_ok h c _
  · exact fixF_ok h c _
theorem rowS_len (s : Fo × List (Str × Bool)) (c : Nat) : (rowS s c).2.length ≤ s.2.length + 1 := by
  unfold rowS
  split <;> exact aput_len
theorem rowS_fold (l : List Nat) : ∀ (s : Fo × List (Str × Bool)), (l.foldl rowS s).2.length ≤ s.2.length + l.length := by
  induction l with
  | nil => intro s; simp
  | cons c l ih => intro s; have := ih (rowS s c); have := rowS_len s c; simp only [List.foldl_cons, List.length_cons]; omega
def SpRow : Spec := fun ds o => ∃ (f : Fo) (l : List Nat), okF f ∧ l.length ≤ 1048576 ∧ ds = [frm f, sS l] ∧ o = .ok (dT B0 (rowF f l))
def N_row : List Str := ["form", "letters", "row", "letter", "low"]
theorem bd_row (f : Fo) (l : List Nat) (hf : okF f) (hl : l.length ≤ 1048576) (Sc : Sco X N_row (defScope (top 18)) [0, 1, 2, 3, 4] [0, 1, 2, 3, 4] ["fixed_at"]) (hr : Room k X.A) (hr0 : Room 0 X.A) (C : SC X W) (cF : CalX X k "fixed_at" ["form", "letter", "truth"] SpFix) :
    SA X W [some (.fz (frm f)), some (.fz (sS l)), none, none, none] (defBody (top 18)) (PostOf (.ok (dT B0 (rowF f l)))) := by
  refine sa_cons (s1_setP Sc 2 rfl rfl ep_dnew (by simp) ?_)
  refine sa_cons (s1_forF C Sc.calm l (fun c => sS [c]) (fun a => [some (.fz (frm a.1)), some (.fz (sS l)), some (dT B0 a.2), none, none]) rowS (f, []) (ia_str (z := S l) (ea_var Sc 1 rfl rfl rfl)) ⟨rfl, rfl, rfl, rfl⟩ (fun pre x post hx => ?_) (fun _ w => sa_wk w ?_))
  · refine ga_name Sc 3 rfl rfl (by simp) ?_
    have h : okF (pre.foldl rowS (f, [])).1 := foldl_ok (I := fun s : Fo × List (Str × Bool) => okF s.1) hf fun b y _ hb => rowS_ok hb y
    have hlen : (pre.foldl rowS (f, [])).2.length < sizeLine := lt_size (Nat.le_trans (rowS_fold pre _) (by have := pre_lt hx hl; simp; omega)) (m := 1048576) (by decide)
    generalize hs : pre.foldl rowS (f, []) = s at h hlen ⊢
    obtain ⟨g, kv⟩ := s
    have h1 := fixF_ok h x false
    refine sa_cons (s1_setP Sc 4 rfl rfl (ep_call cF hr Sc 0 rfl (ap_cons (ea_var Sc 0 rfl rfl rfl) (ap2 (ea_var Sc 3 rfl rfl rfl) ea_bl)) ⟨g, x, false, h, rfl, rfl⟩) (by simp) ?_)
    refine sa_cons (s1_dput (k := kS (S [x])) hr0 Sc 2 rfl rfl rfl (ea_var Sc 3 rfl rfl rfl) ((ea_cmp hr0 (ea_var Sc 4 rfl rfl rfl : EA X _ _ (frm (fixF g x false))) ea_none ⟨shp_frm h1.pr, shp_frm okF_nil.pr⟩ rfl).eq (congrArg D.bl (eqD_frm _ _))) (by simpa using hlen) ?_)
    show SA X W [some (.fz (frm g)), some (.fz (sS l)), some (.dct (putKs (aK kv) (kS (S [x]))) (putL (aK kv) (kv.map fun q => B0 q.2) (kS (S [x])) (B0 (decide (fixF g x false = []))))), some (.fz (sS [x])), some (.fz (frm (fixF g x false)))] _ _
    rw [aput_K (v := decide (fixF g x false = [])), aput_V (g := B0)]
    refine s1_one (s1_if (bp_bor (bp_val (ea_dget (k := kS (S [x])) (d := .bl (decide (fixF g x false = []))) hr0 (ea_var Sc 2 rfl rfl rfl) (ea_var Sc 3 rfl rfl rfl) ?_) fun _ => rfl)) (fun e => ?_) (fun e => ?_))
    · rw [ers_dT (g := D.bl), aget_V (g := D.bl), aget_put]; rfl
    · have e' := of_decide_eq_true e
      refine s1_one (s1_setP Sc 0 rfl rfl (ep_call cF hr Sc 0 rfl (ap_cons (ea_var Sc 0 rfl rfl rfl) (ap2 (ea_var Sc 3 rfl rfl rfl) ea_bl)) ⟨g, x, true, h, rfl, rfl⟩) (by simp) ?_)
      show Wk _ [some (.fz (frm (rowS (g, kv) x).1)), some (.fz (sS l)), some (dT B0 (rowS (g, kv) x).2), none, none]
      rw [e, rowS, if_pos e']
      exact ⟨rfl, rfl, rfl, rfl⟩
    · have e' := of_decide_eq_false e
      refine s1_one (s1_setP Sc 0 rfl rfl (ea_var Sc 4 rfl rfl rfl) (by simp) ?_)
      show Wk _ [some (.fz (frm (rowS (g, kv) x).1)), some (.fz (sS l)), some (dT B0 (rowS (g, kv) x).2), none, none]
      rw [e, rowS, if_neg e']
      exact ⟨rfl, rfl, rfl, rfl⟩
  · exact s1_one (s1_ret (et_move Sc 2 rfl rfl rfl) rfl)
/-! between -/
def betT (a b : Fo) : T := if leF a b = true then .tup [.fz (.str "between"), .fz (frm (someF a (lessL (ltF a) (ltF b)))), .fz (frm (evryF b (lessL (ltF b) (ltF a))))]
  else .tup [.fz (.str "row"), dT B0 (rowF (muF a (opF b)) (uni (ltF a) (ltF b)))]
def SpBetween : Spec := fun ds o => ∃ a b : Fo, okF a ∧ okF b ∧ ds = [frm a, frm b] ∧ o = .ok (betT a b)
def N_between : List Str := ["one", "other", "mine", "yours"]
theorem bd_between (a b : Fo) (ha : okF a) (hb : okF b) (Sc : Sco X N_between (defScope (top 19)) [0, 1, 2, 3] [0, 1, 2, 3] ["letters_of", "leads", "some_of", "less", "every_of", "true_row", "multiplied", "opposite", "sorted", "set"]) (hr : Room k X.A) (hr0 : Room 0 X.A) (C : SC X W)
    (c1 : CalX X k "letters_of" ["form"] SpLetters) (c2 : CalX X k "leads" ["one", "other"] SpLeads) (c3 : CalX X k "some_of" ["form", "letters"] SpSome) (c4 : CalX X k "less" ["letters", "others"] SpLess) (c5 : CalX X k "every_of" ["form", "letters"] SpEvery) (c6 : CalX X k "true_row" ["form", "letters"] SpRow) (c7 : CalX X k "multiplied" ["one", "other"] SpMult) (c8 : CalX X k "opposite" ["form"] SpOpp) (mS : X.mg "sorted" = none) (mT : X.mg "set" = none) :
    SA X W [some (.fz (frm a)), some (.fz (frm b)), none, none] (defBody (top 19)) (PostOf (.ok (betT a b))) := by
  have l1 := okP_len (ltF_ok ha)
  have l2 := okP_len (ltF_ok hb)
  refine sa_cons (s1_setP Sc 2 rfl rfl (ep_call c1 hr Sc 0 rfl (ap1 (ea_var Sc 0 rfl rfl rfl)) ⟨a, ha, rfl, rfl⟩) (by simp) ?_)
  refine sa_cons (s1_setP Sc 3 rfl rfl (ep_call c1 hr Sc 0 rfl (ap1 (ea_var Sc 1 rfl rfl rfl)) ⟨b, hb, rfl, rfl⟩) (by simp) ?_)
  refine sa_cons (s1_if (bp_val (ep_call c2 hr Sc 1 rfl (ap2 (ea_var Sc 0 rfl rfl rfl) (ea_var Sc 1 rfl rfl rfl)) ⟨a, b, ha, hb, rfl, rfl⟩) fun _ => rfl) (fun e => ?_) (fun e => ?_))
  · refine s1_one (s1_retP (ep_tup (ap_cons ea_str (ap_cons (ep_call c3 hr Sc 2 rfl (ap2 (ea_var Sc 0 rfl rfl rfl) (ep_call c4 hr Sc 3 rfl (ap2 (ea_var Sc 2 rfl rfl rfl) (ea_var Sc 3 rfl rfl rfl)) ⟨_, _, by omega, rfl, rfl⟩)) ⟨_, _, ha, rfl, rfl⟩)
      (ap_cons (ep_call c5 hr Sc 4 rfl (ap2 (ea_var Sc 1 rfl rfl rfl) (ep_call c4 hr Sc 3 rfl (ap2 (ea_var Sc 3 rfl rfl rfl) (ea_var Sc 2 rfl rfl rfl)) ⟨_, _, by omega, rfl, rfl⟩)) ⟨_, _, hb, rfl, rfl⟩) ap_nil))) (show 3 ≤ sizeLine by decide)) ?_)
    show _ = _
    rw [betT, if_pos e]
  · refine sa_nil ?_
    refine s1_one (s1_retP (ep_tup (ap_cons ea_str (ap_cons (ep_call c6 hr Sc 5 rfl (ap2 (ep_call c7 hr Sc 6 rfl (ap2 (ea_var Sc 0 rfl rfl rfl) (ep_call c8 hr Sc 7 rfl (ap1 (ea_var Sc 1 rfl rfl rfl)) ⟨_, hb, rfl, rfl⟩)) ⟨_, _, ha, op_ok hb, rfl, rfl⟩)
      (ea_jsu (l := ltF a ++ ltF b) hr0 Sc 8 9 rfl mS rfl mT (ea_scat (ea_var Sc 2 rfl rfl rfl) (ea_var Sc 3 rfl rfl rfl) (le_size (m := 18) (by omega) (by decide))) (by rw [List.length_append]; omega) (few_L9 fun c hc => (List.mem_append.mp hc).elim ((ltF_ok ha).2 c) ((ltF_ok hb).2 c)))) ⟨_, _, mu_ok ha (op_ok hb), ?_, rfl, rfl⟩) ap_nil)) (show 2 ≤ sizeLine by decide)) ?_)
    · have := okP_len (okP_uni (ltF_ok ha) (ltF_ok hb)); exact Nat.le_trans this (by decide)
    · show _ = _
      rw [betT, if_neg (by rw [e]; simp)]
      rfl
end
end Fs

namespace Fs
open PySem PySem.Spec L2
open SX (S)
section
variable {X : Cx} {W : WX} {k : Nat}
/-! _law_mixed -/
def cutC (c : Int) (n : Nat) : Int := (List.range n).foldl (fun c _ => c / 999983) c
def mixG (ns : List Int) : Bool := decide (0 < (ns.length : Int) - 1) && decide (ns.getD 0 0 % 2 = 1)
def mixed (ns : List Int) (k : Int) : Int :=
  if mixG ns = true then cutC (ns.getD (1 + k % ((ns.length : Int) - 1)).toNat 0) (if 60 < k / ((ns.length : Int) - 1) then 60 else k / ((ns.length : Int) - 1)).toNat % 999983
  else ((if ns = [] then 0 else ns.getD (k % (ns.length : Int)).toNat 0) % 1000003 + 7919 * k + 11) * 48271 % 1000033 * 69621 % 999983
theorem mixed_lo (ns : List Int) (k : Int) : 0 ≤ mixed ns k ∧ mixed ns k < 999983 := by
  unfold mixed
  split
  · exact ⟨Int.emod_nonneg _ (by decide), Int.emod_lt_of_pos _ (by decide)⟩
  · exact ⟨Int.emod_nonneg _ (by decide), Int.emod_lt_of_pos _ (by decide)⟩
def SpMixed : Spec := fun ds o => ∃ (ns : List Int) (k : Int), ns.length ≤ 63 ∧ 0 ≤ k ∧ k ≤ 1000000000 ∧ ds = [scr ns, .int k] ∧ o = .ok (.fz (.int (mixed ns k)))
def N_mixed : List Str := ["_law_script", "_law_k", "_law_many", "_law_cell", "_law_n"]
theorem bd_mixed (ns : List Int) (k : Int) (hn : ns.length ≤ 63) (h0 : 0 ≤ k) (h1 : k ≤ 1000000000) (Sc : Sco X N_mixed (defScope (top 21)) [0, 1, 2, 3, 4] [0, 1, 2, 3, 4] ["len", "range", "min"]) (hr0 : Room 0 X.A) (C : SC X W) (mL : X.mg "len" = none) (mR : X.mg "range" = none) (mM : X.mg "min" = none) :
    SA X W [some (.fz (scr ns)), some (.fz (.int k)), none, none, none] (defBody (top 21)) (PostOf (.ok (.fz (.int (mixed ns k))))) := by
  refine sa_cons (s1_setP Sc 2 rfl rfl (ea_sub (ea_len Sc 0 rfl mL (ea_var Sc 0 rfl rfl rfl) (LenD.rol _)) ea_int) (by simp) ?_)
  rw [List.length_map]
  refine sa_cons (s1_if (bw_and (bp_igt hr0 (ea_var Sc 2 rfl rfl rfl) ea_int rfl) (fun e => bw_and1 (bp_ieq hr0 (ea_mod (ea_ix (ea_var Sc 0 rfl rfl rfl) ea_int (.inr (.inr rfl)) (scr_at (n := 0) rfl (by have := of_decide_eq_true e; omega))) ea_int (by decide)) ea_int rfl))).bp (fun e => ?_) (fun e => ?_))
  · have e' : mixG ns = true := e
    have e1 : 0 < (ns.length : Int) - 1 := of_decide_eq_true (Bool.and_eq_true_iff.mp e).1
    have hm := Int.emod_nonneg k (show (ns.length : Int) - 1 ≠ 0 by omega)
    have hm2 := Int.emod_lt_of_pos k e1
    have hd : 0 ≤ k / ((ns.length : Int) - 1) := Int.ediv_nonneg h0 (by omega)
    refine sa_cons (s1_setP Sc 3 rfl rfl (ea_ix (ea_var Sc 0 rfl rfl rfl) (ea_add ea_int (ea_mod (ea_var Sc 1 rfl rfl rfl) (ea_var Sc 2 rfl rfl rfl) e1)) (.inr (.inr rfl)) (scr_at (n := (1 + k % ((ns.length : Int) - 1)).toNat) (by omega) (by omega))) (by simp) ?_)
    refine sa_cons (s1_forF C Sc.calm (List.range (if 60 < k / ((ns.length : Int) - 1) then 60 else k / ((ns.length : Int) - 1)).toNat) (fun i => .int (0 + (i : Int))) (fun c => [some (.fz (scr ns)), some (.fz (.int k)), some (.fz (.int ((ns.length : Int) - 1))), some (.fz (.int c)), none]) (fun c _ => c / 999983) (ns.getD (1 + k % ((ns.length : Int) - 1)).toNat 0) (ia_range1 Sc 1 rfl mR (ea_min2 Sc 2 rfl mM (ea_div (ea_var Sc 1 rfl rfl rfl) (ea_var Sc 2 rfl rfl rfl) ⟨e1, by omega⟩) ea_int) ?_) ⟨rfl, rfl, rfl, rfl, rfl⟩ (fun pre x post hx => ?_) (fun _ w => sa_wk w ?_))
    · constructor
      · split <;> omega
      · split <;> omega
    · refine ga_name Sc 4 rfl rfl (by simp) ?_
      exact s1_one (s1_setP Sc 3 rfl rfl (ea_div (ea_var Sc 3 rfl rfl rfl) ea_int ⟨by decide, by decide⟩) (by simp) ⟨rfl, rfl, rfl, rfl, rfl⟩)
    · refine s1_one (s1_retP (ea_mod (ea_var Sc 3 rfl rfl rfl) ea_int (by decide)) ?_)
      show _ = _
      rw [mixed, if_pos e']
      rfl
  · have e' : ¬ mixG ns = true := by rw [show mixG ns = false from e]; simp
    refine sa_nil ?_
    refine sa_cons (s1_setP Sc 3 rfl rfl ea_int (by simp) ?_)
    refine sa_cons (s1_if (bp_ige hr0 (ea_var Sc 2 rfl rfl rfl) ea_int rfl) (fun e => ?_) (fun e => ?_))
    · have hn0 : 0 < ns.length := by have := of_decide_eq_true e; omega
      have hne : ns ≠ [] := fun z => by rw [z] at hn0; exact absurd hn0 (by simp)
      have hm := Int.emod_nonneg k (show (ns.length : Int) ≠ 0 by omega)
      have hm2 := Int.emod_lt_of_pos k (show 0 < (ns.length : Int) by omega)
      refine s1_one (s1_setP Sc 3 rfl rfl (ea_ix (ea_var Sc 0 rfl rfl rfl) (ea_mod (ea_var Sc 1 rfl rfl rfl) (ea_len Sc 0 rfl mL (ea_var Sc 0 rfl rfl rfl) (LenD.rol _)) (by rw [List.length_map]; omega)) (.inr (.inr rfl)) (by rw [List.length_map]; exact scr_at (n := (k % (ns.length : Int)).toNat) (by omega) (by omega))) (by simp) ?_)
      refine s1_one (s1_retP (ea_mod (ea_mul (ea_mod (ea_mul (ea_add (ea_add (ea_mod (ea_var Sc 3 rfl rfl rfl) ea_int (by decide)) (ea_mul ea_int (ea_var Sc 1 rfl rfl rfl) (.inl ⟨by decide, by decide⟩))) ea_int) ea_int (.inr ⟨by decide, by decide⟩)) ea_int (by decide)) ea_int (.inr ⟨by decide, by decide⟩)) ea_int (by decide)) ?_)
      show _ = _
      rw [mixed, if_neg e', if_neg hne]
    · have hne : ns = [] := by
        have := of_decide_eq_false e
        cases ns with
        | nil => rfl
        | cons a l => simp only [List.length_cons] at this; omega
      refine sa_nil ?_
      refine s1_one (s1_retP (ea_mod (ea_mul (ea_mod (ea_mul (ea_add (ea_add (ea_mod (ea_var Sc 3 rfl rfl rfl) ea_int (by decide)) (ea_mul ea_int (ea_var Sc 1 rfl rfl rfl) (.inl ⟨by decide, by decide⟩))) ea_int) ea_int (.inr ⟨by decide, by decide⟩)) ea_int (by decide)) ea_int (.inr ⟨by decide, by decide⟩)) ea_int (by decide)) ?_)
      show _ = _
      rw [mixed, if_neg e', if_pos hne]
/-! _law_letters -/
theorem erase_map {α β : Type} {f : α → β} : ∀ (l : List α) (n : Nat), (l.map f).eraseIdx n = (l.eraseIdx n).map f
  | [], _ => rfl
  | _ :: _, 0 => rfl
  | a :: l, n + 1 => congrArg (f a :: ·) (erase_map l n)
def letW (many : Int) : Nat → List Nat → Int → List Nat
  | 0, l, _ => l
  | n + 1, l, num => if many < l.length then letW many n (l.eraseIdx (num % l.length).toNat) (num / 3 + 7) else l
def lettersL (num many : Int) : List Nat := letW many 9 L9 num
theorem letW_sub (many : Int) : ∀ (n : Nat) (l : List Nat) (num : Int), (letW many n l num).Sublist l
  | 0, l, _ => List.Sublist.refl l
  | n + 1, l, num => by
    unfold letW
    split
    · exact (letW_sub many n _ _).trans (List.eraseIdx_sublist ..)
    · exact List.Sublist.refl l
theorem lettersL_ok (num many : Int) : okP (lettersL num many) := ⟨L9_up.sublist (letW_sub many 9 L9 num), fun c hc => (letW_sub many 9 L9 num).subset hc⟩
def SpLets : Spec := fun ds o => ∃ num many : Int, 0 ≤ many ∧ ds = [.int num, .int many] ∧ o = .ok (.fz (sS (lettersL num many)))
def N_lets : List Str := ["_law_number", "_law_many", "_law_left"]
theorem bd_lets (num many : Int) (hm : 0 ≤ many) (Sc : Sco X N_lets (defScope (top 22)) [0, 1, 2] [0, 1, 2] ["list", "len"]) (hr0 : Room 0 X.A) (C : SC X W) (mL : X.mg "list" = none) (mN : X.mg "len" = none) :
    SA X W [some (.fz (.int num)), some (.fz (.int many)), none] (defBody (top 22)) (PostOf (.ok (.fz (sS (lettersL num many))))) := by
  refine sa_cons (s1_setP Sc 2 rfl rfl (ep_listS Sc 0 rfl mL ea_L9 (by decide)) (by simp) ?_)
  refine sa_cons (s1_while C (fun n ρ => ∃ (l : List Nat) (nu : Int), l.length = n ∧ l.length ≤ 9 ∧ (∀ c ∈ l, c ∈ L9) ∧ letW many n l nu = lettersL num many ∧ ρ = [some (.fz (.int nu)), some (.fz (.int many)), some (.lst (l.map fun c => .fz (sS [c])))]) (n0 := 9) ⟨L9, num, rfl, Nat.le_refl _, fun _ h => h, rfl, rfl⟩ fun n ρ1 ⟨l, nu, h1, h2, h3, h4, h5⟩ => ?_)
  subst h5
  refine ⟨_, bp_bor (bp_igt hr0 (ea_len Sc 1 rfl mN (ea_var Sc 2 rfl rfl rfl) (LenD.lst _)) (ea_var Sc 1 rfl rfl rfl) rfl), fun e => ?_, fun e => ?_⟩
  · have e := of_decide_eq_true e
    rw [ers_len, List.length_map] at e
    have hl : 0 < l.length := by omega
    have hm1 := Int.emod_nonneg nu (show (l.length : Int) ≠ 0 by omega)
    have hm2 := Int.emod_lt_of_pos nu (show 0 < (l.length : Int) by omega)
    have hj : (nu % (l.length : Int)).toNat < l.length := by omega
    refine sa_cons (s1_expr (et_popAt (i' := nu % (l.length : Int)) (n := (nu % (l.length : Int)).toNat) (t := .fz (sS [l[(nu % (l.length : Int)).toNat]])) Sc 2 rfl rfl rfl (ep_bor ((ea_mod (ea_var Sc 0 rfl rfl rfl) (ea_len Sc 1 rfl mN (ea_var Sc 2 rfl rfl rfl) (LenD.lst _)) (by rw [ers_len, List.length_map]; omega)).eq (by rw [ers_len, List.length_map])) rfl) ⟨by omega, by omega⟩ ?_ ?_) ?_)
    · unfold seqIndex?
      rw [List.length_map]
      simp only [if_neg (show ¬ nu % (l.length : Int) < 0 by omega)]
      rw [if_pos (by rw [Bool.and_eq_true, decide_eq_true_eq, decide_eq_true_eq]; omega)]
    · rw [List.getElem?_map, List.getElem?_eq_getElem hj]; rfl
    · refine s1_one (s1_setP Sc 0 rfl rfl (ea_add (ea_div (ea_var Sc 0 rfl rfl rfl) ea_int ⟨by decide, by decide⟩) ea_int) (by simp) ?_)
      have hle : (l.eraseIdx (nu % (l.length : Int)).toNat).length = n - 1 := by rw [List.length_eraseIdx_of_lt hj]; omega
      refine ⟨n - 1, by omega, l.eraseIdx (nu % (l.length : Int)).toNat, nu / 3 + 7, hle, by omega, fun c hc => h3 c ((List.eraseIdx_sublist ..).subset hc), ?_, ?_⟩
      · rw [← h4]
        obtain ⟨m, rfl⟩ : ∃ m, n = m + 1 := ⟨n - 1, by omega⟩
        show _ = letW many (m + 1) l nu
        rw [letW, if_pos e]; rfl
      · rw [erase_map]; rfl
  · have e := of_decide_eq_false e
    rw [ers_len, List.length_map] at e
    refine sa_fzL (f := fun c => sS [c]) 2 rfl ?_
    have hres : l = lettersL num many := by
      rw [← h4]
      cases n with
      | zero => rfl
      | succ n => rw [letW, if_neg e]
    refine s1_one (s1_retP ((ea_joinL (f := l.map fun c => [c]) ((ea_var Sc 2 rfl rfl rfl).eq (by
      show D.lst _ = D.lst (List.map sS (List.map _ _))
      rw [List.map_map]; rfl)) (by rw [sum_one]; omega)).eq (congrArg sS (flat_one _))) ?_)
    show _ = _
    rw [hres]
/-! _law_product -/
def prS (s : List Nat × Int) (c : Nat) : List Nat × Int := (if s.2 % 2 = 1 then s.1 ++ [c] else s.1, s.2 / 2)
def prodL (l : List Nat) (num : Int) : Pr := (l.foldl prS ([], num)).1
theorem prS_sub : ∀ (l : List Nat) (s : List Nat × Int), ∃ m : List Nat, m.Sublist l ∧ (l.foldl prS s).1 = s.1 ++ m
  | [], s => ⟨[], List.Sublist.refl _, by simp⟩
  | c :: l, s => by
    obtain ⟨m, h1, h2⟩ := prS_sub l (prS s c)
    rw [List.foldl_cons, h2]
    unfold prS
    by_cases e : s.2 % 2 = 1
    · refine ⟨c :: m, h1.cons_cons c, ?_⟩
      simp [e]
    · refine ⟨m, h1.cons c, ?_⟩
      simp [e]
theorem prodL_sub (l : List Nat) (num : Int) : (prodL l num).Sublist l := by
  obtain ⟨m, h1, h2⟩ := prS_sub l ([], num)
  unfold prodL
  rw [h2]; exact h1
def SpProd : Spec := fun ds o => ∃ (l : List Nat) (num : Int), l.length ≤ 1048576 ∧ ds = [sS l, .int num] ∧ o = .ok (.fz (sS (prodL l num)))
def N_prod : List Str := ["_law_letters_here", "_law_number", "_law_product_here", "_law_letter"]
theorem bd_prod (l : List Nat) (num : Int) (hl : l.length ≤ 1048576) (Sc : Sco X N_prod (defScope (top 23)) [0, 1, 2, 3] [0, 1, 2, 3] []) (hr0 : Room 0 X.A) (C : SC X W) :
    SA X W [some (.fz (sS l)), some (.fz (.int num)), none, none] (defBody (top 23)) (PostOf (.ok (.fz (sS (prodL l num))))) := by
  refine sa_cons (s1_setP Sc 2 rfl rfl ea_es (by simp) ?_)
  refine sa_cons (s1_forF C Sc.calm l (fun c => sS [c]) (fun s => [some (.fz (sS l)), some (.fz (.int s.2)), some (.fz (sS s.1)), none]) prS ([], num) (ia_str (z := S l) (ea_var Sc 0 rfl rfl rfl)) ⟨rfl, rfl, rfl, rfl⟩ (fun pre x post hx => ?_) (fun _ w => sa_wk w ?_))
  · refine ga_name Sc 3 rfl rfl (by simp) ?_
    have hlen : (pre.foldl prS ([], num)).1.length < 1048576 := by
      obtain ⟨m, h1, h2⟩ := prS_sub pre ([], num)
      rw [h2]
      have := h1.length_le
      have := pre_lt hx hl
      simp; omega
    generalize pre.foldl prS ([], num) = s at hlen ⊢
    obtain ⟨m, nu⟩ := s
    refine sa_cons (s1_if (bp_ieq hr0 (ea_mod (ea_var Sc 1 rfl rfl rfl) ea_int (by decide)) ea_int rfl) (fun e => ?_) (fun e => ?_))
    · refine s1_one (s1_setP Sc 2 rfl rfl (ea_scat (ea_var Sc 2 rfl rfl rfl) (ea_var Sc 3 rfl rfl rfl) (le_size (m := 1048577) (by simp at hlen ⊢; omega) (by decide))) (by simp) ?_)
      have q : (prS (m, nu) x).1 = m ++ [x] := by unfold prS; exact if_pos (of_decide_eq_true e)
      exact s1_one (s1_setP Sc 1 rfl rfl (ea_div (ea_var Sc 1 rfl rfl rfl) ea_int ⟨by decide, by decide⟩) (by simp) ⟨rfl, rfl, by rw [q], rfl⟩)
    · refine sa_nil ?_
      have q : (prS (m, nu) x).1 = m := by unfold prS; exact if_neg (of_decide_eq_false e)
      exact s1_one (s1_setP Sc 1 rfl rfl (ea_div (ea_var Sc 1 rfl rfl rfl) ea_int ⟨by decide, by decide⟩) (by simp) ⟨rfl, rfl, by rw [q], rfl⟩)
  · exact s1_one (s1_retP (ea_var Sc 2 rfl rfl rfl) rfl)
end
end Fs

namespace Fs
open PySem PySem.Spec L2
open SX (S)
section
variable {X : Cx} {W : WX} {k : Nat} {ρ : Env} {e : Expr} {N : List Str} {scp : Scope} {vs ls : List Nat} {gs : List Str}
theorem ia_enumM {α : Type} {f : α → D} {xs : List α} {elts : List Expr} {kk : Nat} {tpos p pos : Pos} (Sc : Sco X N scp vs ls gs) (j : Nat) (hg : gs[j]? = some (Str.ofString "enumerate")) (hm : X.mg (Str.ofString "enumerate") = none) (ha : EA X ρ e (.lst (xs.map f))) (hn : NS e := by intro _ _; rfl) : IA X ρ (.Tuple elts kk tpos) (.Call (.Name "enumerate" p) [e] [] pos) (xs.zipIdx.map fun q => .tup [.int (q.2 : Nat), f q.1]) := by
  have h := ia_enum (p := p) (pos := pos) (tpos := tpos) (kk := kk) (elts := elts) Sc j hg hm ha (.inl rfl) hn
  unfold enumD at h
  rw [List.zipIdx_map, List.map_map] at h
  exact h
theorem txts_lsS (f : List Pr) : Txts (lsS f) (f.map S) := by
  have := Txts.lst (f.map S)
  rwa [List.map_map] at this
theorem txts_frm (f : List Pr) : Txts (frm f) (f.map S) := by
  have := Txts.tup (f.map S)
  rwa [List.map_map] at this
/-! _law_form -/
def grow (ps : List Pr) (c : Nat) : List Pr := ps ++ ps.map fun p => p ++ [c]
def selF (ns : List Int) (at' : Int) (q : Pr × Nat) : Bool := decide (mixed ns (at' + 40 + (q.2 : Nat)) % 2 = 1)
abbrev selL (ns : List Int) (at' : Int) (l : List Nat) : List Pr := ((l.foldl grow [[]]).zipIdx.filter (selF ns at')).map (·.1)
def formA (ns : List Int) (at' : Int) (l : List Nat) : Fo := srtP (selL ns at' l)
def formB (ns : List Int) (at' : Int) (l : List Nat) (many : Int) : Fo := srtP ((List.range many.toNat).map fun (k : Nat) => prodL l (mixed ns (at' + 1 + (0 + (k : Int))) / 5)).eraseDups
def manyB (num : Int) : Int := if num / 7 % 6 = 1 then 5 + num / 42 % 30 else num % 7
def lawForm (ns : List Int) (at' : Int) (l : List Nat) : Fo :=
  if (decide (mixed ns at' / 7 % 6 = 2) && decide ((l.length : Int) < 7)) = true then formA ns at' l else formB ns at' l (manyB (mixed ns at'))
theorem grow_len (ps : List Pr) (c : Nat) : (grow ps c).length = 2 * ps.length := by unfold grow; rw [List.length_append, List.length_map]; omega
theorem grow_fold (l : List Nat) : ∀ ps : List Pr, (l.foldl grow ps).length = 2 ^ l.length * ps.length := by
  induction l with
  | nil => intro ps; simp
  | cons c l ih => intro ps; rw [List.foldl_cons, ih, grow_len, List.length_cons, Nat.pow_succ, Nat.mul_assoc]
theorem grow_sub (l : List Nat) : ∀ p ∈ l.foldl grow [[]], p.Sublist l := by
  have key : ∀ (post pre : List Nat) (ps : List Pr), (∀ p ∈ ps, p.Sublist pre) → ∀ p ∈ post.foldl grow ps, p.Sublist (pre ++ post) := fun post => by
    induction post with
    | nil => intro pre ps h p hp; rw [List.append_nil]; exact h p hp
    | cons c post ih =>
      intro pre ps h p hp
      have := ih (pre ++ [c]) (grow ps c) (fun q hq => by
        rcases List.mem_append.mp hq with z | z
        · exact (h q z).trans (List.sublist_append_left _ _)
        · obtain ⟨r, hr, rfl⟩ := List.mem_map.mp z
          exact (h r hr).append (List.Sublist.refl _)) p hp
      rwa [List.append_assoc] at this
  intro p hp
  exact key l [] [[]] (fun q hq => by rw [List.mem_singleton.mp hq]; exact List.Sublist.refl _) p hp
theorem grow_nd : ∀ (post pre : List Nat) (ps : List Pr), (pre ++ post).Nodup → (∀ p ∈ ps, p.Sublist pre) → ps.Nodup → (post.foldl grow ps).Nodup
  | [], _, _, _, _, h => h
  | c :: post, pre, ps, nd, hs, h => by
    rw [List.foldl_cons]
    have hc : c ∉ pre := fun z => by
      have := (List.nodup_append.mp nd).2.2 c z c List.mem_cons_self
      exact this rfl
    refine grow_nd post (pre ++ [c]) (grow ps c) (by rw [List.append_assoc]; exact nd) (fun q hq => ?_) ?_
    · rcases List.mem_append.mp hq with z | z
      · exact (hs q z).trans (List.sublist_append_left _ _)
      · obtain ⟨r, hr, rfl⟩ := List.mem_map.mp z
        exact (hs r hr).append (List.Sublist.refl _)
    · unfold grow
      refine List.nodup_append.mpr ⟨h, List.pairwise_map.mpr (h.imp fun {a b} z e => z (List.append_cancel_right e)), fun a ha b hb e => ?_⟩
      obtain ⟨r, hr, rfl⟩ := List.mem_map.mp hb
      exact hc ((hs a ha).subset (by rw [e]; simp))
theorem okP_sub {l p : List Nat} (h : okP l) (s : p.Sublist l) : okP p := ⟨h.1.sublist s, fun c hc => h.2 c (s.subset hc)⟩
theorem formA_ok {ns : List Int} {at' : Int} {l : List Nat} (h : okP l) : okF (formA ns at' l) := by
  unfold formA
  have hs : (((l.foldl grow [[]]).zipIdx.filter (selF ns at')).map (·.1)).Sublist (l.foldl grow [[]]) := by
    have := (List.filter_sublist (p := selF ns at') (l := (l.foldl grow [[]]).zipIdx)).map (·.1)
    rwa [show ((l.foldl grow [[]]).zipIdx).map (·.1) = l.foldl grow [[]] from List.zipIdx_map_fst 0 _] at this
  have nl : l.Nodup := h.1.imp fun {x y} z => Nat.ne_of_lt z
  exact ⟨fun p hp => okP_sub h (grow_sub l p (hs.subset ((srtP_perm _).mem_iff.mp hp))), srtP_pw _, (srtP_perm _).nodup_iff.mpr ((grow_nd l [] [[]] nl (fun q hq => by rw [List.mem_singleton.mp hq]; exact List.Sublist.refl _) (by simp)).sublist hs)⟩
theorem formB_ok {ns : List Int} {at' : Int} {l : List Nat} {many : Int} (h : okP l) : okF (formB ns at' l many) := by
  unfold formB
  refine ⟨fun p hp => ?_, srtP_pw _, (srtP_perm _).nodup_iff.mpr (nodup_eraseDups _)⟩
  have := List.mem_eraseDups.mp ((srtP_perm _).mem_iff.mp hp)
  obtain ⟨q, _, rfl⟩ := List.mem_map.mp this
  exact okP_sub h (prodL_sub l _)
theorem lawForm_ok (ns : List Int) (at' : Int) {l : List Nat} (h : okP l) : okF (lawForm ns at' l) := by
  unfold lawForm
  split
  · exact formA_ok h
  · exact formB_ok h
def SpForm : Spec := fun ds o => ∃ (ns : List Int) (at' : Int) (l : List Nat), ns.length ≤ 63 ∧ 0 ≤ at' ∧ at' ≤ 1000000 ∧ okP l ∧ ds = [scr ns, .int at', sS l] ∧ o = .ok (.fz (frm (lawForm ns at' l)))
def N_form : List Str := ["_law_script", "_law_at", "_law_letters_here", "_law_number", "_law_products", "_law_letter", "_law_many", "_law_product_here", "_law_each", "_law_k"]
theorem bd_form (ns : List Int) (at' : Int) (l : List Nat) (hn : ns.length ≤ 63) (h0 : 0 ≤ at') (h1 : at' ≤ 1000000) (hl : okP l) (Sc : Sco X N_form (defScope (top 24)) [0, 1, 2, 3, 4, 5, 6] [0, 1, 2, 3, 4, 5, 6] ["_law_mixed", "len", "tuple", "sorted", "set", "enumerate", "range", "len"]) (hr : Room k X.A) (hr0 : Room 0 X.A) (C : SC X W)
    (cM : CalX X k "_law_mixed" ["_law_script", "_law_k"] SpMixed) (cP : CalX X k "_law_product" ["_law_letters_here", "_law_number"] SpProd) (mL : X.mg "len" = none) (mT : X.mg "tuple" = none) (mS : X.mg "sorted" = none) (mSe : X.mg "set" = none) (mE : X.mg "enumerate" = none) (mR : X.mg "range" = none) :
    SA X W [some (.fz (scr ns)), some (.fz (.int at')), some (.fz (sS l)), none, none, none, none, none, none, none] (defBody (top 24)) (PostOf (.ok (.fz (frm (lawForm ns at' l))))) := by
  have hll := okP_len hl
  have b0 := mixed_lo ns at'
  refine sa_cons (s1_setP Sc 3 rfl rfl (ep_call cM hr Sc 0 rfl (ap2 (ea_var Sc 0 rfl rfl rfl) (ea_var Sc 1 rfl rfl rfl)) ⟨ns, at', hn, h0, by omega, rfl, rfl⟩) (by simp) ?_)
  refine sa_cons (s1_if (bw_and (bp_ieq hr0 (ea_mod (ea_div (ea_var Sc 3 rfl rfl rfl) ea_int ⟨by decide, by decide⟩) ea_int (by decide)) ea_int rfl) (fun e => bw_and1 (bp_ilt hr0 (ea_len Sc 1 rfl mL (ea_var Sc 2 rfl rfl rfl) (LenD.str _ (le_size (show l.length ≤ 9 from hll) (by decide)))) ea_int rfl))).bp (fun e => ?_) (fun e => ?_))
  · refine sa_cons (s1_setP Sc 4 rfl rfl (ep_fz' (d := lsS [[]]) (ep_lst (ap_cons ea_es ap_nil) (show 1 ≤ sizeLine by decide)) rfl) (by simp) ?_)
    have hl6 : l.length < 7 := by
      have := of_decide_eq_true (Bool.and_eq_true_iff.mp e).2
      have e2 : (S l).length = l.length := SX.S_len l
      rw [e2] at this
      omega
    refine sa_cons (s1_forF C Sc.calm l (fun c => sS [c]) (fun ps => [some (.fz (scr ns)), some (.fz (.int at')), some (.fz (sS l)), some (.fz (.int (mixed ns at'))), some (.fz (lsS ps)), none, none, none, none, none]) grow [[]] (ia_str (z := S l) (ea_var Sc 2 rfl rfl rfl)) ⟨rfl, rfl, rfl, rfl, rfl, rfl⟩ (fun pre x post hx => ?_) (fun _ w => sa_wk w ?_))
    · refine ga_name Sc 5 rfl rfl (by simp) ?_
      have hpre := pre_lt hx (Nat.le_of_lt_succ hl6)
      have hps : (pre.foldl grow [[]]).length ≤ 64 := by
        rw [grow_fold]
        have := Nat.pow_le_pow_right (n := 2) (by decide) (show pre.length ≤ 6 by omega)
        simpa using this
      have hsub := grow_sub pre
      generalize pre.foldl grow [[]] = ps at hps hsub ⊢
      refine s1_one (s1_setP Sc 4 rfl rfl ((ea_cat (ea_var Sc 4 rfl rfl rfl) (ep_fzL (f := fun p => sS (p ++ [x])) (ep_lcM Sc [("_law_product_here", 7)] [5, 7] [7] [] ps sS (fun p => .fz (sS (p ++ [x]))) (ia_lst (ea_var Sc 4 rfl rfl rfl)) (fun Sb s0 H0 Cc cl fp p hp => gw_name (Sb s0 H0 Cc cl fp) 7 rfl rfl rfl (by decide) ⟨rfl, fun s0 H0 Cc cl fp => ea_scat (ea_var (Sb s0 H0 Cc cl fp) 7 rfl rfl rfl) (ea_var (Sb s0 H0 Cc cl fp) 5 rfl rfl rfl) (le_size (m := 20) (by have := (hsub p hp).length_le; simp; omega) (by decide))⟩) (le_size hps (by decide)))) (by simp; exact le_size (m := 128) (by omega) (by decide))).eq (d1 := lsS (grow ps x)) ?_) (by simp) ⟨rfl, rfl, rfl, rfl, rfl, rfl⟩)
      show D.lst _ = D.lst _
      rw [grow, List.map_append, List.map_map]; rfl
    · have hps : (l.foldl grow [[]]).length ≤ 64 := by
        rw [grow_fold]
        have := Nat.pow_le_pow_right (n := 2) (by decide) (show l.length ≤ 6 by omega)
        simpa using this
      have hzl : ((l.foldl grow [[]]).zipIdx).length ≤ 64 := by rw [List.length_zipIdx]; exact hps
      have hsl : (((l.foldl grow [[]]).zipIdx.filter (selF ns at')).map (·.1)).length ≤ 64 := by rw [List.length_map]; exact Nat.le_trans (List.length_filter_le _ _) hzl
      refine s1_one (s1_retP ((ep_tuple (ds := (srt ((((l.foldl grow [[]]).zipIdx.filter (selF ns at')).map (·.1)).map S)).map .str) Sc 2 rfl mT (ep_fzL (ep_sorted (xs := (((l.foldl grow [[]]).zipIdx.filter (selF ns at')).map (·.1)).map S) (d := lsS (((l.foldl grow [[]]).zipIdx.filter (selF ns at')).map (·.1))) hr0 Sc 3 rfl mS ((ep_fzL (f := fun q : Pr × Nat => sS q.1) (ep_lcS Sc [("_law_k", 9), ("_law_each", 8)] [0, 1, 8, 9] [8, 9] ["_law_mixed"] ((l.foldl grow [[]]).zipIdx) (fun q => .tup [.int (q.2 : Nat), sS q.1]) (selF ns at') (fun q => .fz (sS q.1)) (ia_enumM Sc 5 rfl mE (ea_var Sc 4 rfl rfl rfl)) (fun Sb s0 H0 Cc cl fp q hq => ?_) (le_size hzl (by decide)))).eq ?_) ?_ (le_size (m := 64) (by simpa using hsl) (by decide))))).eq (d1 := frm (srtP (selL ns at' l))) ?_) ?_)
      · have hq2 : q.2 < 64 := by
          have := List.mem_zipIdx hq
          omega
        refine gw_tup Sc.calm (gws_cons (gw_name (Sb s0 H0 Cc cl fp) 9 rfl rfl rfl (by decide) (gws_cons (gw_name (Sb s0 H0 Cc cl fp) 8 rfl rfl rfl (by decide) (gws_nil ⟨rfl, fun s0 H0 Cc cl fp => ⟨ip_one (bp_ieq hr0 (ea_mod (ep_call cM hr (Sb s0 H0 Cc cl fp) 0 rfl (ap2 (ea_var (Sb s0 H0 Cc cl fp) 0 rfl rfl rfl) (ea_add (ea_add (ea_var (Sb s0 H0 Cc cl fp) 1 rfl rfl rfl) ea_int) (ea_var (Sb s0 H0 Cc cl fp) 9 rfl rfl rfl))) ⟨ns, at' + 40 + (q.2 : Nat), hn, by omega, by omega, rfl, rfl⟩) ea_int (by decide)) ea_int rfl), fun _ => ea_var (Sb s0 H0 Cc cl fp) 8 rfl rfl rfl⟩⟩))))) rfl
      · show D.lst _ = D.lst (List.map sS (List.map _ _))
        rw [List.map_map]; rfl
      · exact txts_lsS _
      · rw [srt_S, List.map_map]; rfl
      · show _ = _
        have e3 : (decide (mixed ns at' / 7 % 6 = 2) && decide ((l.length : Int) < 7)) = true := e
        rw [lawForm, if_pos e3]; rfl
  · refine sa_nil ?_
    have e3 : ¬ (decide (mixed ns at' / 7 % 6 = 2) && decide ((l.length : Int) < 7)) = true := by
      have : (decide (mixed ns at' / 7 % 6 = 2) && decide ((l.length : Int) < 7)) = false := e
      rw [this]; simp
    have hB : lawForm ns at' l = formB ns at' l (manyB (mixed ns at')) := by rw [lawForm, if_neg e3]
    have tail : ∀ many : Int, 0 ≤ many → many ≤ 40 → SA X W [some (.fz (scr ns)), some (.fz (.int at')), some (.fz (sS l)), some (.fz (.int (mixed ns at'))), none, none, some (.fz (.int many)), none, none, none] (((defBody (top 24)).drop 4)) (PostOf (.ok (.fz (frm (formB ns at' l many))))) := fun many m0 m1 => by
      refine sa_cons (s1_setLcS Sc 4 rfl [("_law_k", 9)] [0, 1, 2, 9] [9] ["_law_product", "_law_mixed"] (List.range many.toNat) (fun i => .int (0 + (i : Int))) (fun _ => true) (fun i => .fz (sS (prodL l (mixed ns (at' + 1 + (0 + (i : Int))) / 5)))) (ia_range1 Sc 6 rfl mR (ea_var Sc 6 rfl rfl rfl) ⟨by omega, by omega⟩) (fun Sb s0 H0 Cc cl fp i hi => ?_) ?_ (by simp) ?_)
      · have hi2 : i < many.toNat := List.mem_range.mp hi
        exact gw_name (Sb s0 H0 Cc cl fp) 9 rfl rfl rfl (by decide) ⟨rfl, fun s0 H0 Cc cl fp => ⟨ip_nil, fun _ => ep_call cP hr (Sb s0 H0 Cc cl fp) 0 rfl (ap2 (ea_var (Sb s0 H0 Cc cl fp) 2 rfl rfl rfl) (ea_div (ep_call cM hr (Sb s0 H0 Cc cl fp) 1 rfl (ap2 (ea_var (Sb s0 H0 Cc cl fp) 0 rfl rfl rfl) (ea_add (ea_add (ea_var (Sb s0 H0 Cc cl fp) 1 rfl rfl rfl) ea_int) (ea_var (Sb s0 H0 Cc cl fp) 9 rfl rfl rfl))) ⟨ns, at' + 1 + (0 + (i : Int)), hn, by omega, by omega, rfl, rfl⟩) ea_int ⟨by decide, by decide⟩)) ⟨l, _, by omega, rfl, rfl⟩⟩⟩
      · rw [List.length_range]; exact le_size (m := 40) (by omega) (by decide)
      · rw [List.filter_eq_self.mpr fun _ _ => rfl]
        refine sa_fzL (f := fun i : Nat => sS (prodL l (mixed ns (at' + 1 + (0 + (i : Int))) / 5))) 4 rfl ?_
        have hlen : ((List.range many.toNat).map fun (i : Nat) => prodL l (mixed ns (at' + 1 + (0 + (i : Int))) / 5)).length ≤ 40 := by rw [List.length_map, List.length_range]; omega
        refine s1_one (s1_retP ((ep_tuple (ds := (srtU (((List.range many.toNat).map fun (i : Nat) => prodL l (mixed ns (at' + 1 + (0 + (i : Int))) / 5)).map S)).map .str) Sc 2 rfl mT (ep_fzL (ep_srtU (xs := ((List.range many.toNat).map fun (i : Nat) => prodL l (mixed ns (at' + 1 + (0 + (i : Int))) / 5)).map S) (d := lsS ((List.range many.toNat).map fun (i : Nat) => prodL l (mixed ns (at' + 1 + (0 + (i : Int))) / 5))) hr0 Sc 3 4 rfl mS rfl mSe ((ea_var Sc 4 rfl rfl rfl).eq ?_) ?_ (le_size (m := 40) (by simpa using hlen) (by decide)) (few_len (by simp at hlen ⊢; omega))))).eq (d1 := frm (formB ns at' l many)) ?_) rfl)
        · show D.lst _ = D.lst (List.map sS (List.map _ _))
          rw [List.map_map]; rfl
        · exact txts_lsS _
        · rw [srtU_S, List.map_map]; rfl
    rw [hB]
    refine sa_cons (s1_setP Sc 6 rfl rfl (ea_mod (ea_var Sc 3 rfl rfl rfl) ea_int (by decide)) (by simp) ?_)
    have d1 := Int.emod_nonneg (mixed ns at') (show (7 : Int) ≠ 0 by decide)
    have d2 := Int.emod_lt_of_pos (mixed ns at') (show (0 : Int) < 7 by decide)
    have d3 := Int.emod_nonneg (mixed ns at' / 42) (show (30 : Int) ≠ 0 by decide)
    have d4 := Int.emod_lt_of_pos (mixed ns at' / 42) (show (0 : Int) < 30 by decide)
    refine sa_cons (s1_if (bp_ieq hr0 (ea_mod (ea_div (ea_var Sc 3 rfl rfl rfl) ea_int ⟨by decide, by decide⟩) ea_int (by decide)) ea_int rfl) (fun e => ?_) (fun e => ?_))
    · refine s1_one (s1_setP Sc 6 rfl rfl (ea_add ea_int (ea_mod (ea_div (ea_var Sc 3 rfl rfl rfl) ea_int ⟨by decide, by decide⟩) ea_int (by decide))) (by simp) ?_)
      have hm : manyB (mixed ns at') = 5 + mixed ns at' / 42 % 30 := by rw [manyB, if_pos (of_decide_eq_true e)]
      rw [hm]
      exact tail _ (by omega) (by omega)
    · refine sa_nil ?_
      have hm : manyB (mixed ns at') = mixed ns at' % 7 := by rw [manyB, if_neg (of_decide_eq_false e)]
      rw [hm]
      exact tail _ (by omega) (by omega)
end
end Fs

namespace Fs
open PySem PySem.Spec L2
open SX (S)
section
variable {X : Cx} {W : WX} {k : Nat} {ρ : Env} {e : Expr} {N : List Str} {scp : Scope} {vs ls : List Nat} {gs : List Str}
/-! _law_rows -/
abbrev KV := List (Str × Bool)
abbrev rowD (kv : KV) : D := dF D.bl kv
def rows1 (r : KV) (c : Nat) : List KV := [aput r (S [c]) false, aput r (S [c]) true]
def rowsL (l : List Nat) : List KV := l.foldl (fun rs c => rs.flatMap fun r => rows1 r c) [[]]
theorem rows_len (l : List Nat) : ∀ rs : List KV, (l.foldl (fun rs c => rs.flatMap fun r => rows1 r c) rs).length = 2 ^ l.length * rs.length := by
  have h1 : ∀ (c : Nat) (rs : List KV), (rs.flatMap fun r => rows1 r c).length = 2 * rs.length := fun c rs => by
    induction rs with
    | nil => rfl
    | cons r rs ih => rw [List.flatMap_cons, List.length_append, ih]; show 2 + 2 * rs.length = _; rw [List.length_cons]; omega
  induction l with
  | nil => intro rs; simp
  | cons c l ih => intro rs; rw [List.foldl_cons, ih, h1, List.length_cons, Nat.pow_succ, Nat.mul_assoc]
theorem kv_len (l : List Nat) : ∀ r ∈ rowsL l, r.length ≤ l.length := by
  have key : ∀ (post : List Nat) (n : Nat) (rs : List KV), (∀ r ∈ rs, r.length ≤ n) → ∀ r ∈ post.foldl (fun rs c => rs.flatMap fun r => rows1 r c) rs, r.length ≤ n + post.length := fun post => by
    induction post with
    | nil => intro n rs h r hr; exact h r hr
    | cons c post ih =>
      intro n rs h r hr
      have := ih (n + 1) _ (fun q hq => by
        obtain ⟨r0, h0, h2⟩ := List.mem_flatMap.mp hq
        have := h r0 h0
        have z : ∀ b, (aput r0 (S [c]) b).length ≤ r0.length + 1 := fun b => aput_len
        rcases List.mem_cons.mp h2 with e | e
        · rw [e]; have := z false; omega
        · rw [List.mem_singleton.mp e]; have := z true; omega) r hr
      rw [List.length_cons]; omega
  intro r hr
  have := key l 0 [[]] (fun q hq => by rw [List.mem_singleton.mp hq]; simp) r hr
  omega
abbrev rowsD (rs : List KV) : D := .lst (rs.map rowD)
def SpRows : Spec := fun ds o => ∃ l : List Nat, l.length ≤ 9 ∧ ds = [sS l] ∧ o = .ok (.fz (rowsD (rowsL l)))
def N_rows : List Str := ["_law_letters_here", "_law_rows_here", "_law_letter", "_law_more", "_law_row", "_law_truth", "_law_one"]
theorem bd_rows (l : List Nat) (hl : l.length ≤ 9) (Sc : Sco X N_rows (defScope (top 25)) [0, 1, 2, 3, 4, 5, 6] [0, 1, 2, 3, 4, 5, 6] ["dict"]) (hr0 : Room 0 X.A) (C : SC X W) (mD : X.mg "dict" = none) :
    SA X W [some (.fz (sS l)), none, none, none, none, none, none] (defBody (top 25)) (PostOf (.ok (.fz (rowsD (rowsL l))))) := by
  refine sa_cons (s1_setP Sc 1 rfl rfl (ep_fz' (d := rowsD [[]]) (ep_lst (ap_cons ep_dnew ap_nil) (show 1 ≤ sizeLine by decide)) rfl) (by simp) ?_)
  refine sa_cons (s1_forF C Sc.calm l (fun c => sS [c]) (fun rs => [some (.fz (sS l)), some (.fz (rowsD rs)), none, none, none, none, none]) (fun rs c => rs.flatMap fun r => rows1 r c) [[]] (ia_str (z := S l) (ea_var Sc 0 rfl rfl rfl)) ⟨rfl, rfl, rfl⟩ (fun pre x post hx => ?_) (fun _ w => sa_wk w ?_))
  · refine ga_name Sc 2 rfl rfl (by simp) ?_
    have hpre := pre_lt hx hl
    have hrs : (pre.foldl (fun rs c => rs.flatMap fun r => rows1 r c) [[]]).length ≤ 256 := by
      rw [rows_len]
      have := Nat.pow_le_pow_right (n := 2) (by decide) (show pre.length ≤ 8 by omega)
      simpa using this
    have hkv := kv_len pre
    rw [rowsL] at hkv
    generalize pre.foldl (fun rs c => rs.flatMap fun r => rows1 r c) [[]] = rs at hrs hkv ⊢
    refine sa_cons (s1_setP Sc 3 rfl rfl (ep_lst ap_nil (by simp)) (by simp) ?_)
    refine sa_cons (s1_forF C Sc.calm rs rowD (fun ms => [some (.fz (sS l)), some (.fz (rowsD rs)), some (.fz (sS [x])), some (.lst (ms.map fun r => .fz (rowD r))), none, none, none]) (fun ms r => ms ++ rows1 r x) [] (ia_lst (ea_var Sc 1 rfl rfl rfl)) ⟨rfl, rfl, rfl, rfl, rfl⟩ (fun pre2 r post2 hy => ?_) (fun _ w => sa_wk w ?_))
    · refine ga_name Sc 4 rfl rfl (by simp) ?_
      have hkr := hkv r (pre_mem hy)
      have hms : (pre2.foldl (fun ms r => ms ++ rows1 r x) []).length ≤ 2 * pre2.length := by
        rw [foldl_flat, List.nil_append]
        have h1 : ∀ rs : List KV, (rs.flatMap fun r => rows1 r x).length = 2 * rs.length := fun rs => by
          induction rs with
          | nil => rfl
          | cons r rs ih => rw [List.flatMap_cons, List.length_append, ih]; show 2 + 2 * rs.length = _; rw [List.length_cons]; omega
        rw [h1]; omega
      have hpl := pre_lt hy (Nat.le_refl _)
      generalize pre2.foldl (fun ms r => ms ++ rows1 r x) [] = ms at hms ⊢
      refine s1_one (s1_forF C Sc.calm [false, true] D.bl (fun ms => [some (.fz (sS l)), some (.fz (rowsD rs)), some (.fz (sS [x])), some (.lst (ms.map fun r => .fz (rowD r))), some (.fz (rowD r)), none, none]) (fun ms t => ms ++ [aput r (S [x]) t]) ms (ia_tup (ep_fz' (d := .tup [.bl false, .bl true]) (ep_tup (ap_cons ea_bl (ap_cons ea_bl ap_nil)) (show 2 ≤ sizeLine by decide)) rfl)) ⟨rfl, rfl, rfl, rfl, rfl, rfl⟩ (fun pre3 t post3 hz => ?_) (fun _ w => ?_))
      · refine ga_name Sc 5 rfl rfl (by simp) ?_
        have hp3 := pre_lt hz (n := 2) (by decide)
        have hm3 : (pre3.foldl (fun ms t => ms ++ [aput r (S [x]) t]) ms).length ≤ ms.length + 2 := by rw [foldl_map, List.length_append, List.length_map]; omega
        generalize pre3.foldl (fun ms t => ms ++ [aput r (S [x]) t]) ms = mt at hm3 ⊢
        refine sa_cons (s1_setP Sc 6 rfl rfl (t := dT B0 r) (ep_dcopyT (g := D.bl) Sc 0 rfl mD (ea_var Sc 4 rfl rfl rfl)) (by simp) ?_)
        · refine sa_cons (s1_dput (k := kS (S [x])) (d := .bl t) hr0 Sc 6 rfl rfl rfl (ea_var Sc 2 rfl rfl rfl) (ea_var Sc 5 rfl rfl rfl) (by rw [List.length_map]; exact lt_size (m := 9) (by omega) (by decide)) ?_)
          show SA X W [some (.fz (sS l)), some (.fz (rowsD rs)), some (.fz (sS [x])), some (.lst (mt.map fun r => .fz (rowD r))), some (.fz (rowD r)), some (.fz (.bl t)), some (.dct (putKs (aK r) (kS (S [x]))) (putL (aK r) (r.map fun q => B0 q.2) (kS (S [x])) (B0 t)))] _ _
          rw [aput_K (v := t), aput_V (g := B0)]
          refine sa_fzD (g := D.bl) 6 rfl ?_
          refine s1_one (s1_expr (et_append (t := .fz (rowD (aput r (S [x]) t))) Sc 3 rfl rfl rfl ((ea_var Sc 6 rfl rfl rfl : EA X _ _ (rowD (aput r (S [x]) t)))).et rfl (by rw [List.length_map]; exact lt_size (m := 1000) (by omega) (by decide))) ?_)
          refine ⟨rfl, rfl, rfl, ?_, rfl, rfl⟩
          rw [List.map_append]; rfl
      · rw [foldl_map] at w
        exact Wk.trans w ⟨rfl, rfl, rfl, rfl, rfl⟩
    · refine sa_fzL (f := rowD) 3 rfl ?_
      refine s1_one (s1_setP Sc 1 rfl rfl (ea_var Sc 3 rfl rfl rfl) (by simp) ⟨rfl, ?_, rfl⟩)
      rw [foldl_flat, List.nil_append]
  · exact s1_one (s1_retP (ea_var Sc 1 rfl rfl rfl) rfl)
/-! _law_worth -/
def rowV (kv : KV) : Row := fun c => (aget kv (S [c])).getD false
def cntS (v : Row) (m : Int) (p : Pr) : Int := if p.all v = true then m + 1 else m
theorem cnt_par (v : Row) : ∀ (f : Fo) (m : Int), decide ((f.foldl (cntS v) m) % 2 = 1) = xor (decide (m % 2 = 1)) (par f v)
  | [], m => by rw [List.foldl_nil, par_nil]; cases decide (m % 2 = 1) <;> rfl
  | p :: f, m => by
    rw [List.foldl_cons, cnt_par v f, par_cons]
    unfold cntS
    cases h : p.all v with
    | false =>
      rw [if_neg (by simp)]
      cases decide (m % 2 = 1) <;> cases par f v <;> rfl
    | true =>
      rw [if_pos rfl]
      have : decide ((m + 1) % 2 = 1) = !decide (m % 2 = 1) := by
        by_cases c : m % 2 = 1
        · rw [decide_eq_true c, decide_eq_false (by omega)]; rfl
        · rw [decide_eq_false c, decide_eq_true (by omega)]; rfl
      rw [this]
      cases decide (m % 2 = 1) <;> cases par f v <;> rfl
def SpWorth : Spec := fun ds o => ∃ (f : Fo) (kv : KV), okF f ∧ (∀ p ∈ f, ∀ c ∈ p, S [c] ∈ kv.map (·.1)) ∧ ds = [frm f, rowD kv] ∧ o = .ok (.fz (.bl (par f (rowV kv))))
def N_worth : List Str := ["_law_form_here", "_law_row", "_law_many", "_law_product_here", "_law_letter"]
theorem bd_worth (f : Fo) (kv : KV) (hf : okF f) (hk : ∀ p ∈ f, ∀ c ∈ p, S [c] ∈ kv.map (·.1)) (Sc : Sco X N_worth (defScope (top 26)) [0, 1, 2, 3] [0, 1, 2, 3] ["all"]) (hr0 : Room 0 X.A) (C : SC X W) (mA : X.mg "all" = none) :
    SA X W [some (.fz (frm f)), some (.fz (rowD kv)), none, none, none] (defBody (top 26)) (PostOf (.ok (.fz (.bl (par f (rowV kv)))))) := by
  refine sa_cons (s1_setP Sc 2 rfl rfl ea_int (by simp) ?_)
  refine sa_cons (s1_forF C Sc.calm f sS (fun m => [some (.fz (frm f)), some (.fz (rowD kv)), some (.fz (.int m)), none, none]) (cntS (rowV kv)) 0 (ia_tup (ea_var Sc 0 rfl rfl rfl)) ⟨rfl, rfl, rfl, rfl⟩ (fun pre x post hx => ?_) (fun _ w => sa_wk w ?_))
  · refine ga_name Sc 3 rfl rfl (by simp) ?_
    generalize pre.foldl (cntS (rowV kv)) 0 = m
    have hx' := pre_mem hx
    have hall : (x.map (rowV kv)).all id = x.all (rowV kv) := by rw [List.all_map]; rfl
    refine s1_one (s1_if (c := x.all (rowV kv)) (bp_val ((ea_all (xs := x.map (rowV kv)) Sc 0 rfl mA ((ep_fzL (f := fun c => D.bl (rowV kv c)) (ep_lcM Sc [("_law_letter", 4)] [1, 4] [4] [] x (fun c => sS [c]) (fun c => .fz (.bl (rowV kv c))) (ia_str (z := S x) (ea_var Sc 3 rfl rfl rfl)) (fun Sb s0 H0 Cc cl fp c hc => gw_name (Sb s0 H0 Cc cl fp) 4 rfl rfl rfl (by decide) ⟨rfl, fun s0 H0 Cc cl fp => ea_dget (k := kS (S [c])) hr0 (ea_var (Sb s0 H0 Cc cl fp) 1 rfl rfl rfl) (ea_var (Sb s0 H0 Cc cl fp) 4 rfl rfl rfl) ?_⟩) (le_size (okP_len (hf.pr x hx')) (by decide)))).eq (by rw [List.map_map]; rfl))).eq (congrArg D.bl hall)) fun _ => rfl) (fun e => ?_) (fun e => ?_))
    · obtain ⟨v, hv⟩ := aget_some (hk x hx' c hc)
      rw [aget_V (g := D.bl), rowV, hv]; rfl
    · refine s1_one (s1_setP Sc 2 rfl rfl (ea_add (ea_var Sc 2 rfl rfl rfl) ea_int) (by simp) ⟨rfl, rfl, ?_, rfl⟩)
      rw [cntS, if_pos e]
    · refine sa_nil ⟨rfl, rfl, ?_, rfl⟩
      rw [cntS, if_neg (by rw [e]; simp)]
  · refine s1_one (s1_retP ((ea_ieq hr0 (ea_mod (ea_var Sc 2 rfl rfl rfl) ea_int (by decide)) ea_int rfl).eq (d1 := .bl (par f (rowV kv))) ?_) rfl)
    rw [cnt_par]
    cases par f (rowV kv) <;> rfl
/-! _law_is_form: a form is one -/
def SpIsForm : Spec := fun ds o => ∃ f : Fo, okF f ∧ ds = [frm f, sS L9] ∧ o = .ok (.fz (.bl true))
def N_isform : List Str := ["_law_found", "_law_letters_here", "_law_product_here", "_law_letter"]
theorem L9_filter {p : Pr} (h : okP p) : L9.filter (fun c => decide (c ∈ p)) = p := by
  refine up_eq (L9_up.sublist List.filter_sublist) h.1 fun x => ?_
  rw [List.mem_filter, decide_eq_true_eq]
  exact ⟨fun z => z.2, fun z => ⟨h.2 x z, z⟩⟩
theorem eraseDups_nd {l : List Pr} (h : l.Nodup) : srtP l.eraseDups = srtP l :=
  List.Perm.eq_of_pairwise (fun a b _ _ h h' => leP_antisymm h h') (srtP_pw _) (srtP_pw _) ((srtP_perm _).trans ((perm_of_mem (nodup_eraseDups l) h fun x => List.mem_eraseDups).trans (srtP_perm _).symm))
theorem srtP_id {l : List Pr} (h : l.Pairwise fun a b => leP a b = true) : srtP l = l := List.Perm.eq_of_pairwise (fun a b _ _ h h' => leP_antisymm h h') (srtP_pw _) h (srtP_perm _)
theorem bd_isform (f : Fo) (hf : okF f) (Sc : Sco X N_isform (defScope (top 27)) [0, 1, 2] [0, 1, 2] ["isinstance", "tuple", "all", "tuple", "list", "sorted", "set"]) (hr0 : Room 0 X.A) (C : SC X W) (mI : X.mg "isinstance" = none) (mT : X.mg "tuple" = none) (mA : X.mg "all" = none) (mSt : X.mg "str" = none) (mL : X.mg "list" = none) (mS : X.mg "sorted" = none) (mSe : X.mg "set" = none) :
    SA X W [some (.fz (frm f)), some (.fz (sS L9)), none, none] (defBody (top 27)) (PostOf (.ok (.fz (.bl true)))) := by
  have hlen := hf.len
  refine sa_cons (s1_if (c := false) (bw_or (c := false) (z := false) (bp_not (c := true) (bp_val (ea_isi (d := frm f) (id := "tuple") (c := true) Sc 0 1 rfl mI rfl mT boot_tuple' (ea_var Sc 0 rfl rfl rfl) rfl kit_tt) fun _ => rfl)) (fun _ => bw_or1 (bp_not (c := true) (bp_val ((ea_all (xs := f.map fun _ => true) Sc 2 rfl mA ((ep_fzL (f := fun _ => D.bl true) (ep_lcM Sc [("_law_product_here", 2)] [2] [2] ["isinstance", "str"] f sS (fun _ => .fz (.bl true)) (ia_tup (ea_var Sc 0 rfl rfl rfl)) (fun Sb s0 H0 Cc cl fp c hc => gw_name (Sb s0 H0 Cc cl fp) 2 rfl rfl rfl (by decide) ⟨rfl, fun s0 H0 Cc cl fp => ea_isi (d := sS c) (id := "str") (c := true) (Sb s0 H0 Cc cl fp) 0 1 rfl mI rfl mSt boot_str' (ea_var (Sb s0 H0 Cc cl fp) 2 rfl rfl rfl) rfl kit_ss⟩) (le_size hlen (by decide)))).eq (by rw [List.map_map]; rfl))).eq (congrArg D.bl (by simp))) fun _ => rfl)))).bp (fun e => nomatch e) (fun _ => sa_nil ?_))
  have hs : (srtU (f.map S)) = f.map S := by rw [srtU_S, eraseDups_nd hf.nd, srtP_id hf.srt]
  have hsp := shp_lsS hf.pr
  refine sa_cons (s1_if (c := false) ?_ (fun e => nomatch e) (fun _ => sa_nil ?_))
  · exact bp_eq (bp_cmp (op := .NotEq) (d1 := lsS f) (d2 := lsS f) hr0 (ea_list (ds := f.map sS) Sc 4 rfl mL (ea_var Sc 0 rfl rfl rfl) (.inr (.inl rfl))) ((ep_fzL (f := D.str) (ep_srtU hr0 Sc 5 6 rfl mS rfl mSe (ea_var Sc 0 rfl rfl rfl) (txts_frm f) (le_size (m := 512) (by simpa using hlen) (by decide)) (few_len (by simp; omega)))).eq (d1 := lsS f) (by rw [hs, List.map_map]; rfl)) ⟨hsp, hsp⟩ rfl) (by rw [eqD_lsS]; simp)
  refine sa_cons (s1_forF C Sc.calm f sS (fun _ : Unit => [some (.fz (frm f)), some (.fz (sS L9)), none, none]) (fun _ _ => ()) () (ia_tup (ea_var Sc 0 rfl rfl rfl)) ⟨rfl, rfl, rfl⟩ (fun pre x post hx => ?_) (fun _ w => sa_wk w ?_))
  · refine ga_name Sc 2 rfl rfl (by simp) ?_
    have hx' := hf.pr x (pre_mem hx)
    have hxl := okP_len hx'
    refine s1_one (s1_if (c := false) ?_ (fun e => nomatch e) (fun _ => sa_nil ⟨rfl, rfl, rfl⟩))
    refine bp_eq (bp_sne (x := x) (y := x) hr0 (ea_var Sc 2 rfl rfl rfl) ((ea_joinL (f := (L9.filter fun c => decide (c ∈ x)).map fun c => [c]) ((ep_fzL (f := fun c => sS [c]) (ep_lcS Sc [("_law_letter", 3)] [2, 3] [3] [] L9 (fun c => sS [c]) (fun c => decide (c ∈ x)) (fun c => .fz (sS [c])) (ia_str (z := S L9) (ea_var Sc 1 rfl rfl rfl)) (fun Sb s0 H0 Cc cl fp c hc => gw_name (Sb s0 H0 Cc cl fp) 3 rfl rfl rfl (by decide) ⟨rfl, fun s0 H0 Cc cl fp => ⟨ip_one (bp_inS (ea_var (Sb s0 H0 Cc cl fp) 3 rfl rfl rfl) (ea_var (Sb s0 H0 Cc cl fp) 2 rfl rfl rfl) rfl), fun _ => ea_var (Sb s0 H0 Cc cl fp) 3 rfl rfl rfl⟩⟩) (by decide))).eq (by
      show D.lst _ = D.lst (List.map sS (List.map _ _))
      rw [List.map_map]; rfl)) (by rw [sum_one, L9_filter hx']; omega)).eq (congrArg sS ((flat_one _).trans (L9_filter hx')))) rfl) (by simp)
  · exact s1_one (s1_retP ea_bl rfl)
end
end Fs

namespace Fs
open PySem PySem.Spec L2
open SX (S)
section
variable {X : Cx} {W : WX} {k : Nat} {ρ : Env} {e : Expr} {N : List Str} {scp : Scope} {vs ls : List Nat} {gs : List Str}
/-! _law_turned -/
abbrev PV := List (Pr × Bool)
abbrev toS (kv : PV) : KV := kv.map fun q => (S q.1, q.2)
def pput (kv : PV) (p : Pr) (v : Bool) : PV := if p ∈ kv.map (·.1) then kv.map (fun q => if q.1 = p then (p, v) else q) else kv ++ [(p, v)]
def pget : PV → Pr → Option Bool
  | [], _ => none
  | q :: kv, p => if q.1 = p then some q.2 else pget kv p
theorem toS_mem {kv : PV} {p : Pr} : S p ∈ (toS kv).map (·.1) ↔ p ∈ kv.map (·.1) := by
  rw [List.map_map, List.mem_map, List.mem_map]
  exact ⟨fun ⟨q, h1, h2⟩ => ⟨q, h1, SX.S_inj h2⟩, fun ⟨q, h1, h2⟩ => ⟨q, h1, congrArg S h2⟩⟩
theorem S_ite {β : Type} {p q : Pr} {u v : β} : (if S p = S q then u else v) = if p = q then u else v := by
  by_cases c : p = q
  · rw [if_pos c, if_pos (congrArg S c)]
  · rw [if_neg c, if_neg fun z => c (SX.S_inj z)]
theorem aput_toS {kv : PV} {p : Pr} {v : Bool} : aput (toS kv) (S p) v = toS (pput kv p v) := by
  unfold aput pput
  by_cases c : p ∈ kv.map (·.1)
  · rw [if_pos (toS_mem.mpr c), if_pos c]
    show List.map _ (List.map _ kv) = List.map _ (List.map _ kv)
    rw [List.map_map, List.map_map]
    refine List.map_congr_left fun q _ => ?_
    show (if S q.1 = S p then (S p, v) else (S q.1, q.2)) = (S (if q.1 = p then (p, v) else q).1, (if q.1 = p then (p, v) else q).2)
    rw [S_ite]
    split <;> rfl
  · rw [if_neg fun z => c (toS_mem.mp z), if_neg c]
    show _ = List.map _ (kv ++ [(p, v)])
    rw [List.map_append]; rfl
theorem aget_toS {p : Pr} : ∀ {kv : PV}, aget (toS kv) (S p) = pget kv p
  | [] => rfl
  | q :: kv => by
    show (if S q.1 = S p then some q.2 else aget (toS kv) (S p)) = _
    rw [S_ite, aget_toS]; rfl
def turnS (kv : PV) (p : Pr) : PV := pput kv p (!(pget kv p).getD false)
def trues (kv : PV) : List Pr := (kv.filter (·.2)).map (·.1)
theorem pput_K {kv : PV} {p : Pr} {v : Bool} : (pput kv p v).map (·.1) = if p ∈ kv.map (·.1) then kv.map (·.1) else kv.map (·.1) ++ [p] := by
  unfold pput
  split
  · rw [List.map_map]
    refine List.map_congr_left fun q _ => ?_
    show (if q.1 = p then (p, v) else q).1 = q.1
    split
    · rename_i h; exact h.symm
    · rfl
  · rw [List.map_append]; rfl
theorem turn_nd {kv : PV} {p : Pr} (h : (kv.map (·.1)).Nodup) : ((turnS kv p).map (·.1)).Nodup := by
  rw [turnS, pput_K]
  split
  · exact h
  · rename_i c
    exact List.nodup_append.mpr ⟨h, by simp, fun a ha b hb e => c (by rw [List.mem_singleton.mp hb] at e; rw [← e]; exact ha)⟩
theorem turn_par (v : Row) (p : Pr) : ∀ (kv : PV), (kv.map (·.1)).Nodup → par (trues (turnS kv p)) v = xor (par (trues kv) v) (p.all v) := fun kv nd => by
  have h1 : ∀ kv : PV, (kv.map (·.1)).Nodup → p ∈ kv.map (·.1) → par (trues (kv.map (fun q => if q.1 = p then (p, !(pget kv p).getD false) else q))) v = xor (par (trues kv) v) (p.all v) := fun kv => by
    induction kv with
    | nil => intro _ h; nomatch h
    | cons q kv ih =>
      intro nd h
      have nd' := List.nodup_cons.mp (show (q.1 :: kv.map (·.1)).Nodup from nd)
      by_cases c : q.1 = p
      · have e : kv.map (fun r => if r.1 = p then (p, !(pget (q :: kv) p).getD false) else r) = kv := by
          have : kv.map (fun r => if r.1 = p then (p, !(pget (q :: kv) p).getD false) else r) = kv.map id := List.map_congr_left fun r hr => by
            rw [if_neg fun z => nd'.1 (by rw [c, ← z]; exact List.mem_map.mpr ⟨r, hr, rfl⟩)]; rfl
          rw [this, List.map_id]
        rw [List.map_cons, e, if_pos c]
        have g : pget (q :: kv) p = some q.2 := if_pos c
        rw [g]
        obtain ⟨q1, q2⟩ := q
        have c' : q1 = p := c
        subst c'
        cases q2 with
        | true =>
          show par (trues kv) v = xor (par (q1 :: trues kv) v) (q1.all v)
          rw [par_cons]; cases q1.all v <;> cases par (trues kv) v <;> rfl
        | false =>
          show par (q1 :: trues kv) v = xor (par (trues kv) v) (q1.all v)
          rw [par_cons]; cases q1.all v <;> cases par (trues kv) v <;> rfl
      · have g : pget (q :: kv) p = pget kv p := if_neg c
        rw [g, List.map_cons, if_neg c]
        have := ih nd'.2 ((List.mem_cons.mp h).resolve_left fun z => c z.symm)
        obtain ⟨q1, q2⟩ := q
        cases q2 with
        | true =>
          show par (q1 :: trues (kv.map _)) v = xor (par (q1 :: trues kv) v) (p.all v)
          rw [par_cons, par_cons, this]; cases q1.all v <;> cases par (trues kv) v <;> cases p.all v <;> rfl
        | false => exact this
  have h2 : ∀ kv : PV, p ∉ kv.map (·.1) → pget kv p = none := fun kv => by
    induction kv with
    | nil => intro _; rfl
    | cons q kv ih =>
      intro h
      have h' := fun z => h (List.mem_cons.mpr z)
      show (if q.1 = p then some q.2 else pget kv p) = none
      rw [if_neg fun z => h' (.inl z.symm)]
      exact ih fun z => h' (.inr z)
  by_cases c : p ∈ kv.map (·.1)
  · rw [turnS, pput, if_pos c]
    exact h1 kv nd c
  · rw [turnS, pput, if_neg c, h2 kv c]
    show par (trues (kv ++ [(p, true)])) v = _
    unfold trues
    rw [List.filter_append, List.map_append, par_app]
    show xor _ (par [p] v) = _
    rw [par_cons, par_nil]; cases p.all v <;> rfl
theorem turn_keys' : ∀ (ps : List Pr) (kv : PV), (∀ q ∈ (ps.foldl turnS kv).map (·.1), q ∈ kv.map (·.1) ∨ q ∈ ps)
  | [], _, q, h => .inl h
  | p :: ps, kv, q, h => by
    rcases turn_keys' ps (turnS kv p) q h with z | z
    · rw [turnS, pput_K] at z
      split at z
      · exact .inl z
      · rcases List.mem_append.mp z with z | z
        · exact .inl z
        · exact .inr (by rw [List.mem_singleton.mp z]; exact List.mem_cons_self)
    · exact .inr (List.mem_cons_of_mem _ z)
theorem turn_fold (v : Row) : ∀ (ps : List Pr) (kv : PV), (kv.map (·.1)).Nodup → ((ps.foldl turnS kv).map (·.1)).Nodup ∧ par (trues (ps.foldl turnS kv)) v = xor (par (trues kv) v) (par ps v)
  | [], kv, nd => ⟨nd, by rw [List.foldl_nil, par_nil]; cases par (trues kv) v <;> rfl⟩
  | p :: ps, kv, nd => by
    obtain ⟨h1, h2⟩ := turn_fold v ps (turnS kv p) (turn_nd nd)
    refine ⟨h1, ?_⟩
    rw [List.foldl_cons, h2, turn_par v p kv nd, par_cons]
    cases par (trues kv) v <;> cases p.all v <;> cases par ps v <;> rfl
theorem turned_ga {ps : List Pr} (h : ∀ p ∈ ps, okP p) : srtP (trues (ps.foldl turnS [])) = ga ps := by
  have nd := (turn_fold (fun _ => false) ps [] List.nodup_nil).1
  have sub : (trues (ps.foldl turnS [])).Sublist ((ps.foldl turnS []).map (·.1)) := List.filter_sublist.map _
  refine form_eq ⟨fun p hp => ?_, srtP_pw _, (srtP_perm _).nodup_iff.mpr (nd.sublist sub)⟩ (ga_ok h) fun v => ?_
  · rcases turn_keys' ps [] p (sub.subset ((srtP_perm _).mem_iff.mp hp)) with z | z
    · nomatch z
    · exact h p z
  · rw [par_perm v (srtP_perm _), (turn_fold v ps [] List.nodup_nil).2, par_ga]
    show xor (par [] v) _ = _
    rw [par_nil]; cases par ps v <;> rfl
theorem turn_len (ps : List Pr) : ∀ kv : PV, (ps.foldl turnS kv).length ≤ kv.length + ps.length := by
  induction ps with
  | nil => intro kv; simp
  | cons p ps ih =>
    intro kv
    have h1 := ih (turnS kv p)
    have h2 : (turnS kv p).length ≤ kv.length + 1 := by unfold turnS pput; split <;> simp
    simp only [List.foldl_cons, List.length_cons]; omega
def SpTurned : Spec := fun ds o => ∃ ps : List Pr, ps.length ≤ 1048576 ∧ (∀ p ∈ ps, okP p) ∧ ds = [lsS ps] ∧ o = .ok (.fz (frm (ga ps)))
def N_turned : List Str := ["_law_products", "_law_odd", "_law_product_here"]
def trK (kv : PV) : Key → Bool
  | .inr x => (aget (toS kv) x).getD false
  | .inl _ => false
theorem ep_teq {t t' : T} (h : EP X ρ e t) (q : t = t') : EP X ρ e t' := q ▸ h
theorem ers_B0 {kv : KV} : ers (kv.map fun q => B0 q.2) = kv.map fun q => D.bl q.2 := ers_dT (g := D.bl)
theorem bd_turned (ps : List Pr) (hl : ps.length ≤ 1048576) (hp : ∀ p ∈ ps, okP p) (Sc : Sco X N_turned (defScope (top 28)) [0, 1, 2] [0, 1, 2] ["tuple", "sorted"]) (hr0 : Room 0 X.A) (C : SC X W) (mT : X.mg "tuple" = none) (mS : X.mg "sorted" = none) :
    SA X W [some (.fz (lsS ps)), none, none] (defBody (top 28)) (PostOf (.ok (.fz (frm (ga ps))))) := by
  refine sa_cons (s1_setP Sc 1 rfl rfl ep_dnew (by simp) ?_)
  refine sa_cons (s1_forF C Sc.calm ps sS (fun kv => [some (.fz (lsS ps)), some (dT B0 (toS kv)), none]) turnS [] (ia_lst (ea_var Sc 0 rfl rfl rfl)) ⟨rfl, rfl, rfl⟩ (fun pre x post hx => ?_) (fun _ w => sa_wk w ?_))
  · refine ga_name Sc 2 rfl rfl (by simp) ?_
    have hlen := turn_len pre []
    have hpl := pre_lt hx hl
    generalize pre.foldl turnS [] = kv at hlen ⊢
    refine s1_one (s1_dput (k := kS (S x)) (d := .bl (!(pget kv x).getD false)) hr0 Sc 1 rfl rfl rfl (ea_var Sc 2 rfl rfl rfl) (ea_not (c := (pget kv x).getD false) (ep_bor ((ea_dget2 (k := kS (S x)) (d := .bl false) hr0 (ea_var Sc 1 rfl rfl rfl) (ea_var Sc 2 rfl rfl rfl) ea_bl ⟨rfl, rfl, rfl, rfl⟩).eq (d1 := .bl ((pget kv x).getD false)) ?_) rfl)) (by simp at hlen ⊢; exact lt_size (m := 1048577) (by omega) (by decide)) ?_)
    · rw [ers_B0, aget_V (g := D.bl), aget_toS]
      cases pget kv x <;> rfl
    · show Wk [some (.fz (lsS ps)), some (.dct (putKs (aK (toS kv)) (kS (S x))) (putL (aK (toS kv)) ((toS kv).map fun q => B0 q.2) (kS (S x)) (B0 (!(pget kv x).getD false)))), some (.fz (sS x))] _
      rw [aput_K (v := !(pget kv x).getD false), aput_V (g := B0), aput_toS]
      exact ⟨rfl, rfl, rfl⟩
  · have hlen := turn_len ps []
    have nd := (turn_fold (fun _ => false) ps [] List.nodup_nil).1
    have hres := turned_ga hp
    generalize ps.foldl turnS [] = kv at hlen nd hres ⊢
    have hkl : (aK (toS kv)).length ≤ 1048576 := by simp at hlen ⊢; omega
    have g : ∀ q ∈ kv, pget kv q.1 = some q.2 := by
      clear hkl hres hlen
      induction kv with
      | nil => intro q h; nomatch h
      | cons r kv ih =>
        intro q h
        have nd' := List.nodup_cons.mp (show (r.1 :: kv.map (·.1)).Nodup from nd)
        show (if r.1 = q.1 then some r.2 else pget kv q.1) = some q.2
        rcases List.mem_cons.mp h with e | e
        · rw [e, if_pos rfl]
        · rw [if_neg fun z => nd'.1 (by rw [z]; exact List.mem_map.mpr ⟨q, e, rfl⟩)]
          exact ih nd'.2 q e
    have fk : ((aK (toS kv)).filter (trK kv)).map (fun q => T.fz (kD q)) = (trues kv).map fun p => T.fz (sS p) := by
      show List.map _ (List.filter _ (List.map _ (List.map _ kv))) = List.map _ (List.map _ (List.filter _ kv))
      rw [List.map_map, List.filter_map, List.map_map, List.map_map]
      have e : kv.filter ((trK kv) ∘ ((fun q : Str × Bool => kS q.1) ∘ fun q : Pr × Bool => (S q.1, q.2))) = kv.filter (·.2) := List.filter_congr fun q hq => by
        show (aget (toS kv) (S q.1)).getD false = q.2
        rw [aget_toS, g q hq]; rfl
      rw [e]; rfl
    refine s1_one (s1_retP ((ep_tuple (ds := (srt ((trues kv).map S)).map .str) Sc 0 rfl mT (ep_fzL (ep_sorted (xs := (trues kv).map S) (d := lsS (trues kv)) hr0 Sc 1 rfl mS (ep_fzL (f := sS) (ep_teq (ep_lcdS Sc [("_law_product_here", 2)] [1, 2] [2] [] 1 rfl rfl rfl (trK kv) (fun q => .fz (kD q)) (fun Sb s0 H0 Cc cl fp q hq => ?_) (le_size hkl (by decide)) ?_) (congrArg T.lst fk))) (txts_lsS _) ?_))).eq (d1 := frm (ga ps)) ?_) rfl)
    · obtain ⟨r, hr, rfl⟩ := List.mem_map.mp hq
      obtain ⟨r0, hr2, rfl⟩ := List.mem_map.mp hr
      exact gw_name (Sb s0 H0 Cc cl fp) 2 rfl rfl rfl (by decide) ⟨rfl, fun s0 H0 Cc cl fp => ⟨ip_one (bp_val ((ea_dget (k := kS (S r0.1)) (d := .bl (trK kv (kS (S r0.1)))) hr0 (ea_var (Sb s0 H0 Cc cl fp) 1 rfl rfl rfl) (ea_var (Sb s0 H0 Cc cl fp) 2 rfl rfl rfl) (by
        rw [ers_B0, aget_V (g := D.bl)]
        show (aget (toS kv) (S r0.1)).map D.bl = some (.bl ((aget (toS kv) (S r0.1)).getD false))
        rw [aget_toS, g r0 hr2]; rfl))) fun _ => rfl), fun _ => ea_var (Sb s0 H0 Cc cl fp) 2 rfl rfl rfl⟩⟩
    · rw [fk]
      have : ∀ l : List Pr, inds (l.map fun p => T.fz (sS p)) = true := fun l => by
        induction l with
        | nil => rfl
        | cons p l ih => show (true && inds (l.map fun p => T.fz (sS p))) = true; rw [ih]; rfl
      exact this _
    · rw [List.length_map]
      have : (trues kv).length ≤ kv.length := by unfold trues; rw [List.length_map]; exact List.length_filter_le _ _
      simp at hlen
      exact le_size (m := 1048576) (by omega) (by decide)
    · rw [srt_S, hres, List.map_map]; rfl
/-! _law_times, _law_either, _law_in, _law_sorted -/
def N_times : List Str := ["_law_one", "_law_other", "_law_products", "_law_product_here", "_law_factor"]
theorem bd_times (a b : Fo) (ha : okF a) (hb : okF b) (Sc : Sco X N_times (defScope (top 29)) [0, 1, 2, 3, 4] [0, 1, 2, 3, 4] ["_law_turned", "sorted", "set"]) (hr : Room k X.A) (hr0 : Room 0 X.A) (C : SC X W) (cT : CalX X k "_law_turned" ["_law_products"] SpTurned) (mS : X.mg "sorted" = none) (mSe : X.mg "set" = none) :
    SA X W [some (.fz (frm a)), some (.fz (frm b)), none, none, none] (defBody (top 29)) (PostOf (.ok (.fz (frm (muF a b))))) := by
  have hla := ha.len
  have hlb := hb.len
  refine sa_cons (s1_setP Sc 2 rfl rfl (ep_lst ap_nil (by simp)) (by simp) ?_)
  refine sa_cons (s1_forF C Sc.calm a sS (fun ps => [some (.fz (frm a)), some (.fz (frm b)), some (.lst (ps.map fun p => .fz (sS p))), none, none]) (fun ps p => ps ++ b.map fun q => uni p q) [] (ia_tup (ea_var Sc 0 rfl rfl rfl)) ⟨rfl, rfl, rfl, rfl⟩ (fun pre x post hx => ?_) (fun _ w => sa_wk w ?_))
  · refine ga_name Sc 3 rfl rfl (by simp) ?_
    have hx' := ha.pr x (pre_mem hx)
    have hpl : (pre.foldl (fun ps p => ps ++ b.map fun q => uni p q) []).length + b.length ≤ 512 * 512 := by
      rw [foldl_flat, List.nil_append]
      have := muL_len pre b
      unfold muL at this
      rw [this, ← Nat.succ_mul]
      exact Nat.mul_le_mul (by have := pre_lt hx hla; omega) hlb
    generalize pre.foldl (fun ps p => ps ++ b.map fun q => uni p q) [] = ms at hpl ⊢
    refine s1_one (s1_forF C Sc.calm b sS (fun ps => [some (.fz (frm a)), some (.fz (frm b)), some (.lst (ps.map fun p => .fz (sS p))), some (.fz (sS x)), none]) (fun ps q => ps ++ [uni x q]) ms (ia_tup (ea_var Sc 1 rfl rfl rfl)) ⟨rfl, rfl, rfl, rfl, rfl⟩ (fun pre2 y post2 hy => ?_) (fun _ w => ?_))
    · refine ga_name Sc 4 rfl rfl (by simp) ?_
      have hy' := hb.pr y (pre_mem hy)
      have l1 := okP_len hx'
      have l2 := okP_len hy'
      refine s1_one (s1_expr (et_append (t := .fz (sS (uni x y))) Sc 2 rfl rfl rfl (ea_jsu (l := x ++ y) hr0 Sc 1 2 rfl mS rfl mSe (ea_scat (ea_var Sc 3 rfl rfl rfl) (ea_var Sc 4 rfl rfl rfl) (le_size (m := 18) (by omega) (by decide))) (by rw [List.length_append]; omega) (few_L9 fun c hc => (List.mem_append.mp hc).elim (hx'.2 c) (hy'.2 c))).et rfl ?_) ?_)
      · rw [foldl_map, List.length_map, List.length_append, List.length_map]
        exact lt_size (m := 512 * 512) (by have := pre_lt hy (Nat.le_refl _); omega) (by decide)
      · refine ⟨rfl, rfl, ?_, rfl, rfl⟩
        rw [List.map_append]; rfl
    · rw [foldl_map] at w
      exact Wk.trans w ⟨rfl, rfl, rfl, rfl⟩
  · have e : a.foldl (fun ps p => ps ++ b.map fun q => uni p q) [] = muL a b := by rw [foldl_flat, List.nil_append]; rfl
    rw [e]
    refine sa_fzL (f := sS) 2 rfl ?_
    exact s1_one (s1_retP (ep_call cT hr Sc 0 rfl (ap1 (ea_var Sc 2 rfl rfl rfl)) ⟨muL a b, by rw [muL_len]; exact Nat.le_trans (Nat.mul_le_mul hla hlb) (by decide), muL_ok ha hb, rfl, rfl⟩) rfl)
theorem gaOr {a b : Fo} (ha : okF a) (hb : okF b) : ga (a ++ b ++ muF a b) = joF a b :=
  form_eq (ga_ok fun p hp => (List.mem_append.mp hp).elim (fun z => (List.mem_append.mp z).elim (ha.pr p) (hb.pr p)) ((mu_ok ha hb).pr p)) (jo_ok ha hb) fun v => by
    rw [par_ga, par_app, par_app, par_mu, par_jo]
    cases par a v <;> cases par b v <;> rfl
theorem bd_either (a b : Fo) (ha : okF a) (hb : okF b) (Sc : Sco X ["_law_one", "_law_other"] (defScope (top 30)) [0, 1] [0, 1] ["_law_turned", "list", "_law_times"]) (hr : Room k X.A) (C : SC X W) (cT : CalX X k "_law_turned" ["_law_products"] SpTurned) (cM : CalX X k "_law_times" ["_law_one", "_law_other"] SpMult) (mL : X.mg "list" = none) :
    SA X W [some (.fz (frm a)), some (.fz (frm b))] (defBody (top 30)) (PostOf (.ok (.fz (frm (joF a b))))) := by
  have hla := ha.len
  have hlb := hb.len
  have hlm := (mu_ok ha hb).len
  exact s1_one (s1_retP (ep_call cT hr Sc 0 rfl (ap1 (ea_cat (ea_cat (ea_list Sc 1 rfl mL (ea_var Sc 0 rfl rfl rfl) (.inr (.inl rfl))) (ea_list Sc 1 rfl mL (ea_var Sc 1 rfl rfl rfl) (.inr (.inl rfl))) (by simp; exact le_size (m := 1024) (by omega) (by decide))) (ea_list (ds := (muF a b).map sS) Sc 1 rfl mL (ep_call cM hr Sc 2 rfl (ap2 (ea_var Sc 0 rfl rfl rfl) (ea_var Sc 1 rfl rfl rfl)) ⟨a, b, ha, hb, rfl, rfl⟩) (.inr (.inl rfl))) (by simp; exact le_size (m := 2000) (by omega) (by decide)))) ⟨a ++ b ++ muF a b, by simp; omega, fun p hp => (List.mem_append.mp hp).elim (fun z => (List.mem_append.mp z).elim (ha.pr p) (hb.pr p)) ((mu_ok ha hb).pr p), by rw [lsS, List.map_append, List.map_append], by rw [gaOr ha hb]⟩) rfl)
theorem bd_in (a : Fo) (ha : okF a) (Sc : Sco X ["_law_form_here", "_law_letter"] (defScope (top 31)) [0] [0] []) (C : SC X W) :
    SA X W [some (.fz (frm a)), none] (defBody (top 31)) (PostOf (.ok (.fz (sS (ltF a))))) := by
  have hs := okF_sum ha.pr
  have hl := ha.len
  have e : L9.filter (fun c => decide (c ∈ a.flatten)) = ltF a := by
    refine up_eq (L9_up.sublist List.filter_sublist) (srtN_up _) fun x => ?_
    rw [List.mem_filter, decide_eq_true_eq, ltF, srtN_mem]
    exact ⟨fun z => z.2, fun z => ⟨flat_L9 ha.pr x z, z⟩⟩
  exact s1_one (s1_retP ((ea_joinL (f := (L9.filter fun c => decide (c ∈ a.flatten)).map fun c => [c]) ((ep_fzL (f := fun c => sS [c]) (ep_lcS Sc [("_law_letter", 1)] [0, 1] [1] [] L9 (fun c => sS [c]) (fun c => decide (c ∈ a.flatten)) (fun c => .fz (sS [c])) (ia_str (z := S L9) ea_L9) (fun Sb s0 H0 Cc cl fp c hc => gw_name (Sb s0 H0 Cc cl fp) 1 rfl rfl rfl (by decide) ⟨rfl, fun s0 H0 Cc cl fp => ⟨ip_one (bp_inS (ea_var (Sb s0 H0 Cc cl fp) 1 rfl rfl rfl) (ea_joinT (ea_var (Sb s0 H0 Cc cl fp) 0 rfl rfl rfl) (by omega)) rfl), fun _ => ea_var (Sb s0 H0 Cc cl fp) 1 rfl rfl rfl⟩⟩) (by decide))).eq (by
      show D.lst _ = D.lst (List.map sS (List.map _ _))
      rw [List.map_map]; rfl)) (by rw [sum_one, e]; have := okP_len (ltF_ok ha); omega)).eq (congrArg sS ((flat_one _).trans e))) rfl)
end
end Fs

/-! E1: enumerate(text). -/
namespace Fs
open PySem PySem.Spec L2 PyProof.Rows
/-- the signs of z in new pairs -/
def ItS (z : Str) : It := ⟨fun i _ => i < z.cps.size, fun i H v H' => ∃ T c, v = .ref T ∧ z.cps[i]? = some c ∧ H T = none ∧ H' = upd H T (.tup [.int (i : Nat), .str (sgn c)]), fun i _ => z.cps.size ≤ i⟩
theorem turn_enumS {P : Program} {w : World} {K : PySem.W.Frag} {elts : List Expr} {kk : Nat} {tpos : Pos} (z : Str) (hz : z.cps.all (· < 128) = true) (tt : Tok) (e it : Addr) :
    Turn P w K (.Tuple elts kk tpos) (ItS z) [e, it] e (fun i h => (∃ old, IsEnum h e it ((i : Nat) : Int) old) ∧ h.IsStrIter it "str_ascii_iterator" z tt i ∧ e ≠ it ∧ i ≤ z.cps.size) where
  mem := by simp
  obj := fun i h st b hb => by
    obtain ⟨⟨old, he⟩, ⟨o, ho, hc, hd⟩, _⟩ := st
    have e' : b = e ∨ b = it := by simpa using hb
    rcases e' with q | q
    · rw [q]; exact ⟨_, he, fun v q => nomatch q⟩
    · rw [q]; exact ⟨o, ho, fun v q => by rw [hd] at q; cases q⟩
  keep := fun i h h' st k => by
    obtain ⟨⟨old, he⟩, ⟨o, ho, hc⟩, hne, hl⟩ := st
    exact ⟨⟨old, k e (by simp) _ he⟩, ⟨o, k it (by simp) _ ho, hc⟩, hne, hl⟩
  item := by
    intro X hP hw hK hc i pins s σ H E I hf st hg
    subst hP hw hK
    obtain ⟨⟨old, he⟩, hit, hne, hl⟩ := st
    have hh := I.ok.hd hc
    have D : Draws X.prog X.w X.A.in1 it _ z.cps.size _ _ := Draws.strAscii (A := X.A.in1) hh it z tt
    have hel : e < s.heap.objs.size := Heap.lt_size he
    have hil : it < s.heap.objs.size := by obtain ⟨_, q, _⟩ := hit; exact Heap.lt_size q
    refine wpAny_pyNext_enum_itemD D he hit hg hne (by simpa using hne) fun u h' tk hP ho hit' hT hsz hk => ?_
    obtain ⟨c, t2, hcz, rfl⟩ := hP
    refine ⟨_, rfl, wpAny_letOwnedTupleGo_enum (s := { s with heap := h', toks := tk + 1 }) ho fun h'' he' sb => ?_⟩
    have hT2 : h''.get? s.heap.objs.size = some { cls := .type "tuple", data := .seq #[.int i tk, .str ⟨#[c]⟩ t2] } := (sb.2 _ (Nat.ne_of_gt hel)).trans hT
    have new : ObjOk X.prog X.w (upd H s.heap.objs.size (.tup [.int (i : Nat), .str (sgn c)])) h'' s.heap.objs.size (.tup [.int (i : Nat), .str (sgn c)]) :=
      ⟨by show 2 ≤ sizeLine; decide, [.int i tk, .str ⟨#[c]⟩ t2], .cons ⟨_, rfl⟩ (.cons ⟨_, rfl⟩ .nil), ⟨_, hT2, rfl, _, rfl⟩⟩
    have I1 : Inv X pins σ (upd H s.heap.objs.size (.tup [.int (i : Nat), .str (sgn c)])) { s with heap := h'', toks := tk + 1 } :=
      I.turnedNew (ch := [e, it]) (fun b ob hb q => (sb.2 b (fun z => hb (by simp [z]))).trans (hk b ob (fun z => hb (by simp [z])) (fun z => hb (by simp [z])) q)) hf (Nat.le_refl _) new
    refine ⟨.ref s.heap.objs.size, _, I1, rfl, ⟨_, c, rfl, hcz, I.hok.fresh (Nat.le_refl _), rfl⟩, ⟨⟨.str ⟨#[c]⟩ t2, ?_⟩, ?_, hne, hg⟩, fun b hb => ?_⟩
    · have e1 : ((i + 1 : Nat) : Int) = (i : Int) + 1 := by omega
      rw [e1]; exact he'
    · obtain ⟨o, q1, q2⟩ := hit'
      exact ⟨o, (sb.2 it (Ne.symm hne)).trans q1, q2⟩
    · have hb' : b < s.heap.objs.size := by
        have e' : b = e ∨ b = it := by simpa using hb
        rcases e' with z | z
        · rw [z]; exact hel
        · rw [z]; exact hil
      rw [upd_ne (Nat.ne_of_lt hb')]
      exact (hf b hb).1
  done := by
    intro X hP hw hK hc i pins s σ H E I hf st hg
    subst hP hw hK
    obtain ⟨⟨old, he⟩, hit, hne, hl⟩ := st
    have ei : i = z.cps.size := Nat.le_antisymm hl hg
    subst ei
    obtain ⟨f0, f1, f2, f3, f4, f5⟩ := hf it (by simp)
    have D : Draws X.prog X.w X.A.in1 it _ z.cps.size _ _ := Draws.strAscii (A := X.A.in1) (I.ok.hd hc) it z tt
    exact wpAny_pyNext_enum_endD D he hit fun h' eb => ⟨rfl, I.turned (t' := s.toks) (fun b o hb q => eb b o hb q) f0 f1 f3 f4 f5⟩
  self := fun A i s Q E st h => let ⟨⟨_, he⟩, _⟩ := st; wpAny_pyIter_enum he h
section
variable {X : Cx} {ρ : Env} {e : Expr} {N : List Str} {scp : Scope} {vs ls : List Nat} {gs : List Str}
def iEnS (ta : TA) : TI := fun σ H R => ta σ H fun vs H1 => ∃ z : Str, vs = [.str z] ∧ z.cps.all (· < 128) = true ∧ R (ItS z) H1
theorem pi_enumS {ta : TA} {p pos tpos : Pos} {elts : List Expr} {kk : Nat} (hg : Gl X "enumerate") (hm : X.mg "enumerate" = none) (ha : PA X [e] ta) (hs : starEach [e] X.env = [(false, eval e X.env)] := by rfl) :
    PI X (.Tuple elts kk tpos) (.Call (.Name "enumerate" p) [e] [] pos) (iEnS ta) := by
  refine ⟨fun pins s σ H R I h => ?_⟩
  refine Call_ (ld_blt I hg hm boot_enumerate (PyProof.Rows.callWith_type1 (thn (ha.run pos pins s σ H _ I h) fun us s1 ⟨vs, H1, I1, r1, q1⟩ => ?_) hs rfl))
  obtain ⟨z, rfl, hz, q⟩ := q1
  obtain ⟨u, rfl, ru⟩ := vals1 r1
  obtain ⟨t, rfl⟩ := ru
  have ety : strIterType z = "str_ascii_iterator" := by unfold strIterType; rw [hz]; rfl
  refine call_enumerate_str fun h' he hit hsz hk => wpAny_pyIter_enum he ?_
  rw [ety] at hit
  have I2 : Inv X pins σ H1 { s1 with heap := h' } := I1.kept (t' := s1.toks) hk
  refine ⟨s1.heap.objs.size + 1, [s1.heap.objs.size + 1, s1.heap.objs.size], _, _, H1, rfl, I2, turn_enumS z hz t (s1.heap.objs.size + 1) s1.heap.objs.size, ⟨⟨.none, he⟩, hit, Nat.succ_ne_self _, Nat.zero_le _⟩, fun b hb => ?_, q⟩
  have e' : b = s1.heap.objs.size + 1 ∨ b = s1.heap.objs.size := by simpa using hb
  have hle : s1.heap.objs.size ≤ b := by
    rcases e' with z | z
    · rw [z]; exact Nat.le_add_right _ _
    · rw [z]; exact Nat.le_refl _
  exact I1.fpOk hle (I1.hok.fresh hle)
open SX (S)
theorem ia_enumS {l : List Nat} {elts : List Expr} {kk : Nat} {tpos p pos : Pos} (Sc : Sco X N scp vs ls gs) (j : Nat) (hg : gs[j]? = some (Str.ofString "enumerate")) (hm : X.mg (Str.ofString "enumerate") = none) (ha : EA X ρ e (sS l)) (hl : ∀ c ∈ l, c < 128) (hn : NS e := by intro _ _; rfl) : IA X ρ (.Tuple elts kk tpos) (.Call (.Name "enumerate" p) [e] [] pos) (l.zipIdx.map fun q => .tup [.int (q.2 : Nat), sS [q.1]]) :=
  ia_of (pi_enumS (Sc.glo j _ hg).1 hm (ap1 ha hn).pa (hn [] X.env)) fun σ H S' O R p Q q => useAP (es := []) p fun us H1 S1 sm p1 r => by
    obtain ⟨v, rfl, rfl⟩ := r.one
    refine ⟨S l, rfl, ?_, q _ H1 S1 sm p1.hi ⟨fun H S2 L hi z => ?_, fun i H S2 L hi z hlt => ?_, fun i H S2 L x H' d' hi z hy hd' => ?_⟩⟩
    · rw [← Array.all_toList, List.all_eq_true]
      exact fun c hc => decide_eq_true (hl c hc)
    · show l.length ≤ _
      rw [List.length_map, List.length_zipIdx]; exact Nat.le_refl _
    · show i < l.length
      rw [List.length_map, List.length_zipIdx] at hlt; exact hlt
    · obtain ⟨t, c, rfl, hc, nt, rfl⟩ := hy
      have hc' : l[i]? = some c := by rw [← hc, ← Array.getElem?_toList]
      rw [List.getElem?_map, List.getElem?_zipIdx, hc'] at hd'
      have ed : d' = .tup [.int ((i : Nat) : Int), sS [c]] := by simpa using hd'.symm
      subst ed
      have nf := same_new (o := .tup [.int (i : Nat), .str (sgn c)]) (hi.free nt)
      exact ⟨_, nf, hi.new nt, t, _, rfl, .inl (.inl upd_same), _, _, rfl, rfl, _, _, rfl, rfl, rfl⟩
end
end Fs

namespace Fs
open PySem PySem.Spec L2
open SX (S)
section
variable {X : Cx} {W : WX} {k : Nat} {ρ : Env} {e : Expr} {N : List Str} {scp : Scope} {vs ls : List Nat} {gs : List Str}
/-! _law_parts -/
abbrev Tri := List Nat × List Nat × List Nat
def triL (t : Tri) : List Pr := [t.1, t.2.1, t.2.2]
def addT (t : Tri) (w : Int) (c : Nat) : Tri := if w = 0 then (t.1 ++ [c], t.2.1, t.2.2) else if w = 1 then (t.1, t.2.1 ++ [c], t.2.2) else (t.1, t.2.1, t.2.2 ++ [c])
def whS (ns : List Int) (at' : Int) (i : Nat) : Int := mixed ns (at' + 2 + (i : Int)) / 3 % 3
def prtS (ns : List Int) (at' : Int) (t : Tri) (q : Nat × Nat) : Tri := addT t (whS ns at' q.2) q.1
def leftL (ns : List Int) (at' : Int) : List Nat := lettersL (mixed ns at') (2 + mixed ns (at' + 1) % 5)
def partsL (ns : List Int) (at' : Int) : Tri := (leftL ns at').zipIdx.foldl (prtS ns at') ([], [], [])
/-- three parts of one row of letters -/
structure Prts (l : List Nat) (t : Tri) : Prop where
  a : t.1.Sublist l
  b : t.2.1.Sublist l
  c : t.2.2.Sublist l
  dab : ∀ x ∈ t.1, x ∉ t.2.1
  dac : ∀ x ∈ t.1, x ∉ t.2.2
theorem prts_fold (ns : List Int) (at' : Int) : ∀ (post : List Nat) (n : Nat) (pre : List Nat) (t : Tri), (pre ++ post).Nodup → Prts pre t → Prts (pre ++ post) ((post.zipIdx n).foldl (prtS ns at') t)
  | [], n, pre, t, _, h => by rw [List.append_nil]; exact h
  | c :: post, n, pre, t, nd, h => by
    rw [List.zipIdx_cons, List.foldl_cons]
    have hc : c ∉ pre := fun z => (List.nodup_append.mp nd).2.2 c z c List.mem_cons_self rfl
    have step : Prts (pre ++ [c]) (prtS ns at' t (c, n)) := by
      have wk : ∀ {m : List Nat}, m.Sublist pre → m.Sublist (pre ++ [c]) := fun h => h.trans (List.sublist_append_left _ _)
      have ad : ∀ {m : List Nat}, m.Sublist pre → (m ++ [c]).Sublist (pre ++ [c]) := fun h => h.append (List.Sublist.refl _)
      unfold prtS addT
      split
      · refine ⟨ad h.a, wk h.b, wk h.c, fun x hx => ?_, fun x hx => ?_⟩
        · rcases List.mem_append.mp hx with z | z
          · exact h.dab x z
          · rw [List.mem_singleton.mp z]; exact fun y => hc (h.b.subset y)
        · rcases List.mem_append.mp hx with z | z
          · exact h.dac x z
          · rw [List.mem_singleton.mp z]; exact fun y => hc (h.c.subset y)
      · split
        · refine ⟨wk h.a, ad h.b, wk h.c, fun x hx y => ?_, h.dac⟩
          rcases List.mem_append.mp y with z | z
          · exact h.dab x hx z
          · rw [List.mem_singleton.mp z] at hx; exact hc (h.a.subset hx)
        · refine ⟨wk h.a, wk h.b, ad h.c, h.dab, fun x hx y => ?_⟩
          rcases List.mem_append.mp y with z | z
          · exact h.dac x hx z
          · rw [List.mem_singleton.mp z] at hx; exact hc (h.a.subset hx)
    have := prts_fold ns at' post (n + 1) (pre ++ [c]) _ (by rw [List.append_assoc]; exact nd) step
    rwa [List.append_assoc] at this
theorem L9_128 : ∀ c ∈ L9, c < 128 := by decide
theorem prts_len (ns : List Int) (at' : Int) : ∀ (pre : List (Nat × Nat)) (t : Tri) (n : Nat), (∀ p ∈ triL t, p.length ≤ n) → ∀ p ∈ triL (pre.foldl (prtS ns at') t), p.length ≤ n + pre.length
  | [], t, n, h => h
  | q :: pre, t, n, h => fun p hp => by
    have := prts_len ns at' pre (prtS ns at' t q) (n + 1) (fun r hr => by
      obtain ⟨t1, t2, t3⟩ := t
      have l1 := h t1 (by simp [triL])
      have l2 := h t2 (by simp [triL])
      have l3 := h t3 (by simp [triL])
      unfold prtS addT at hr
      split at hr
      · simp only [triL, List.mem_cons, List.not_mem_nil, or_false] at hr
        rcases hr with e | e | e <;> (rw [e]; simp; omega)
      · split at hr
        · simp only [triL, List.mem_cons, List.not_mem_nil, or_false] at hr
          rcases hr with e | e | e <;> (rw [e]; simp; omega)
        · simp only [triL, List.mem_cons, List.not_mem_nil, or_false] at hr
          rcases hr with e | e | e <;> (rw [e]; simp; omega)) p hp
    simp only [List.length_cons]; omega
theorem leftL_ok (ns : List Int) (at' : Int) : okP (leftL ns at') := lettersL_ok _ _
theorem parts_ok (ns : List Int) (at' : Int) : Prts (leftL ns at') (partsL ns at') := by
  have nd : (leftL ns at').Nodup := (leftL_ok ns at').1.imp fun {x y} z => Nat.ne_of_lt z
  have := prts_fold ns at' (leftL ns at') 0 [] ([], [], []) (by simpa using nd) ⟨List.Sublist.refl _, List.Sublist.refl _, List.Sublist.refl _, fun _ h => (nomatch h), fun _ h => (nomatch h)⟩
  rw [List.nil_append] at this
  exact this
abbrev triT (t : Tri) : T := .lst ((triL t).map fun p => .fz (sS p))
def SpParts : Spec := fun ds o => ∃ (ns : List Int) (at' : Int), ns.length ≤ 63 ∧ 0 ≤ at' ∧ at' ≤ 1000000 ∧ ds = [scr ns, .int at'] ∧ o = .ok (triT (partsL ns at'))
def N_parts : List Str := ["_law_script", "_law_at", "_law_left", "_law_parts_here", "_law_k", "_law_letter", "_law_which"]
theorem bd_parts (ns : List Int) (at' : Int) (hn : ns.length ≤ 63) (h0 : 0 ≤ at') (h1 : at' ≤ 1000000) (Sc : Sco X N_parts (defScope (top 32)) [0, 1, 2, 3, 4, 5, 6] [0, 1, 2, 3, 4, 5, 6] ["_law_letters", "_law_mixed", "enumerate"]) (hr : Room k X.A) (hr0 : Room 0 X.A) (C : SC X W)
    (cL : CalX X k "_law_letters" ["_law_number", "_law_many"] SpLets) (cM : CalX X k "_law_mixed" ["_law_script", "_law_k"] SpMixed) (mE : X.mg "enumerate" = none) :
    SA X W [some (.fz (scr ns)), some (.fz (.int at')), none, none, none, none, none] (defBody (top 32)) (PostOf (.ok (triT (partsL ns at')))) := by
  have m5 := Int.emod_nonneg (mixed ns (at' + 1)) (show (5 : Int) ≠ 0 by decide)
  refine sa_cons (s1_setP Sc 2 rfl rfl (ep_call cL hr Sc 0 rfl (ap2 (ep_call cM hr Sc 1 rfl (ap2 (ea_var Sc 0 rfl rfl rfl) (ea_var Sc 1 rfl rfl rfl)) ⟨ns, at', hn, h0, by omega, rfl, rfl⟩) (ea_add ea_int (ea_mod (ep_call cM hr Sc 1 rfl (ap2 (ea_var Sc 0 rfl rfl rfl) (ea_add (ea_var Sc 1 rfl rfl rfl) ea_int)) ⟨ns, at' + 1, hn, by omega, by omega, rfl, rfl⟩) ea_int (by decide)))) ⟨_, _, by omega, rfl, rfl⟩) (by simp) ?_)
  refine sa_cons (s1_setP Sc 3 rfl rfl (t := triT ([], [], [])) (ep_lst (ap_cons ea_es (ap_cons ea_es (ap_cons ea_es ap_nil))) (show 3 ≤ sizeLine by decide)) (by simp) ?_)
  have hl := leftL_ok ns at'
  have hll := okP_len hl
  refine sa_cons (s1_forF C Sc.calm (leftL ns at').zipIdx (fun q => .tup [.int (q.2 : Nat), sS [q.1]]) (fun t => [some (.fz (scr ns)), some (.fz (.int at')), some (.fz (sS (leftL ns at'))), some (triT t), none, none, none]) (prtS ns at') ([], [], []) (ia_enumS Sc 2 rfl mE (ea_var Sc 2 rfl rfl rfl) fun c hc => L9_128 c (hl.2 c hc)) ⟨rfl, rfl, rfl, rfl, rfl⟩ (fun pre q post hx => ?_) (fun _ w => sa_wk w ?_))
  · have hq : q.2 < 9 := by
      have := List.mem_zipIdx (pre_mem hx)
      omega
    have hlen : ∀ p ∈ triL (pre.foldl (prtS ns at') ([], [], [])), p.length ≤ 9 := fun p hp => by
      have := prts_len ns at' pre ([], [], []) 0 (by intro p hp; simp [triL] at hp; rw [hp]; simp) p hp
      have h2 := pre_lt hx (n := 9) (by rw [List.length_zipIdx]; exact hll)
      omega
    generalize pre.foldl (prtS ns at') ([], [], []) = t at hlen ⊢
    obtain ⟨t1, t2, t3⟩ := t
    refine ga_tup Sc.calm (gas_cons (ga_name Sc 4 rfl rfl (by simp) (gas_cons (ga_name Sc 5 rfl rfl (by simp) (gas_nil ?_))))) rfl
    refine sa_cons (s1_setP Sc 6 rfl rfl (ea_mod (ea_div (ep_call cM hr Sc 1 rfl (ap2 (ea_var Sc 0 rfl rfl rfl) (ea_add (ea_add (ea_var Sc 1 rfl rfl rfl) ea_int) (ea_var Sc 4 rfl rfl rfl))) ⟨ns, at' + 2 + (q.2 : Nat), hn, by omega, by omega, rfl, rfl⟩) ea_int ⟨by decide, by decide⟩) ea_int (by decide)) (by simp) ?_)
    have w0 := Int.emod_nonneg (mixed ns (at' + 2 + (q.2 : Nat)) / 3) (show (3 : Int) ≠ 0 by decide)
    have w1 := Int.emod_lt_of_pos (mixed ns (at' + 2 + (q.2 : Nat)) / 3) (show (0 : Int) < 3 by decide)
    have hE : prtS ns at' (t1, t2, t3) q = addT (t1, t2, t3) (mixed ns (at' + 2 + (q.2 : Nat)) / 3 % 3) q.1 := rfl
    rw [hE]
    have l1 := hlen t1 (by simp [triL])
    have l2 := hlen t2 (by simp [triL])
    have l3 := hlen t3 (by simp [triL])
    generalize mixed ns (at' + 2 + (q.2 : Nat)) / 3 % 3 = w at w0 w1 ⊢
    have hw : w = 0 ∨ w = 1 ∨ w = 2 := by omega
    rcases hw with rfl | rfl | rfl
    · exact s1_one (s1_lput (i' := 0) (n := 0) (d := sS (t1 ++ [q.1])) Sc 3 rfl rfl rfl (ea_var Sc 6 rfl rfl rfl) (ea_scat (ep_bor (ea_ix (ds := ers ((triL (t1, t2, t3)).map fun p => .fz (sS p))) (d := sS t1) (i := 0) (ea_var Sc 3 rfl rfl rfl) (ea_var Sc 6 rfl rfl rfl) (.inl rfl) rfl) rfl) (ea_var Sc 5 rfl rfl rfl) (le_size (m := 20) (by simp; omega) (by decide))) rfl ⟨rfl, rfl, rfl, rfl, rfl⟩)
    · exact s1_one (s1_lput (i' := 1) (n := 1) (d := sS (t2 ++ [q.1])) Sc 3 rfl rfl rfl (ea_var Sc 6 rfl rfl rfl) (ea_scat (ep_bor (ea_ix (ds := ers ((triL (t1, t2, t3)).map fun p => .fz (sS p))) (d := sS t2) (i := 1) (ea_var Sc 3 rfl rfl rfl) (ea_var Sc 6 rfl rfl rfl) (.inl rfl) rfl) rfl) (ea_var Sc 5 rfl rfl rfl) (le_size (m := 20) (by simp; omega) (by decide))) rfl ⟨rfl, rfl, rfl, rfl, rfl⟩)
    · exact s1_one (s1_lput (i' := 2) (n := 2) (d := sS (t3 ++ [q.1])) Sc 3 rfl rfl rfl (ea_var Sc 6 rfl rfl rfl) (ea_scat (ep_bor (ea_ix (ds := ers ((triL (t1, t2, t3)).map fun p => .fz (sS p))) (d := sS t3) (i := 2) (ea_var Sc 3 rfl rfl rfl) (ea_var Sc 6 rfl rfl rfl) (.inl rfl) rfl) rfl) (ea_var Sc 5 rfl rfl rfl) (le_size (m := 20) (by simp; omega) (by decide))) rfl ⟨rfl, rfl, rfl, rfl, rfl⟩)
  · exact s1_one (s1_ret (et_move Sc 3 rfl rfl rfl) rfl)
/-! _law_sorted -/
def SpSorted : Spec := fun ds o => ∃ a b : List Nat, okP a ∧ okP b ∧ (∀ x ∈ a, x ∉ b) ∧ ds = [sS a, sS b] ∧ o = .ok (.fz (sS (uni a b)))
theorem srt_sgn {l : List Nat} (h : l.Nodup) : srt (l.map sgn) = (srtN l).map sgn := by
  have nd : (l.map sgn).Nodup := List.pairwise_map.mpr (h.imp fun {a b} z e => z (sgn_inj e))
  rw [← srtU_sgn]
  exact srtU_of nd fun x => Iff.rfl
theorem bd_sorted (a b : List Nat) (ha : okP a) (hb : okP b) (hd : ∀ x ∈ a, x ∉ b) (Sc : Sco X ["_law_one", "_law_other"] (defScope (top 33)) [0, 1] [0, 1] ["sorted"]) (hr0 : Room 0 X.A) (C : SC X W) (mS : X.mg "sorted" = none) :
    SA X W [some (.fz (sS a)), some (.fz (sS b))] (defBody (top 33)) (PostOf (.ok (.fz (sS (uni a b))))) := by
  have la := okP_len ha
  have lb := okP_len hb
  have nd : (a ++ b).Nodup := List.nodup_append.mpr ⟨ha.1.imp fun {x y} z => Nat.ne_of_lt z, hb.1.imp fun {x y} z => Nat.ne_of_lt z, fun x hx y hy e => hd x hx (e ▸ hy)⟩
  refine s1_one (s1_retP ((ea_join (sep := S []) (xs := srt ((S (a ++ b)).cps.toList.map sgn)) ea_es (ep_fzL (f := D.str) (ep_sorted hr0 Sc 0 rfl mS (ea_scat (ea_var Sc 0 rfl rfl rfl) (ea_var Sc 1 rfl rfl rfl) (le_size (m := 18) (by omega) (by decide))) (Txts.str (S (a ++ b)) ?_) ?_)) (.inl rfl) ?_).eq (d1 := sS (uni a b)) ?_) rfl)
  · exact le_size (m := 18) (by show (a ++ b).length ≤ 18; rw [List.length_append]; omega) (by decide)
  · rw [List.length_map]; exact le_size (m := 18) (by show (a ++ b).length ≤ 18; rw [List.length_append]; omega) (by decide)
  · have e : srt ((S (a ++ b)).cps.toList.map sgn) = (srtN (a ++ b)).map sgn := srt_sgn nd
    rw [e, List.map_map, List.length_map, show (S []).length = 0 from rfl, Nat.mul_zero]
    have hs : ∀ l : List Nat, ((l.map ((fun x : Str => x.length) ∘ sgn)).sum) = l.length := fun l => by
      induction l with
      | nil => rfl
      | cons a l ih => rw [List.map_cons, List.sum_cons, ih]; show 1 + l.length = _; rw [List.length_cons]; omega
    rw [hs]
    have := okP_len (okP_uni ha hb)
    unfold uni at this
    omega
  · have e : srt ((S (a ++ b)).cps.toList.map sgn) = (srtN (a ++ b)).map sgn := srt_sgn nd
    rw [e, join_sgn]; rfl
end
end Fs

namespace Fs
open PySem PySem.Spec L2
open SX (S)
section
variable {X : Cx} {W : WX} {k : Nat} {ρ : Env} {e : Expr} {N : List Str} {scp : Scope} {vs ls : List Nat} {gs : List Str} {pos p2 : Pos} {a b : Expr}
theorem cut_take {α : Type} (xs : List α) (n : Nat) : cutL xs none (some (n : Int)) = xs.take n := by
  unfold cutL
  rw [HT.sIx_none, HT.sIx_nat, List.drop_zero, Nat.sub_zero]
  rcases Nat.le_total n xs.length with h | h
  · rw [Nat.min_eq_left h]
  · rw [Nat.min_eq_right h, List.take_length, List.take_of_length_le h]
theorem ea_takeF {f : Fo} {n : Nat} {i : Int} (hi : i = n) (ha : EA X ρ a (frm f)) (hb : EA X ρ b (.int i)) : EA X ρ (.Subscript a (.Slice none (some b) none p2) pos) (frm (f.take n)) :=
  (ea_cutT ha oa_none (oa_some hb)).eq (by rw [hi, cut_take, ← List.map_take])
theorem take_ok {f : Fo} (h : okF f) (n : Nat) : okF (f.take n) := okF_sub h (List.take_sublist _ _)
/-! _law_pair -/
def fewN (t : Tri) : Nat := if 6 < (t.1 ++ t.2.1 ++ t.2.2).length then 3 else 64
def midF (ns : List Int) (at' : Int) : Fo := (lawForm ns (at' + 20) (partsL ns at').1).take (fewN (partsL ns at'))
def oneF (ns : List Int) (at' : Int) : Fo := muF (midF ns at') ((lawForm ns (at' + 130) (uni (partsL ns at').1 (partsL ns at').2.1)).take (fewN (partsL ns at')))
def othF (ns : List Int) (at' : Int) : Fo := joF (midF ns at') ((lawForm ns (at' + 240) (uni (partsL ns at').1 (partsL ns at').2.2)).take (fewN (partsL ns at')))
theorem part1_ok (ns : List Int) (at' : Int) : okP (partsL ns at').1 := okP_sub (leftL_ok ns at') (parts_ok ns at').a
theorem part2_ok (ns : List Int) (at' : Int) : okP (partsL ns at').2.1 := okP_sub (leftL_ok ns at') (parts_ok ns at').b
theorem part3_ok (ns : List Int) (at' : Int) : okP (partsL ns at').2.2 := okP_sub (leftL_ok ns at') (parts_ok ns at').c
theorem midF_ok (ns : List Int) (at' : Int) : okF (midF ns at') := take_ok (lawForm_ok _ _ (part1_ok ns at')) _
theorem oneF_ok (ns : List Int) (at' : Int) : okF (oneF ns at') := mu_ok (midF_ok ns at') (take_ok (lawForm_ok _ _ (okP_uni (part1_ok ns at') (part2_ok ns at'))) _)
theorem othF_ok (ns : List Int) (at' : Int) : okF (othF ns at') := jo_ok (midF_ok ns at') (take_ok (lawForm_ok _ _ (okP_uni (part1_ok ns at') (part3_ok ns at'))) _)
def SpPair : Spec := fun ds o => ∃ (ns : List Int) (at' : Int), ns.length ≤ 63 ∧ 0 ≤ at' ∧ at' ≤ 500000 ∧ ds = [scr ns, .int at'] ∧ o = .ok (.fz (.tup [frm (oneF ns at'), frm (midF ns at'), frm (othF ns at')]))
def N_pair : List Str := ["_law_script", "_law_at", "_law_parts_here", "_law_few", "_law_middle", "_law_one", "_law_other"]
theorem bd_pair (ns : List Int) (at' : Int) (hn : ns.length ≤ 63) (h0 : 0 ≤ at') (h1 : at' ≤ 500000) (Sc : Sco X N_pair (defScope (top 34)) [0, 1, 2, 3, 4, 5, 6] [0, 1, 2, 3, 4, 5, 6] ["_law_parts", "len", "_law_form", "_law_times", "_law_sorted", "_law_either"]) (hr : Room k X.A) (hr0 : Room 0 X.A) (C : SC X W)
    (cP : CalX X k "_law_parts" ["_law_script", "_law_at"] SpParts) (cF : CalX X k "_law_form" ["_law_script", "_law_at", "_law_letters_here"] SpForm) (cT : CalX X k "_law_times" ["_law_one", "_law_other"] SpMult) (cS : CalX X k "_law_sorted" ["_law_one", "_law_other"] SpSorted) (cE : CalX X k "_law_either" ["_law_one", "_law_other"] SpJoin) (mL : X.mg "len" = none) :
    SA X W [some (.fz (scr ns)), some (.fz (.int at')), none, none, none, none, none] (defBody (top 34)) (PostOf (.ok (.fz (.tup [frm (oneF ns at'), frm (midF ns at'), frm (othF ns at')])))) := by
  have a1 := part1_ok ns at'
  have a2 := part2_ok ns at'
  have a3 := part3_ok ns at'
  have dd := parts_ok ns at'
  have l1 := okP_len a1
  have l2 := okP_len a2
  have l3 := okP_len a3
  have hm := midF_ok ns at'
  refine sa_cons (s1_setP Sc 2 rfl rfl (ep_call cP hr Sc 0 rfl (ap2 (ea_var Sc 0 rfl rfl rfl) (ea_var Sc 1 rfl rfl rfl)) ⟨ns, at', hn, h0, by omega, rfl, rfl⟩) (by simp) ?_)
  refine sa_fzL (f := sS) 2 rfl ?_
  have ix : ∀ (ρ : Env) (i : Nat) (p : Pr) (q1 q2 q3 : Pos) (j : Nat), ρ[2]? = some (some (.fz (lsS (triL (partsL ns at'))))) → atI ((triL (partsL ns at')).map sS) (i : Int) = some (sS p) → EA X ρ (.Subscript (.Name (Str.ofString "_law_parts_here") q1) (.Constant (.int (i : Int)) j q2) q3) (sS p) := fun ρ i p q1 q2 q3 j h h2 => ea_ix (ea_var Sc 2 rfl rfl h) ea_int (.inl rfl) h2
  have key : ∀ few : Nat, few = fewN (partsL ns at') → SA X W [some (.fz (scr ns)), some (.fz (.int at')), some (.fz (lsS (triL (partsL ns at')))), some (.fz (.int (few : Int))), none, none, none] ((defBody (top 34)).drop 3) (PostOf (.ok (.fz (.tup [frm (oneF ns at'), frm (midF ns at'), frm (othF ns at')])))) := fun few hf => by
    refine sa_cons (s1_setP Sc 4 rfl rfl ((ea_takeF (n := few) rfl (ep_call cF hr Sc 2 rfl (ap_cons (ea_var Sc 0 rfl rfl rfl) (ap2 (ea_add (ea_var Sc 1 rfl rfl rfl) ea_int) (ix _ 0 _ _ _ _ _ rfl rfl))) ⟨ns, at' + 20, _, hn, by omega, by omega, a1, rfl, rfl⟩) (ea_var Sc 3 rfl rfl rfl)).eq (d1 := frm (midF ns at')) (by rw [hf]; rfl)) (by simp) ?_)
    refine sa_cons (s1_setP Sc 5 rfl rfl (EA.eq (d := frm (muF (midF ns at') ((lawForm ns (at' + 130) (uni (partsL ns at').1 (partsL ns at').2.1)).take few))) (d1 := frm (oneF ns at')) (ep_call cT hr Sc 3 rfl (ap2 (ea_var Sc 4 rfl rfl rfl) (ea_takeF (n := few) rfl (ep_call cF hr Sc 2 rfl (ap_cons (ea_var Sc 0 rfl rfl rfl) (ap2 (ea_add (ea_var Sc 1 rfl rfl rfl) ea_int) (ep_call cS hr Sc 4 rfl (ap2 (ix _ 0 _ _ _ _ _ rfl rfl) (ix _ 1 _ _ _ _ _ rfl rfl)) ⟨_, _, a1, a2, dd.dab, rfl, rfl⟩))) ⟨ns, at' + 130, _, hn, by omega, by omega, okP_uni a1 a2, rfl, rfl⟩) (ea_var Sc 3 rfl rfl rfl))) ⟨_, _, hm, take_ok (lawForm_ok _ _ (okP_uni a1 a2)) _, rfl, rfl⟩) (by rw [hf]; rfl)) (by simp) ?_)
    refine sa_cons (s1_setP Sc 6 rfl rfl (EA.eq (d := frm (joF (midF ns at') ((lawForm ns (at' + 240) (uni (partsL ns at').1 (partsL ns at').2.2)).take few))) (d1 := frm (othF ns at')) (ep_call cE hr Sc 5 rfl (ap2 (ea_var Sc 4 rfl rfl rfl) (ea_takeF (n := few) rfl (ep_call cF hr Sc 2 rfl (ap_cons (ea_var Sc 0 rfl rfl rfl) (ap2 (ea_add (ea_var Sc 1 rfl rfl rfl) ea_int) (ep_call cS hr Sc 4 rfl (ap2 (ix _ 0 _ _ _ _ _ rfl rfl) (ix _ 2 _ _ _ _ _ rfl rfl)) ⟨_, _, a1, a3, dd.dac, rfl, rfl⟩))) ⟨ns, at' + 240, _, hn, by omega, by omega, okP_uni a1 a3, rfl, rfl⟩) (ea_var Sc 3 rfl rfl rfl))) ⟨_, _, hm, take_ok (lawForm_ok _ _ (okP_uni a1 a3)) _, rfl, rfl⟩) (by rw [hf]; rfl)) (by simp) ?_)
    exact s1_one (s1_retP (ep_fz' (ep_tup (ap_cons (ea_var Sc 5 rfl rfl rfl) (ap_cons (ea_var Sc 4 rfl rfl rfl) (ap_cons (ea_var Sc 6 rfl rfl rfl) ap_nil))) (show 3 ≤ sizeLine by decide)) rfl) rfl)
  refine sa_cons (s1_setP Sc 3 rfl rfl ea_int (by simp) ?_)
  refine sa_cons (s1_if (bp_igt hr0 (ea_len Sc 1 rfl mL (ea_scat (ea_scat (ix _ 0 _ _ _ _ _ rfl rfl) (ix _ 1 _ _ _ _ _ rfl rfl) (le_size (m := 18) (by omega) (by decide))) (ix _ 2 _ _ _ _ _ rfl rfl) (le_size (m := 27) (by simp; omega) (by decide))) (LenD.str _ (by rw [SX.S_len]; simp; exact le_size (m := 27) (by omega) (by decide)))) ea_int rfl) (fun e => ?_) (fun e => ?_))
  · have e' := of_decide_eq_true e
    rw [SX.S_len] at e'
    refine s1_one (s1_setP Sc 3 rfl rfl ea_int (by simp) ?_)
    exact key 3 (by rw [fewN, if_pos (by omega)])
  · have e' := of_decide_eq_false e
    rw [SX.S_len] at e'
    exact sa_nil (key 64 (by rw [fewN, if_neg (by omega)]))
/-! _law_row_well -/
def SpWell : Spec := fun ds o => ∃ (a b : Fo) (kv : KV), okF a ∧ okF b ∧ kv.map (·.1) = (uni (ltF a) (ltF b)).map (fun c => S [c]) ∧ ds = [frm a, frm b, rowD kv] ∧ o = .ok (.fz (.bl (par a (rowV kv) && !par b (rowV kv))))
def N_well : List Str := ["_law_one", "_law_other", "_law_row", "_law_letters_here", "_law_letter"]
theorem srtN_sgn_id {l : List Nat} (h : up l) : srt (l.map sgn) = l.map sgn := by
  rw [srt_sgn (h.imp fun {x y} z => Nat.ne_of_lt z), srtN_of h]
theorem bd_well (a b : Fo) (kv : KV) (ha : okF a) (hb : okF b) (hk : kv.map (·.1) = (uni (ltF a) (ltF b)).map (fun c => S [c])) (Sc : Sco X N_well (defScope (top 35)) [0, 1, 2, 3] [0, 1, 2, 3] ["_law_in", "isinstance", "dict", "sorted", "set", "list", "all", "dict", "_law_worth"]) (hr : Room k X.A) (hr0 : Room 0 X.A) (C : SC X W)
    (cI : CalX X k "_law_in" ["_law_form_here"] SpLetters) (cW : CalX X k "_law_worth" ["_law_form_here", "_law_row"] SpWorth) (mI : X.mg "isinstance" = none) (mD : X.mg "dict" = none) (mS : X.mg "sorted" = none) (mSe : X.mg "set" = none) (mL : X.mg "list" = none) (mA : X.mg "all" = none) (mB : X.mg "bool" = none) :
    SA X W [some (.fz (frm a)), some (.fz (frm b)), some (.fz (rowD kv)), none, none] (defBody (top 35)) (PostOf (.ok (.fz (.bl (par a (rowV kv) && !par b (rowV kv)))))) := by
  have la := ltF_ok ha
  have lb := ltF_ok hb
  have l1 := okP_len la
  have l2 := okP_len lb
  have lu := okP_uni la lb
  have l3 := okP_len lu
  refine sa_cons (s1_setP Sc 3 rfl rfl (ea_jsu (l := ltF a ++ ltF b) hr0 Sc 3 4 rfl mS rfl mSe (ea_scat (ep_call cI hr Sc 0 rfl (ap1 (ea_var Sc 0 rfl rfl rfl)) ⟨a, ha, rfl, rfl⟩) (ep_call cI hr Sc 0 rfl (ap1 (ea_var Sc 1 rfl rfl rfl)) ⟨b, hb, rfl, rfl⟩) (le_size (m := 18) (by omega) (by decide))) (by rw [List.length_append]; omega) (few_L9 fun c hc => (List.mem_append.mp hc).elim (la.2 c) (lb.2 c))) (by simp) ?_)
  show SA X W [some (.fz (frm a)), some (.fz (frm b)), some (.fz (rowD kv)), some (.fz (sS (uni (ltF a) (ltF b)))), none] _ _
  have hkey : ∀ c ∈ uni (ltF a) (ltF b), S [c] ∈ kv.map (·.1) := fun c hc => by rw [hk]; exact List.mem_map.mpr ⟨c, hc, rfl⟩
  have inl : ∀ {f : Fo}, okF f → (∀ c ∈ ltF f, c ∈ uni (ltF a) (ltF b)) → ∀ p ∈ f, ∀ c ∈ p, S [c] ∈ kv.map (·.1) := fun {f} hf h p hp c hc => hkey c (h c (srtN_mem.mpr (List.mem_flatten.mpr ⟨p, hp, hc⟩)))
  have hka := inl ha fun c hc => uni_mem.mpr (.inl hc)
  have hkb := inl hb fun c hc => uni_mem.mpr (.inr hc)
  generalize hu : uni (ltF a) (ltF b) = u at lu l3 hkey hk ⊢
  have hsk : (srt (kv.map (·.1))).map D.str = u.map fun c => sS [c] := by
    rw [hk, show (fun c => S [c]) = sgn from rfl, srtN_sgn_id lu.1, List.map_map]; rfl
  have hshp : shp (.lst (u.map fun c => sS [c])) := (Shp.lst (n := 0) fun d hd => by
    obtain ⟨c, hc, rfl⟩ := List.mem_map.mp hd
    exact Shp.str (okP_str (okP_one (lu.2 c hc)))).shp (by decide)
  refine sa_cons (s1_if (c := false) (bw_or (c := false) (z := false) (bp_not (c := true) (bp_val (ea_isi (d := rowD kv) (id := "dict") (c := true) Sc 1 2 rfl mI rfl mD PyProof.Rows.boot_dict (ea_var Sc 2 rfl rfl rfl) rfl kit_dd) fun _ => rfl)) (fun _ => bw_or1 (bp_eq (bp_cmp (op := .NotEq) (d1 := .lst (u.map fun c => sS [c])) (d2 := .lst (u.map fun c => sS [c])) hr0 ((ea_skeysF (g := D.bl) hr0 Sc 3 rfl mS (ea_var Sc 2 rfl rfl rfl)).eq (by rw [hsk])) (ep_fzL (f := fun c => sS [c]) (ep_listS Sc 5 rfl mL (ea_var Sc 3 rfl rfl rfl) (le_size l3 (by decide)))) ⟨hshp, hshp⟩ rfl) ?_))).bp (fun e => nomatch e) (fun _ => sa_nil ?_))
  · have : ∀ x : D, True := fun _ => trivial
    show (!PyData.eqvAll (toPys (u.map fun c => sS [c])) (toPys (u.map fun c => sS [c]))) = false
    rw [toPys_map, List.map_map]
    have h := eqvAll_map (g := fun c => toPy (sS [c])) (f := fun c => toPy (sS [c])) (fun x y : Nat => by rw [eqv_sS]; congr 1; simp) u u
    rw [show (toPy ∘ fun c => sS [c]) = fun c => toPy (sS [c]) from rfl, h]; simp
  refine sa_cons (s1_if (c := false) (bp_not (c := true) (bp_val ((ea_all (xs := u.map fun _ => true) Sc 6 rfl mA ((ep_fzL (f := fun _ => D.bl true) (ep_lcM Sc [("_law_letter", 4)] [2, 4] [4] ["isinstance", "bool"] u (fun c => sS [c]) (fun _ => .fz (.bl true)) (ia_str (z := S u) (ea_var Sc 3 rfl rfl rfl)) (fun Sb s0 H0 Cc cl fp c hc => ?_) (le_size l3 (by decide)))).eq (by rw [List.map_map]; rfl))).eq (congrArg D.bl (by simp))) fun _ => rfl)) (fun e => nomatch e) (fun _ => sa_nil ?_))
  · obtain ⟨v, hv⟩ := aget_some (hkey c hc)
    exact gw_name (Sb s0 H0 Cc cl fp) 4 rfl rfl rfl (by decide) ⟨rfl, fun s0 H0 Cc cl fp => ea_isi (d := .bl v) (id := "bool") (c := true) (Sb s0 H0 Cc cl fp) 0 1 rfl mI rfl mB boot_bool' (ea_dget (k := kS (S [c])) hr0 (ea_var (Sb s0 H0 Cc cl fp) 2 rfl rfl rfl) (ea_var (Sb s0 H0 Cc cl fp) 4 rfl rfl rfl) (by rw [aget_V (g := D.bl), hv]; rfl)) rfl kit_bb⟩
  exact s1_one (s1_retP (ea_and (ep_call cW hr Sc 8 rfl (ap2 (ea_var Sc 0 rfl rfl rfl) (ea_var Sc 2 rfl rfl rfl)) ⟨a, kv, ha, hka, rfl, rfl⟩) (fun _ => ep_one (ea_not (ep_call cW hr Sc 8 rfl (ap2 (ea_var Sc 1 rfl rfl rfl) (ea_var Sc 2 rfl rfl rfl)) ⟨b, kv, hb, hkb, rfl, rfl⟩)))) rfl)
end
end Fs

namespace Fs
open PySem
open SX (S)
theorem par_congr {v w : Row} : ∀ {f : List Pr}, (∀ p ∈ f, ∀ c ∈ p, v c = w c) → par f v = par f w
  | [], _ => rfl
  | p :: f, h => by
    rw [par_cons, par_cons, par_congr fun q hq => h q (List.mem_cons_of_mem _ hq)]
    have : p.all v = p.all w := by
      rw [Bool.eq_iff_iff, List.all_eq_true, List.all_eq_true]
      exact ⟨fun z c hc => by rw [← h p List.mem_cons_self c hc]; exact z c hc, fun z c hc => by rw [h p List.mem_cons_self c hc]; exact z c hc⟩
    rw [this]
theorem par_tr (v : Row) (g : Nat → Fo) : ∀ (p : Pr) (a : Fo), par (p.foldl (fun t c => muF t (g c)) a) v = (par a v && p.all fun c => par (g c) v)
  | [], a => by simp
  | c :: p, a => by rw [List.foldl_cons, par_tr v g p, par_mu, List.all_cons, Bool.and_assoc]
theorem par_put (v : Row) (g : Nat → Fo) (f : Fo) : par (putF f g) v = par f fun c => par (g c) v := by
  have key : ∀ (f : Fo) (a : Fo), par (f.foldl (fun found p => adF found (trF g p)) a) v = xor (par a v) (par f fun c => par (g c) v) := fun f => by
    induction f with
    | nil => intro a; rw [List.foldl_nil, par_nil]; cases par a v <;> rfl
    | cons p f ih =>
      intro a
      rw [List.foldl_cons, ih, par_ad, par_cons, trF, par_tr, par_one]
      cases par a v <;> cases (p.all fun c => par (g c) v) <;> cases (par f fun c => par (g c) v) <;> rfl
  rw [putF, key, par_nil]
  cases (par f fun c => par (g c) v) <;> rfl
def setV (v : Row) (c : Nat) (t : Bool) : Row := fun x => if x = c then t else v x
theorem par_fix (v : Row) (f : Fo) (c : Nat) (t : Bool) : par (fixF f c t) v = par f (setV v c t) := by
  rw [fixF, par_put]
  refine par_congr fun p _ x _ => ?_
  unfold fxG setV
  by_cases e : x = c
  · rw [if_pos e, if_pos e]; cases t <;> rfl
  · rw [if_neg e, if_neg e, par_cons, par_nil, List.all_cons, List.all_nil]; cases v x <;> rfl
theorem up_nd {l : List Nat} (h : up l) : l.Nodup := h.imp fun {x y} z => Nat.ne_of_lt z
/-! all rows -/
def kvOf (l : List Nat) (v : Row) : KV := l.map fun c => (S [c], v c)
theorem aput_new {r : KV} {x : Str} {b : Bool} (h : x ∉ r.map (·.1)) : aput r x b = r ++ [(x, b)] := if_neg h
theorem rows_keys : ∀ (post pre : List Nat) (rs : List KV), (pre ++ post).Nodup → (∀ r ∈ rs, r.map (·.1) = pre.map fun c => S [c]) → ∀ r ∈ post.foldl (fun rs c => rs.flatMap fun r => rows1 r c) rs, r.map (·.1) = (pre ++ post).map fun c => S [c]
  | [], pre, rs, _, h, r, hr => by rw [List.append_nil]; exact h r hr
  | c :: post, pre, rs, nd, h, r, hr => by
    have hc : c ∉ pre := fun z => (List.nodup_append.mp nd).2.2 c z c List.mem_cons_self rfl
    have := rows_keys post (pre ++ [c]) _ (by rw [List.append_assoc]; exact nd) (fun q hq => by
      obtain ⟨r0, h0, h2⟩ := List.mem_flatMap.mp hq
      have hk := h r0 h0
      have hn : S [c] ∉ r0.map (·.1) := by
        rw [hk, List.mem_map]
        rintro ⟨x, hx, e⟩
        have : x = c := by simpa using SX.S_inj e
        exact hc (this ▸ hx)
      have z : ∀ b, (aput r0 (S [c]) b).map (·.1) = (pre ++ [c]).map fun c => S [c] := fun b => by rw [aput_new hn, List.map_append, hk, List.map_append]; rfl
      rcases List.mem_cons.mp h2 with e | e
      · rw [e]; exact z false
      · rw [List.mem_singleton.mp e]; exact z true) r hr
    rwa [List.append_assoc] at this
theorem rows_all (v : Row) : ∀ (post pre : List Nat) (rs : List KV), (pre ++ post).Nodup → kvOf pre v ∈ rs → kvOf (pre ++ post) v ∈ post.foldl (fun rs c => rs.flatMap fun r => rows1 r c) rs
  | [], pre, rs, _, h => by rw [List.append_nil]; exact h
  | c :: post, pre, rs, nd, h => by
    have hc : c ∉ pre := fun z => (List.nodup_append.mp nd).2.2 c z c List.mem_cons_self rfl
    have hn : S [c] ∉ (kvOf pre v).map (·.1) := by
      unfold kvOf
      rw [List.map_map, List.mem_map]
      rintro ⟨x, hx, e⟩
      have : x = c := by simpa using SX.S_inj e
      exact hc (this ▸ hx)
    have := rows_all v post (pre ++ [c]) (rs.flatMap fun r => rows1 r c) (by rw [List.append_assoc]; exact nd) (by
      refine List.mem_flatMap.mpr ⟨_, h, ?_⟩
      have e : kvOf (pre ++ [c]) v = aput (kvOf pre v) (S [c]) (v c) := by rw [aput_new hn]; unfold kvOf; rw [List.map_append]; rfl
      rw [e]
      unfold rows1
      cases v c <;> simp)
    rwa [List.append_assoc] at this
theorem rowsL_keys {l : List Nat} (h : up l) : ∀ r ∈ rowsL l, r.map (·.1) = l.map fun c => S [c] := fun r hr => by
  have := rows_keys l [] [[]] (up_nd h) (fun q hq => by rw [List.mem_singleton.mp hq]; rfl) r hr
  simpa using this
theorem rowsL_all {l : List Nat} (h : up l) (v : Row) : kvOf l v ∈ rowsL l := by
  have := rows_all v l [] [[]] (up_nd h) (by simp [kvOf])
  simpa [rowsL] using this
theorem rowV_kvOf (v : Row) : ∀ {l : List Nat} {c : Nat}, c ∈ l → rowV (kvOf l v) c = v c
  | x :: l, c, h => by
    show (if S [x] = S [c] then some (v x) else aget (kvOf l v) (S [c])).getD false = v c
    by_cases e : x = c
    · subst e; rw [if_pos rfl]; rfl
    · rw [if_neg fun z => e (by have := SX.S_inj z; simpa using this)]
      exact rowV_kvOf v (l := l) (c := c) ((List.mem_cons.mp h).resolve_left fun z => e z.symm)
theorem lead_iff {a b : Fo} (ha : okF a) (hb : okF b) {l : List Nat} (hl : up l) (h1 : ∀ c ∈ ltF a, c ∈ l) (h2 : ∀ c ∈ ltF b, c ∈ l) : (rowsL l).all (fun r => par b (rowV r) || !par a (rowV r)) = leF a b := by
  rw [Bool.eq_iff_iff, List.all_eq_true, le_iff ha hb]
  have dep : ∀ {f : Fo}, (∀ c ∈ ltF f, c ∈ l) → ∀ v, par f (rowV (kvOf l v)) = par f v := fun {f} h v => par_congr fun p hp c hc => rowV_kvOf v (h c (srtN_mem.mpr (List.mem_flatten.mpr ⟨p, hp, hc⟩)))
  constructor
  · intro h v hv
    have := h _ (rowsL_all hl v)
    rw [dep h1, dep h2, hv] at this
    simpa using this
  · intro h r _
    cases q : par a (rowV r) with
    | false => simp
    | true => rw [h _ q]; rfl
/-! the row told -/
theorem fix_nil {g : Fo} (hg : okF g) {c : Nat} (h0 : fixF g c false = []) (h1 : fixF g c true = []) : g = [] := never_nil hg fun v => by
  have e : ∀ t, par g (setV v c t) = false := fun t => by
    rw [← par_fix]
    cases t
    · rw [h0]; rfl
    · rw [h1]; rfl
  have : setV v c (v c) = v := by funext x; unfold setV; by_cases z : x = c <;> simp [z]
  rw [← this]; exact e _
/-- v, with what kv tells -/
def ovr (kv : KV) (v : Row) : Row := fun c => (aget kv (S [c])).getD (v c)
theorem ovr_app {kv : KV} {c : Nat} {t : Bool} (h : S [c] ∉ kv.map (·.1)) (v : Row) : ovr (aput kv (S [c]) t) v = ovr kv (setV v c t) := by
  have key : ∀ (kv : KV) (x : Nat), S [c] ∉ kv.map (·.1) → aget (kv ++ [(S [c], t)]) (S [x]) = (aget kv (S [x])).or (if x = c then some t else none) := fun kv x => by
    induction kv with
    | nil =>
      intro _
      show (if S [c] = S [x] then some t else none) = _
      by_cases e : x = c
      · rw [if_pos (by rw [e]), if_pos e]; rfl
      · rw [if_neg fun z => e (by have := SX.S_inj z; simpa using this.symm), if_neg e]; rfl
    | cons q kv ih =>
      intro h
      show (if q.1 = S [x] then some q.2 else aget (kv ++ [(S [c], t)]) (S [x])) = (if q.1 = S [x] then some q.2 else aget kv (S [x])).or _
      split
      · rfl
      · exact ih fun z => h (List.mem_cons_of_mem _ z)
  have none : ∀ (kv : KV), S [c] ∉ kv.map (·.1) → aget kv (S [c]) = none := fun kv => by
    induction kv with
    | nil => intro _; rfl
    | cons q kv ih =>
      intro h
      show (if q.1 = S [c] then some q.2 else aget kv (S [c])) = Option.none
      have h' := fun z => h (List.mem_cons.mpr z)
      rw [if_neg fun z => h' (.inl z.symm)]
      exact ih fun z => h' (.inr z)
  rw [aput_new h]
  funext x
  unfold ovr
  rw [key kv x h]
  unfold setV
  by_cases e : x = c
  · subst e
    rw [none kv h]; simp
  · rw [if_neg e, if_neg e]
    cases aget kv (S [x]) <;> rfl
theorem row_fold {f : Fo} : ∀ (post pre : List Nat) (g : Fo) (kv : KV), (pre ++ post).Nodup → okF g → g ≠ [] → kv.map (·.1) = pre.map (fun c => S [c]) → (∀ v, par f (ovr kv v) = par g v) →
    ∃ g' kv', post.foldl rowS (g, kv) = (g', kv') ∧ okF g' ∧ g' ≠ [] ∧ kv'.map (·.1) = (pre ++ post).map (fun c => S [c]) ∧ ∀ v, par f (ovr kv' v) = par g' v
  | [], pre, g, kv, _, h1, h2, h3, h4 => ⟨g, kv, rfl, h1, h2, by rw [List.append_nil]; exact h3, h4⟩
  | c :: post, pre, g, kv, nd, h1, h2, h3, h4 => by
    have hc : c ∉ pre := fun z => (List.nodup_append.mp nd).2.2 c z c List.mem_cons_self rfl
    have hn : S [c] ∉ kv.map (·.1) := by
      rw [h3, List.mem_map]
      rintro ⟨x, hx, e⟩
      have : x = c := by simpa using SX.S_inj e
      exact hc (this ▸ hx)
    have go : ∀ t, fixF g c t ≠ [] → ∃ g' kv', post.foldl rowS (fixF g c t, aput kv (S [c]) t) = (g', kv') ∧ okF g' ∧ g' ≠ [] ∧ kv'.map (·.1) = (pre ++ (c :: post)).map (fun c => S [c]) ∧ ∀ v, par f (ovr kv' v) = par g' v := fun t ht => by
      have := row_fold (f := f) post (pre ++ [c]) (fixF g c t) (aput kv (S [c]) t) (by rw [List.append_assoc]; exact nd) (fixF_ok h1 c t) ht (by rw [aput_new hn, List.map_append, h3, List.map_append]; rfl) fun v => by rw [ovr_app hn, h4, par_fix]
      rwa [List.append_assoc] at this
    rw [List.foldl_cons]
    by_cases e : fixF g c false = []
    · have : rowS (g, kv) c = (fixF g c true, aput kv (S [c]) true) := if_pos e
      rw [this]
      exact go true fun z => h2 (fix_nil h1 e z)
    · have : rowS (g, kv) c = (fixF g c false, aput kv (S [c]) false) := if_neg e
      rw [this]
      exact go false e
theorem rowF_ok {f : Fo} (hf : okF f) (hne : f ≠ []) {l : List Nat} (hl : up l) (hd : ∀ p ∈ f, ∀ c ∈ p, c ∈ l) : (rowF f l).map (·.1) = l.map (fun c => S [c]) ∧ par f (rowV (rowF f l)) = true := by
  obtain ⟨g', kv', e1, e2, e3, e4, e5⟩ := row_fold (f := f) l [] f [] (up_nd hl) hf hne rfl fun v => rfl
  have er : rowF f l = kv' := by rw [rowF, e1]
  rw [er]
  rw [List.nil_append] at e4
  refine ⟨e4, ?_⟩
  cases q : par f (rowV kv') with
  | true => rfl
  | false =>
    refine absurd (never_nil e2 fun v => ?_) e3
    rw [← e5, ← q]
    refine par_congr fun p hp c hc => ?_
    have : S [c] ∈ kv'.map (·.1) := by rw [e4]; exact List.mem_map.mpr ⟨c, hd p hp c hc, rfl⟩
    obtain ⟨t, ht⟩ := aget_some this
    unfold ovr rowV
    rw [ht]; rfl
theorem bet_row {a b : Fo} (ha : okF a) (hb : okF b) (h : leF a b = false) : (rowF (muF a (opF b)) (uni (ltF a) (ltF b))).map (·.1) = (uni (ltF a) (ltF b)).map (fun c => S [c]) ∧
    (par a (rowV (rowF (muF a (opF b)) (uni (ltF a) (ltF b)))) && !par b (rowV (rowF (muF a (opF b)) (uni (ltF a) (ltF b))))) = true := by
  have hm := mu_ok ha (op_ok hb)
  have hne : muF a (opF b) ≠ [] := by
    unfold leF at h
    exact of_decide_eq_false h
  have hl : up (uni (ltF a) (ltF b)) := srtN_up _
  have hd : ∀ p ∈ muF a (opF b), ∀ c ∈ p, c ∈ uni (ltF a) (ltF b) := fun p hp c hc => by
    have sub : ∀ {ps : List Pr} {q : Pr}, q ∈ ga ps → q ∈ ps := fun {ps q} h => by
      rcases gaL_sub ps ((srtP_perm _).mem_iff.mp h) with z | z
      · nomatch z
      · exact z
    obtain ⟨x, hx, h2⟩ := List.mem_flatMap.mp (sub hp)
    obtain ⟨y, hy, rfl⟩ := List.mem_map.mp h2
    refine uni_mem.mpr ((uni_mem.mp hc).imp (fun z => srtN_mem.mpr (List.mem_flatten.mpr ⟨x, hx, z⟩)) fun z => ?_)
    have := sub hy
    rcases List.mem_append.mp this with w | w
    · exact srtN_mem.mpr (List.mem_flatten.mpr ⟨y, w, z⟩)
    · rw [List.mem_singleton.mp w] at z; nomatch z
  obtain ⟨h1, h2⟩ := rowF_ok hm hne hl hd
  refine ⟨h1, ?_⟩
  rw [par_mu, par_op] at h2
  exact h2
end Fs

/-! E2: two pairs compared, their second things dicts. -/
namespace Fs
open PySem PySem.Spec L2
section
variable {prog : Program} {w : World} {A : Around} {E : Value → Shared → Prop} {s : Shared} {Q : Value → Shared → Prop}
theorem ne_pair {l b : Addr} {x0 x1 y0 y1 : Value} {n n2 : Nat} {dd dd2 : Option Addr} {sl sl2 : Array (Option Value)} (hl : s.heap.get? l = some { cls := .type "tuple", dict := dd, data := .seq #[x0, x1] n, slots := sl }) (hb : s.heap.get? b = some { cls := .type "tuple", dict := dd2, data := .seq #[y0, y1] n2, slots := sl2 }) (hu : A.units < cLine)
    (e0 : ∀ (E : Value → Shared → Prop) (Q : Bool → Shared → Prop), Q true s → wpAny (model prog w) A.in1 (eqBool x0 y0) Q E s) (e1 : ∀ (E : Value → Shared → Prop) (Q : Bool → Shared → Prop), Q true s → wpAny (model prog w) A.in1 (eqBool x1 y1) Q E s)
    (h : Q (.bool false) s) : wpAny (model prog w) A (richCompare .NotEq (.ref l) (.ref b)) Q E s := by
  have t1 : s.TypeIs (.ref l) "tuple" := ⟨_, hl, rfl⟩
  have t2 : s.TypeIs (.ref b) "tuple" := ⟨_, hb, rfl⟩
  refine wpAny_richCompare_same_room (op := .NotEq) t1 t2 F.slot_tuple_ne (wpAny_call_entry F.slot_tuple_ne t1 F.entry_tuple_ne ?_ (F.args_tuple_ne_2 _ _)) hu
  obtain ⟨hp, g, d, tk, os⟩ := s
  have f2 := AutoSeq1.sub_tuple_tuple
  wp_walk using AutoSeq1.wpAny_loadPart' hl, AutoSeq1.wpAny_loadPart' hb, e0 _ _, e1 _ _
  exact ⟨.bool false, rfl, fun z => (nomatch z), h⟩
end
section
variable {X : Cx} {W : WX} {ρ : Env} {e a b : Expr} {pos : Pos}
/-- ("..", {..}) of the same things -/
def rNeRow (K : PySem.W.Frag) : R2 := fun x y H Q => ∃ (p q : Addr) (z : Str) (c d : Addr) (kvs : List (Key × V)), x = .ref p ∧ y = .ref q ∧ SqT K H p [.str z, .ref c] ∧ SqT K H q [.str z, .ref d] ∧ Rd H c (.dK kvs) ∧ Rd H d (.dK kvs) ∧
  (∀ p ∈ kvs, valV kvs p.1 = some p.2 ∧ flatB p.2 = true) ∧ Q (.bl false) H
theorem op_neRow (hu : X.A.units + 64 < cLine) : OpR X (compareOp .NotEq) (rNeRow X.K) := by
  intro pins s σ H x y v u Q I rx ry h
  obtain ⟨p, q, z, c, d, kvs, rfl, rfl, hp, hq, hc, hd, hv, k⟩ := h
  cases rx
  cases ry
  obtain ⟨i1, r1, ⟨o1, g1, t1, n1, d1⟩, _⟩ := I.tuple hp
  obtain ⟨i2, r2, ⟨o2, g2, t2, n2, d2⟩, _⟩ := I.tuple hq
  obtain ⟨cls1, dd1, dt1, sl1⟩ := o1
  obtain ⟨cls2, dd2, dt2, sl2⟩ := o2
  simp only at t1 d1 t2 d2
  subst t1 d1 t2 d2
  cases r1 with
  | cons ra rb =>
    cases rb with
    | cons rc rd =>
      cases rd
      cases r2 with
      | cons sa sb =>
        cases sb with
        | cons sc sd =>
          cases sd
          obtain ⟨ta, rfl⟩ := ra
          obtain ⟨tb, rfl⟩ := sa
          cases rc
          cases sc
          obtain ⟨_, lo1, us1, rel1, dk1⟩ := dk_rd I.hok hc
          obtain ⟨_, lo2, us2, rel2, dk2⟩ := dk_rd I.hok hd
          refine ne_pair g1 g2 (by omega) (fun E Q h => PySem.wpAny_eqBool_str (by simpa using h)) (fun E Q h => ?_) ⟨.bl false, H, I, rfl, k⟩
          unfold eqBool
          refine wpAny_holding ?_
          refine wpAny_ite_split (fun _ => wpAny_bind (wpAny_rule (wpAny_pure h))) fun _ => ?_
          refine wpAny_bind ?_
          show wpAny _ _ (compareOp .Eq (.ref c) (.ref d)) _ _ _
          have hl : us1.length = us2.length := by rw [← rel1.length, ← rel2.length]
          exact PySem.W.keq_eq (knd := mixKind X.prog X.w) (r := true) lo1 lo2 dk1 dk2 (by show X.A.units + 1 < cLine; omega) (fun _ => hits_all rel2 rel1 hv) (wpAny_truthy_bool (by simpa [hl] using h))
end
end Fs

namespace Fs
open PySem PySem.Spec L2
open SX (S)
section
variable {X : Cx} {W : WX} {k : Nat} {ρ : Env} {e a b : Expr} {N : List Str} {scp : Scope} {vs ls : List Nat} {gs : List Str} {pos p : Pos} {d : D} {Po : Post} {ks : List Key}
theorem valV_nodup : ∀ {kvs : List (Key × V)}, (kvs.map (·.1)).Nodup → ∀ p ∈ kvs, valV kvs p.1 = some p.2
  | q :: kvs, nd, p, h => by
    have nd' := List.nodup_cons.mp (show (q.1 :: kvs.map (·.1)).Nodup from nd)
    rcases List.mem_cons.mp h with e | e
    · rw [e]; exact valV_pos rfl
    · rw [valV_neg fun z => nd'.1 (by rw [z]; exact List.mem_map.mpr ⟨p, e, rfl⟩)]
      exact valV_nodup nd'.2 p e
/-- ('..', row) != ('..', row) -/
theorem bp_neRow {z : Str} {kv : KV} (hr : Room 0 X.A) (ha : EA X ρ a (.tup [.str z, rowD kv])) (hb : EA X ρ b (.tup [.str z, rowD kv])) (nd : (kv.map (·.1)).Nodup) (hm : behindInMarks .NotEq b = false) : BP X ρ (.Compare a [.NotEq] [b] pos) false :=
  bp_of (pt_cmpR (op_neRow (by have := hr.un; omega)) ha.pe hb.pe hm) fun σ H S' O R p Q k => useA p fun v1 H1 S1 sm1 p1 r1 => useA p1 fun v2 H2 S2 sm2 p2 r2 => by
    obtain ⟨c1, us1, rfl, e1, f1⟩ := r1.mono sm2
    obtain ⟨c2, us2, rfl, e2, f2⟩ := r2
    obtain ⟨x1, x2, rfl, g1, g2⟩ := f1.two
    obtain ⟨y1, y2, rfl, h1, h2⟩ := f2.two
    cases (show x1 = .str z from g1)
    cases (show y1 = .str z from h1)
    obtain ⟨d1, w1, rfl, i1, j1, _⟩ := g2
    obtain ⟨d2, w2, rfl, i2, j2, _⟩ := h2
    have q1 : w1 = (kv.map (·.2)).map V.bl := rps_bls (by rw [List.map_map]; exact j1)
    have q2 : w2 = (kv.map (·.2)).map V.bl := rps_bls (by rw [List.map_map]; exact j2)
    subst q1 q2
    refine ⟨c1, c2, z, d1, d2, _, rfl, rfl, same_seqT p2.hi.same e1, same_seqT p2.hi.same e2, same_rd p2.hi.same i1, same_rd p2.hi.same i2, fun q hq => ⟨valV_nodup ?_ q hq, ?_⟩, false, rfl, k H2 S2 (sm1.trans sm2) p2.hi⟩
    · rw [List.map_fst_zip (by simp)]
      show (List.map _ kv).Nodup
      have : kv.map (fun q => kS q.1) = (kv.map (·.1)).map kS := by rw [List.map_map]; rfl
      rw [this]
      exact List.pairwise_map.mpr (nd.imp fun {a b} z e => z (Sum.inr.inj e))
    · obtain ⟨b', hb', e'⟩ := List.mem_map.mp (List.of_mem_zip hq).2
      rw [← e']; rfl
/-- x[1][k] = e, x an own pair with an own dict: nothing is asked of x again -/
theorem s1_tput {x : Str} {t0 : T} {tz : List T} {pos' q1 q2 : Pos} {j : Nat} {k : Key} (hr : Room 0 X.A) (Sc : Sco X N scp vs ls gs) (i : Nat) (hv : vs.contains i = true) (hN : N[i]? = some x) (h0 : ρ[i]? = some (some (.tup [t0, .dct ks tz]))) (hk : EA X ρ b (kD k)) (he : EA X ρ e d) (hl : ks.length < sizeLine) (kp : Po.nx (ρ.set i none))
    (hs : swapsWith e (some (.Subscript (.Subscript (.Name x p) (.Constant (.int 1) j q1) q2) b pos')) pos.line X.env = pure false := by rfl) : S1 X W ρ (.Assign [.Subscript (.Subscript (.Name x p) (.Constant (.int 1) j q1) q2) b pos'] e pos) Po := by
  obtain ⟨v1, v2, v3⟩ := Sc.vis i x hv hN
  refine s1_of (ps_dput (Room.u1 hr) (pe_ix ix_tup (pe_var (i := i) (Sc.n ▸ hN) v1 v2 v3) pe_int (by intro _ _; rfl)) hk.pe he.pe hs) fun σ H S' O R D p q => ?_
  obtain ⟨v, P, O2, e1, e2, e3, e4⟩ := p.rho.take h0
  obtain ⟨a, us, P', rfl, rfl, r1⟩ := id e2
  obtain ⟨w0, ur, A1, A2, rfl, rfl, s0, s1⟩ := r1
  obtain ⟨w1, ur2, B1, B2, rfl, rfl, s2, s3⟩ := s1
  obtain ⟨rfl, rfl⟩ := s3
  obtain ⟨c, uz, C', rfl, rfl, s4, s5⟩ := id s2
  refine useA p fun w H1 S1 sm1 p1 rw1 => ?_
  have inO : ∀ {H : Hp} {S : Hp} {y}, Pre X.K ρ σ H S O R → y ∈ ((a, HO.tup [w0, .ref c]) :: (A1 ++ ((c, HO.dK (ks.zip uz)) :: C' ++ []))) → H y.1 = some y.2 := fun {H S y} pp hy => (pp.hi.at_ y (List.mem_append_left _ (e4.mem_iff.mpr (List.mem_append_left _ hy)))).1
  refine ⟨.ref a, e1, a, [w0, .ref c], 1, .ref c, rfl, rfl, .inl (.inl (inO p1 (y := (a, _)) List.mem_cons_self)), rfl, useA p1 fun y H2 S2 sm2 p2 r2 => ?_⟩
  have l : ks.length = uz.length := s5.trans s4.len.symm
  refine ⟨c, _, rfl, .inl ⟨_, k, inO p2 (y := (c, HO.dK (ks.zip uz))) (by simp), kD_rp r2, by rw [List.length_zip, l, Nat.min_self, ← l]; exact hl, rfl⟩, ?_⟩
  have hi3 : HI H2 S2 ((c, HO.dK (ks.zip uz)) :: (((a, HO.tup [w0, .ref c]) :: (A1 ++ C')) ++ (O2 ++ R))) := p2.hi.perm (by
    refine (List.Perm.append_right R e4).trans ?_
    rw [List.append_assoc, List.append_nil]
    refine List.Perm.trans ?_ (List.perm_middle (l₁ := [(a, HO.tup [w0, .ref c])]) (a := (c, HO.dK (ks.zip uz))) (l₂ := (A1 ++ C') ++ (O2 ++ R)))
    refine List.Perm.cons _ ?_
    rw [← List.cons_append]
    exact List.Perm.append_right _ List.perm_middle)
  have hi4 := hi3.put (o' := .dK (putK (ks.zip uz) k w))
  obtain ⟨S3, sm3, hi5, _⟩ := HI.freeze (P := (c, HO.dK (putK (ks.zip uz) k w)) :: ((a, HO.tup [w0, .ref c]) :: (A1 ++ C'))) (L := O2 ++ R) hi4
  exact q _ σ _ S3 O2 kp ((sm1.trans sm2).trans sm3) hi5 (e3.mono ((sm1.trans sm2).trans sm3))
end
end Fs

namespace Fs
open PySem PySem.Spec L2
open SX (S)
section
variable {X : Cx} {W : WX} {k : Nat}
theorem inds_B0 : ∀ kv : KV, inds (kv.map fun q => B0 q.2) = true
  | [] => rfl
  | q :: kv => by show (true && inds (kv.map fun q => B0 q.2)) = true; rw [inds_B0 kv]; rfl
def lawBody : List Stmt := match defBody (top 36) with
  | .For _ _ b _ _ :: _ => b
  | _ => []
def N_law : List Str := ["_law_script", "_law_k", "_law_one", "_law_middle", "_law_other", "_law_letters_here", "_law_more", "_law_rows_here", "_law_leading", "_law_found", "_law_kept", "_law_row"]
theorem er_bet {kv : KV} : T.er (.tup [.fz (.str "row"), dT B0 kv]) = .tup [.str "row", rowD kv] := by
  show D.tup [.str "row", (dT B0 kv).er] = _
  rw [er_dT (g := D.bl)]
theorem bd_law (ns : List Int) (hn : ns.length ≤ 63) (Sc : Sco X N_law (defScope (top 36)) [0, 1, 2, 3, 4, 5, 6, 7, 8, 9, 10] [0, 1, 2, 3, 4, 5, 6, 7, 8, 9, 10]
      ["range", "_law_pair", "_law_mixed", "_law_letters", "_law_form", "_law_product", "_law_in", "_law_turned", "list", "sorted", "set", "_law_rows", "all", "range", "between", "isinstance", "tuple", "len", "_law_is_form", "_law_row_well", "dict"]) (hr : Room k X.A) (hr0 : Room 0 X.A) (C : SC X W)
    (cPair : CalX X k "_law_pair" ["_law_script", "_law_at"] SpPair) (cM : CalX X k "_law_mixed" ["_law_script", "_law_k"] SpMixed) (cLets : CalX X k "_law_letters" ["_law_number", "_law_many"] SpLets) (cForm : CalX X k "_law_form" ["_law_script", "_law_at", "_law_letters_here"] SpForm) (cProd : CalX X k "_law_product" ["_law_letters_here", "_law_number"] SpProd)
    (cIn : CalX X k "_law_in" ["_law_form_here"] SpLetters) (cTurn : CalX X k "_law_turned" ["_law_products"] SpTurned) (cRows : CalX X k "_law_rows" ["_law_letters_here"] SpRows) (cWorth : CalX X k "_law_worth" ["_law_form_here", "_law_row"] SpWorth) (cBet : CalX X k "between" ["one", "other"] SpBetween) (cIs : CalX X k "_law_is_form" ["_law_found", "_law_letters_here"] SpIsForm) (cWell : CalX X k "_law_row_well" ["_law_one", "_law_other", "_law_row"] SpWell)
    (mR : X.mg "range" = none) (mL : X.mg "list" = none) (mS : X.mg "sorted" = none) (mSe : X.mg "set" = none) (mA : X.mg "all" = none) (mI : X.mg "isinstance" = none) (mT : X.mg "tuple" = none) (mLen : X.mg "len" = none) (mD : X.mg "dict" = none) :
    SA X W [some (.fz (scr ns)), none, none, none, none, none, none, none, none, none, none, none] (defBody (top 36)) (PostOf (.ok (.fz (.bl true)))) := by
  -- behind the second if
  have key2 : ∀ (A B : Fo) (kk : Int) (Po : Post), okF A → okF B → (∀ ρ3, Wk ρ3 [some (.fz (scr ns)), none, none, none, none, none, none, none, none, none, none, none] → Po.nx ρ3) →
      SA X W [some (.fz (scr ns)), some (.fz (.int kk)), some (.fz (frm A)), none, some (.fz (frm B)), none, none, none, none, none, none, none] (lawBody.drop 3) Po := fun A B kk Po hA hB hP => by
    have la := ltF_ok hA
    have lb := ltF_ok hB
    have l1 := okP_len la
    have l2 := okP_len lb
    have lu := okP_uni la lb
    have l3 := okP_len lu
    have hua : ∀ c ∈ ltF A, c ∈ uni (ltF A) (ltF B) := fun c h => uni_mem.mpr (.inl h)
    have hub : ∀ c ∈ ltF B, c ∈ uni (ltF A) (ltF B) := fun c h => uni_mem.mpr (.inr h)
    have hrl : (rowsL (uni (ltF A) (ltF B))).length ≤ 512 := by
      unfold rowsL
      rw [rows_len]
      have := Nat.pow_le_pow_right (n := 2) (by decide) l3
      simpa using this
    have wkey : ∀ {f : Fo}, (∀ c ∈ ltF f, c ∈ uni (ltF A) (ltF B)) → ∀ r ∈ rowsL (uni (ltF A) (ltF B)), ∀ p ∈ f, ∀ c ∈ p, S [c] ∈ r.map (·.1) := fun {f} h r hr p hp c hc => by
      rw [rowsL_keys lu.1 r hr]
      exact List.mem_map.mpr ⟨c, h c (srtN_mem.mpr (List.mem_flatten.mpr ⟨p, hp, hc⟩)), rfl⟩
    refine sa_cons (s1_setP Sc 7 rfl rfl (ep_call cRows hr Sc 11 rfl (ap1 (ea_jsu (l := ltF A ++ ltF B) hr0 Sc 9 10 rfl mS rfl mSe (ea_scat (ep_call cIn hr Sc 6 rfl (ap1 (ea_var Sc 2 rfl rfl rfl)) ⟨A, hA, rfl, rfl⟩) (ep_call cIn hr Sc 6 rfl (ap1 (ea_var Sc 4 rfl rfl rfl)) ⟨B, hB, rfl, rfl⟩) (le_size (m := 18) (by omega) (by decide))) (by rw [List.length_append]; omega) (few_L9 fun c hc => (List.mem_append.mp hc).elim (la.2 c) (lb.2 c)))) ⟨uni (ltF A) (ltF B), l3, rfl, rfl⟩) (by simp) ?_)
    have hall : ((rowsL (uni (ltF A) (ltF B))).map fun r => par B (rowV r) || !par A (rowV r)).all id = leF A B := by rw [List.all_map]; exact lead_iff hA hB lu.1 hua hub
    refine sa_cons (s1_setP Sc 8 rfl rfl ((ea_all (xs := (rowsL (uni (ltF A) (ltF B))).map fun r => par B (rowV r) || !par A (rowV r)) Sc 12 rfl mA ((ep_fzL (f := fun r => D.bl (par B (rowV r) || !par A (rowV r))) (ep_lcM Sc [("_law_row", 11)] [2, 4, 11] [11] ["_law_worth"] (rowsL (uni (ltF A) (ltF B))) rowD (fun r => .fz (.bl (par B (rowV r) || !par A (rowV r)))) (ia_lst (ea_var Sc 7 rfl rfl rfl)) (fun Sb s0 H0 Cc cl fp r hrm => gw_name (Sb s0 H0 Cc cl fp) 11 rfl rfl rfl (by decide) ⟨rfl, fun s0 H0 Cc cl fp => ea_or (ep_call cWorth hr (Sb s0 H0 Cc cl fp) 0 rfl (ap2 (ea_var (Sb s0 H0 Cc cl fp) 4 rfl rfl rfl) (ea_var (Sb s0 H0 Cc cl fp) 11 rfl rfl rfl)) ⟨B, r, hB, wkey hub r hrm, rfl, rfl⟩) (fun _ => ep_one (ea_not (ep_call cWorth hr (Sb s0 H0 Cc cl fp) 0 rfl (ap2 (ea_var (Sb s0 H0 Cc cl fp) 2 rfl rfl rfl) (ea_var (Sb s0 H0 Cc cl fp) 11 rfl rfl rfl)) ⟨A, r, hA, wkey hua r hrm, rfl, rfl⟩)))⟩) (le_size hrl (by decide)))).eq (by rw [List.map_map]; rfl))).eq (congrArg D.bl hall)) (by simp) ?_)
    refine sa_cons (s1_setP Sc 9 rfl rfl (ep_call cBet hr Sc 14 rfl (ap2 (ea_var Sc 2 rfl rfl rfl) (ea_var Sc 4 rfl rfl rfl)) ⟨A, B, hA, hB, rfl, rfl⟩) (by simp) ?_)
    cases hle : leF A B with
    | true =>
      have f1 := someF_ok hA (lessL (ltF A) (ltF B))
      have f2 := evryF_ok hB (lessL (ltF B) (ltF A))
      rw [betT, if_pos hle]
      refine sa_fz 9 rfl ?_
      refine sa_cons (s1_if (c := false) (bp_not (c := true) (bp_val (ea_isi (d := .tup [.str "between", frm _, frm _]) (id := "tuple") (c := true) Sc 15 16 rfl mI rfl mT boot_tuple' (ea_var Sc 9 rfl rfl rfl) rfl kit_tt) fun _ => rfl)) (fun e => nomatch e) (fun _ => sa_nil ?_))
      refine s1_one (s1_if (c := true) (bp_val (ea_var Sc 8 rfl rfl rfl) fun _ => rfl) (fun _ => ?_) (fun e => nomatch e))
      refine sa_cons (s1_if (c := false) (bw_or (c := false) (z := false) (bp_eq (bp_ine hr0 (ea_len Sc 17 rfl mLen (ea_var Sc 9 rfl rfl rfl) (LenD.tup _)) ea_int rfl) (by rfl)) (fun _ => bw_or1 (bp_eq (bp_cmp (op := .NotEq) (d1 := .str "between") (d2 := .str "between") hr0 (ea_ix (ea_var Sc 9 rfl rfl rfl) ea_int (.inr (.inl rfl)) rfl) ea_str trivial rfl) (by simp)))).bp (fun e => nomatch e) (fun _ => sa_nil ?_))
      refine s1_one (s1_if (c := false) (bw_or (c := false) (z := false) (bp_not (c := true) (bp_val (ep_call cIs hr Sc 18 rfl (ap2 (ea_ix (d := frm _) (ea_var Sc 9 rfl rfl rfl) ea_int (.inr (.inl rfl)) rfl) ea_L9) ⟨_, f1, rfl, rfl⟩) fun _ => rfl)) (fun _ => bw_or1 (bp_not (c := true) (bp_val (ep_call cIs hr Sc 18 rfl (ap2 (ea_ix (d := frm _) (ea_var Sc 9 rfl rfl rfl) ea_int (.inr (.inl rfl)) rfl) ea_L9) ⟨_, f2, rfl, rfl⟩) fun _ => rfl)))).bp (fun e => nomatch e) (fun _ => sa_nil ?_))
      exact hP _ ⟨rfl, rfl⟩
    | false =>
      obtain ⟨w1, w2⟩ := bet_row hA hB hle
      have hbet : betT A B = .tup [.fz (.str "row"), dT B0 (rowF (muF A (opF B)) (uni (ltF A) (ltF B)))] := by rw [betT, if_neg (by rw [hle]; simp)]
      have hS : SpBetween [frm A, frm B] (.ok (.tup [.fz (.str "row"), dT B0 (rowF (muF A (opF B)) (uni (ltF A) (ltF B)))])) := ⟨A, B, hA, hB, rfl, by rw [hbet]⟩
      rw [hbet]
      have hlen : (rowF (muF A (opF B)) (uni (ltF A) (ltF B))).length ≤ 9 := by
        have := congrArg List.length w1
        rw [List.length_map, List.length_map] at this
        omega
      generalize rowF (muF A (opF B)) (uni (ltF A) (ltF B)) = kv at w1 w2 hS hlen ⊢
      have ndk : (kv.map (·.1)).Nodup := by
        rw [w1]
        exact List.pairwise_map.mpr ((up_nd lu.1).imp fun {a b} z e => z (by simpa using SX.S_inj e))
      refine sa_cons (s1_if (c := false) (bp_bor (bp_not (c := true) (bp_val (ea_isi (d := .tup [.str "row", (dT B0 kv).er]) (id := "tuple") (c := true) Sc 15 16 rfl mI rfl mT boot_tuple' (ea_var Sc 9 rfl rfl rfl) rfl kit_tt) fun _ => rfl))) (fun e => nomatch e) (fun _ => sa_nil ?_))
      refine s1_one (s1_if (c := false) (bp_val (ea_var Sc 8 rfl rfl rfl) fun _ => rfl) (fun e => nomatch e) (fun _ => ?_))
      have er2 : (dT B0 kv).er = rowD kv := er_dT (g := D.bl)
      refine s1_one (s1_if (c := false) (bp_bor ((bw_or (c := false) (z := false) (bp_eq (bp_ine hr0 (ea_len Sc 17 rfl mLen (ea_var (d := .tup [.str "row", (dT B0 kv).er]) Sc 9 rfl rfl rfl) (LenD.tup _)) ea_int rfl) (by rfl)) (fun _ => bw_or (c := false) (z := false) (bp_eq (bp_cmp (op := .NotEq) (d1 := .str "row") (d2 := .str "row") hr0 (ea_ix (ds := [.str "row", (dT B0 kv).er]) (ea_var Sc 9 rfl rfl rfl) ea_int (.inr (.inl rfl)) rfl) ea_str trivial rfl) (by simp)) (fun _ => bw_or1 (bp_not (c := true) (bp_val (ep_call cWell hr Sc 19 rfl (ap_cons (ea_var Sc 2 rfl rfl rfl) (ap2 (ea_var Sc 4 rfl rfl rfl) ((ea_ix (ds := [.str "row", (dT B0 kv).er]) (d := (dT B0 kv).er) (ea_var Sc 9 rfl rfl rfl) ea_int (.inr (.inl rfl)) rfl).eq er2))) ⟨A, B, kv, hA, hB, w1, rfl, by rw [w2]⟩) fun _ => rfl))))).bp)) (fun e => nomatch e) (fun _ => ?_))
      refine sa_cons (s1_setP Sc 10 rfl rfl (t := dT B0 kv) (ep_bor (ep_dcopyT (g := D.bl) Sc 20 rfl mD ((ea_ix (ds := [.str "row", (dT B0 kv).er]) (d := (dT B0 kv).er) (ea_var Sc 9 rfl rfl rfl) ea_int (.inr (.inl rfl)) rfl).eq er2)) (inds_B0 kv)) (by simp) ?_)
      refine sa_cons (s1_tput (k := kS "a") (d := .int 7) hr0 Sc 9 rfl rfl rfl ea_str ea_int (by rw [List.length_map]; exact lt_size hlen (by decide)) ?_)
      refine sa_fzD (g := D.bl) 10 rfl ?_
      refine s1_one (s1_if (c := false) (bp_neRow (z := "row") (kv := kv) hr0 (ep_fz' (ep_call cBet hr Sc 14 rfl (ap2 (ea_var Sc 2 rfl rfl rfl) (ea_var Sc 4 rfl rfl rfl)) hS) er_bet) (ep_fz' (ep_tup (ap_cons ea_str (ap_cons (ea_var Sc 10 rfl rfl rfl) ap_nil)) (show 2 ≤ sizeLine by decide)) rfl) ndk rfl) (fun e => nomatch e) (fun _ => sa_nil ?_))
      exact hP _ ⟨rfl, rfl⟩
  -- behind the first if
  have key1 : ∀ (A B : Fo) (kk : Int) (Po : Post), 0 ≤ kk → kk ≤ 2 → okF A → okF B → (∀ ρ3, Wk ρ3 [some (.fz (scr ns)), none, none, none, none, none, none, none, none, none, none, none] → Po.nx ρ3) →
      SA X W [some (.fz (scr ns)), some (.fz (.int kk)), some (.fz (frm A)), none, some (.fz (frm B)), none, none, none, none, none, none, none] (lawBody.drop 2) Po := fun A B kk Po k0 k1 hA hB hP => by
    have la := ltF_ok hA
    have lb := ltF_ok hB
    have l1 := okP_len la
    have l2 := okP_len lb
    refine sa_cons (s1_if (bp_ieq hr0 (ea_mod (ep_call cM hr Sc 2 rfl (ap2 (ea_var Sc 0 rfl rfl rfl) (ea_add (ea_mul ea_int (ea_var Sc 1 rfl rfl rfl) (.inl ⟨by decide, by decide⟩)) ea_int)) ⟨ns, 500 * kk + 400, hn, by omega, by omega, rfl, rfl⟩) ea_int (by decide)) ea_int rfl) (fun _ => ?_) (fun _ => sa_nil (key2 A B kk Po hA hB hP)))
    refine sa_cons (s1_setP Sc 6 rfl rfl (ep_call cProd hr Sc 5 rfl (ap2 (ea_scat (ep_call cIn hr Sc 6 rfl (ap1 (ea_var Sc 2 rfl rfl rfl)) ⟨A, hA, rfl, rfl⟩) (ep_call cIn hr Sc 6 rfl (ap1 (ea_var Sc 4 rfl rfl rfl)) ⟨B, hB, rfl, rfl⟩) (le_size (m := 18) (by omega) (by decide))) (ea_div (ep_call cM hr Sc 2 rfl (ap2 (ea_var Sc 0 rfl rfl rfl) (ea_add (ea_mul ea_int (ea_var Sc 1 rfl rfl rfl) (.inl ⟨by decide, by decide⟩)) ea_int)) ⟨ns, 500 * kk + 403, hn, by omega, by omega, rfl, rfl⟩) ea_int ⟨by decide, by decide⟩)) ⟨ltF A ++ ltF B, _, by rw [List.length_append]; omega, rfl, rfl⟩) (by simp) ?_)
    have hsub := prodL_sub (ltF A ++ ltF B) (mixed ns (500 * kk + 403) / 5)
    generalize prodL (ltF A ++ ltF B) (mixed ns (500 * kk + 403) / 5) = m at hsub ⊢
    have hm9 : ∀ c ∈ m, c ∈ L9 := fun c hc => (List.mem_append.mp (hsub.subset hc)).elim (la.2 c) (lb.2 c)
    have hml : m.length ≤ 18 := by have := hsub.length_le; rw [List.length_append] at this; omega
    have hall : ∀ p ∈ A ++ [srtN m], okP p := fun p hp => (List.mem_append.mp hp).elim (hA.pr p) fun z => by rw [List.mem_singleton.mp z]; exact okP_srtN hm9
    have hlA := hA.len
    refine s1_one (s1_setP Sc 2 rfl rfl (ep_call cTurn hr Sc 7 rfl (ap1 (ea_cat (ea_list Sc 8 rfl mL (ea_var Sc 2 rfl rfl rfl) (.inr (.inl rfl))) (ep_fz' (d := .lst [sS (srtN m)]) (ep_lst (ap_cons (ea_jsu hr0 Sc 9 10 rfl mS rfl mSe (ea_var Sc 6 rfl rfl rfl) (by omega) (few_L9 hm9)) ap_nil) (show 1 ≤ sizeLine by decide)) rfl) (by simp; exact le_size (m := 513) (by omega) (by decide)))) ⟨A ++ [srtN m], by simp; omega, hall, by rw [lsS, List.map_append]; rfl, rfl⟩) (by simp) ?_)
    refine sa_wk ?_ (key2 (ga (A ++ [srtN m])) B kk Po (ga_ok hall) hB hP)
    exact ⟨rfl, rfl, rfl, rfl, rfl⟩
  refine sa_cons (s1_forF C Sc.calm (List.range 3) (fun i => .int (0 + (i : Int))) (fun _ : Unit => [some (.fz (scr ns)), none, none, none, none, none, none, none, none, none, none, none]) (fun _ _ => ()) () (ia_range1 (n := 3) Sc 0 rfl mR ea_int ⟨by decide, by decide⟩) ⟨rfl, rfl⟩ (fun pre x post hx => ?_) (fun _ w => sa_wk w ?_))
  · have hx3 : x < 3 := List.mem_range.mp (pre_mem hx)
    refine ga_name Sc 1 rfl rfl (by simp) ?_
    have k0 : 0 ≤ 0 + (x : Int) := by omega
    have k1 : 0 + (x : Int) ≤ 2 := by omega
    have hix : ∃ m : Int, 0 < m ∧ atI [D.int 10, .int 7, .int 7] (0 + (x : Int)) = some (.int m) := by
      match x, hx3 with
      | 0, _ => exact ⟨10, by decide, rfl⟩
      | 1, _ => exact ⟨7, by decide, rfl⟩
      | 2, _ => exact ⟨7, by decide, rfl⟩
    generalize 0 + (x : Int) = kk at k0 k1 hix ⊢
    obtain ⟨mm, mm0, hix⟩ := hix
    refine sa_cons (s1_asg (ep_call cPair hr Sc 1 rfl (ap2 (ea_var Sc 0 rfl rfl rfl) (ea_mul ea_int (ea_var Sc 1 rfl rfl rfl) (.inl ⟨by decide, by decide⟩))) ⟨ns, 500 * kk, hn, by omega, by omega, rfl, rfl⟩) (ga_tup Sc.calm (gas_cons (ga_name Sc 2 rfl rfl (by simp) (gas_cons (ga_name Sc 3 rfl rfl (by simp) (gas_cons (ga_name Sc 4 rfl rfl (by simp) (gas_nil ?_))))))) rfl))
    have hA := oneF_ok ns (500 * kk)
    have hB := othF_ok ns (500 * kk)
    refine sa_cons (s1_if (bp_ieq hr0 (ea_mod (ep_call cM hr Sc 2 rfl (ap2 (ea_var Sc 0 rfl rfl rfl) (ea_add (ea_mul ea_int (ea_var Sc 1 rfl rfl rfl) (.inl ⟨by decide, by decide⟩)) ea_int)) ⟨ns, 500 * kk + 400, hn, by omega, by omega, rfl, rfl⟩) ea_int (by decide)) ea_int rfl) (fun _ => ?_) (fun _ => sa_nil ?_))
    · have e402 := Int.emod_nonneg (mixed ns (500 * kk + 402)) (show mm ≠ 0 by omega)
      refine sa_cons (s1_setP Sc 5 rfl rfl (ep_call cLets hr Sc 3 rfl (ap2 (ep_call cM hr Sc 2 rfl (ap2 (ea_var Sc 0 rfl rfl rfl) (ea_add (ea_mul ea_int (ea_var Sc 1 rfl rfl rfl) (.inl ⟨by decide, by decide⟩)) ea_int)) ⟨ns, 500 * kk + 401, hn, by omega, by omega, rfl, rfl⟩) (ea_mod (ep_call cM hr Sc 2 rfl (ap2 (ea_var Sc 0 rfl rfl rfl) (ea_add (ea_mul ea_int (ea_var Sc 1 rfl rfl rfl) (.inl ⟨by decide, by decide⟩)) ea_int)) ⟨ns, 500 * kk + 402, hn, by omega, by omega, rfl, rfl⟩) (ea_ix (d := .int mm) (ep_fz' (d := .lst [D.int 10, .int 7, .int 7]) (ep_lst (ap_cons ea_int (ap_cons ea_int (ap_cons ea_int ap_nil))) (show 3 ≤ sizeLine by decide)) rfl) (ea_var Sc 1 rfl rfl rfl) (.inl rfl) hix) mm0)) ⟨_, _, e402, rfl, rfl⟩) (by simp) ?_)
      have hl := lettersL_ok (mixed ns (500 * kk + 401)) (mixed ns (500 * kk + 402) % mm)
      generalize lettersL (mixed ns (500 * kk + 401)) (mixed ns (500 * kk + 402) % mm) = l at hl ⊢
      refine sa_cons (s1_setP Sc 2 rfl rfl (ep_call cForm hr Sc 4 rfl (ap_cons (ea_var Sc 0 rfl rfl rfl) (ap2 (ea_add (ea_mul ea_int (ea_var Sc 1 rfl rfl rfl) (.inl ⟨by decide, by decide⟩)) ea_int) (ea_var Sc 5 rfl rfl rfl))) ⟨ns, 500 * kk + 20, l, hn, by omega, by omega, hl, rfl, rfl⟩) (by simp) ?_)
      refine s1_one (s1_setP Sc 4 rfl rfl (ep_call cForm hr Sc 4 rfl (ap_cons (ea_var Sc 0 rfl rfl rfl) (ap2 (ea_add (ea_mul ea_int (ea_var Sc 1 rfl rfl rfl) (.inl ⟨by decide, by decide⟩)) ea_int) (ea_var Sc 5 rfl rfl rfl))) ⟨ns, 500 * kk + 130, l, hn, by omega, by omega, hl, rfl, rfl⟩) (by simp) ?_)
      refine sa_wk ?_ (key1 (lawForm ns (500 * kk + 20) l) (lawForm ns (500 * kk + 130) l) kk _ k0 k1 (lawForm_ok _ _ hl) (lawForm_ok _ _ hl) fun ρ3 w => w)
      exact ⟨rfl, rfl, rfl, rfl, rfl⟩
    · refine sa_wk ?_ (key1 (oneF ns (500 * kk)) (othF ns (500 * kk)) kk _ k0 k1 hA hB fun ρ3 w => w)
      exact ⟨rfl, rfl, rfl, rfl, rfl⟩
  · exact s1_one (s1_retP ea_bl rfl)
end
end Fs

namespace Fs
open PySem PySem.Spec L2
open SX (S)
/-- nothing is raised: the other end -/
theorem FnOk.no {P : Program} {w : World} {K : PySem.W.Frag} {mg : Str → Option Value} {base : Heap} {k : Nat} {f : Addr} {fd : FuncData} {ps : List Str} {sp sp' : Sp} (F : FnOk P w K mg base (L2.CX P w) k f fd ps sp) (h : ∀ vs H Q E, sp' vs H Q E → sp vs H Q fun _ _ _ => False) : FnOk P w K mg base CX0 k f fd ps sp' :=
  ⟨fun vs H Q E q => F.len vs H Q _ (h _ _ _ _ q), fun A outer s H args us vs Q E hr he hb hv hs => codeAny_mono (F.run A outer s H args us vs Q _ hr he hb hv (h _ _ _ _ hs)) fun r s' q => by
    cases r with
    | ok x => cases x with
      | ret u => exact q
      | _ => exact q.elim
    | error x =>
      obtain ⟨_, _, _, _, _, _, _, _, _, _, _, _, z⟩ := (show L2.CX P w outer H s (fun _ _ _ => False) x s' from q)
      exact z.elim⟩
theorem cal_of {P : Program} {w : World} {K : PySem.W.Frag} {mg : Str → Option Value} {base : Heap} {k : Nat} {x : Str} {ps : List Str} {Sp : Spec} {f : Addr} {fd : FuncData} {qual : Str} {params : Arguments} {body : List Stmt} {scope : Scope} (F : FunD K x qual params body scope [] [] f fd) (G : FnOk P w K mg base (L2.CX P w) k f fd ps (spD K mg Sp)) (hm : mg x = some (.ref f))
    (hb : ∀ (kV doc pm : Value) (an : Option Addr) (cdv ct : Value) (us : List Value), us.length = ps.length → bindArgs (PySem.W.fnOf x qual params body scope .none kV doc pm an cdv ct) ⟨us, []⟩ = pure (ps.zip us)) : Cal P w K mg base k x ps Sp :=
  ⟨f, fd, G, hm, F.kp, F.bindsN hb⟩
end Fs

namespace Fs
open PySem PySem.Spec L2 PyProof.Rows
abbrev N_lo : List Str := ["_law_one", "_law_other"]
abbrev N_in : List Str := ["_law_form_here", "_law_letter"]
abbrev FnP (K : PySem.W.Frag) (x : Str) (st : Stmt) (f : Addr) (fd : FuncData) : Prop := FunD K x x (defArgs st) (defBody st) (defScope st) [] [] f fd
def SpLaw : Spec := fun ds o => ∃ ns : List Int, ns.length ≤ 63 ∧ ds = [scr ns] ∧ o = .ok (.fz (.bl true))
section
variable {P : Program} {w : World} {K : PySem.W.Frag} {mg : Str → Option Value} {base : Heap} {n : Nat} {fa : Addr} {fd : FuncData}
theorem ok_gathered (F : FnP K "gathered" (top 1) fa fd) (hm : mg "gathered" = some (.ref fa)) (m_sorted : mg "sorted" = none) (m_tuple : mg "tuple" = none) : Cal P w K mg base (n + 1) "gathered" ["products"] SpGathered := by
  have sc : FnScope N_gathered ["products"] (defScope (top 1)) := ⟨rfl, rfl, rfl, by decide +kernel, rfl, by decide +kernel, by decide +kernel⟩
  refine cal_of F (fn_ok F sc (fun ds o hS => ?_) (by decide) (fun cdv A outer s H E hr C ds o hS => ?_)) hm (fun _ _ _ _ _ _ us hl => match us, hl with | [_], _ => rfl)
  · obtain ⟨ps, hl, rfl, rfl⟩ := hS; rfl
  · obtain ⟨ps, hl, rfl, rfl⟩ := hS
    have Sc := sco_of (fnl := true) (X := cxd P w K mg base N_gathered "gathered" (defScope (top 1)) fa cdv A outer s H E) (N := N_gathered) (scp := defScope (top 1)) (vs := [0, 1, 2]) (ls := [0, 1, 2]) (gs := ["sorted", "tuple"]) rfl rfl sc.nd rfl (fun _ => rfl) (by decide +kernel)
    exact bd_gathered ps hl Sc (hr.mono (Nat.zero_le _)) C m_sorted m_tuple
theorem ok_added (F : FnP K "added" (top 2) fa fd) (hm : mg "added" = some (.ref fa)) (c_gathered : Cal P w K mg base n "gathered" ["products"] SpGathered) (m_list : mg "list" = none) : Cal P w K mg base (n + 1) "added" ["one", "other"] SpAdded := by
  have sc : FnScope N_added ["one", "other"] (defScope (top 2)) := ⟨rfl, rfl, rfl, by decide +kernel, rfl, by decide +kernel, by decide +kernel⟩
  refine cal_of F (fn_ok F sc (fun ds o hS => ?_) (by decide) (fun cdv A outer s H E hr C ds o hS => ?_)) hm (fun _ _ _ _ _ _ us hl => match us, hl with | [_, _], _ => rfl)
  · obtain ⟨a, b, ha, hb, rfl, rfl⟩ := hS; rfl
  · obtain ⟨a, b, ha, hb, rfl, rfl⟩ := hS
    have Sc := sco_of (fnl := true) (X := cxd P w K mg base N_added "added" (defScope (top 2)) fa cdv A outer s H E) (N := N_added) (scp := defScope (top 2)) (vs := [0, 1]) (ls := [0, 1]) (gs := ["gathered", "list"]) rfl rfl sc.nd rfl (fun _ => rfl) (by decide +kernel)
    exact bd_added a b (by have := ha.len; have := hb.len; omega) Sc hr (hr.mono (Nat.zero_le _)) C c_gathered m_list
theorem ok_both_letters (F : FnP K "both_letters" (top 3) fa fd) (hm : mg "both_letters" = some (.ref fa)) (m_sorted : mg "sorted" = none) (m_set : mg "set" = none) : Cal P w K mg base (n + 1) "both_letters" ["one", "other"] SpBoth := by
  have sc : FnScope N_both ["one", "other"] (defScope (top 3)) := ⟨rfl, rfl, rfl, by decide +kernel, rfl, by decide +kernel, by decide +kernel⟩
  refine cal_of F (fn_ok F sc (fun ds o hS => ?_) (by decide) (fun cdv A outer s H E hr C ds o hS => ?_)) hm (fun _ _ _ _ _ _ us hl => match us, hl with | [_, _], _ => rfl)
  · obtain ⟨a, b, ha, hb, rfl, rfl⟩ := hS; rfl
  · obtain ⟨a, b, ha, hb, rfl, rfl⟩ := hS
    have Sc := sco_of (fnl := true) (X := cxd P w K mg base N_both "both_letters" (defScope (top 3)) fa cdv A outer s H E) (N := N_both) (scp := defScope (top 3)) (vs := [0, 1]) (ls := [0, 1]) (gs := ["sorted", "set"]) rfl rfl sc.nd rfl (fun _ => rfl) (by decide +kernel)
    exact bd_both a b ha hb Sc (hr.mono (Nat.zero_le _)) C m_sorted m_set
theorem ok_multiplied (F : FnP K "multiplied" (top 4) fa fd) (hm : mg "multiplied" = some (.ref fa)) (c_gathered : Cal P w K mg base n "gathered" ["products"] SpGathered) (c_both_letters : Cal P w K mg base n "both_letters" ["one", "other"] SpBoth) : Cal P w K mg base (n + 1) "multiplied" ["one", "other"] SpMult := by
  have sc : FnScope N_mult ["one", "other"] (defScope (top 4)) := ⟨rfl, rfl, rfl, by decide +kernel, rfl, by decide +kernel, by decide +kernel⟩
  refine cal_of F (fn_ok F sc (fun ds o hS => ?_) (by decide) (fun cdv A outer s H E hr C ds o hS => ?_)) hm (fun _ _ _ _ _ _ us hl => match us, hl with | [_, _], _ => rfl)
  · obtain ⟨a, b, ha, hb, rfl, rfl⟩ := hS; rfl
  · obtain ⟨a, b, ha, hb, rfl, rfl⟩ := hS
    have Sc := sco_of (fnl := true) (X := cxd P w K mg base N_mult "multiplied" (defScope (top 4)) fa cdv A outer s H E) (N := N_mult) (scp := defScope (top 4)) (vs := [0, 1, 2, 3, 4]) (ls := [0, 1, 2, 3, 4]) (gs := ["gathered", "both_letters"]) rfl rfl sc.nd rfl (fun _ => rfl) (by decide +kernel)
    exact bd_mult a b ha hb Sc hr C c_gathered c_both_letters
theorem ok_opposite (F : FnP K "opposite" (top 5) fa fd) (hm : mg "opposite" = some (.ref fa)) (c_added : Cal P w K mg base n "added" ["one", "other"] SpAdded) : Cal P w K mg base (n + 1) "opposite" ["form"] SpOpp := by
  have sc : FnScope N_opp ["form"] (defScope (top 5)) := ⟨rfl, rfl, rfl, by decide +kernel, rfl, by decide +kernel, by decide +kernel⟩
  refine cal_of F (fn_ok F sc (fun ds o hS => ?_) (by decide) (fun cdv A outer s H E hr C ds o hS => ?_)) hm (fun _ _ _ _ _ _ us hl => match us, hl with | [_], _ => rfl)
  · obtain ⟨a, ha, rfl, rfl⟩ := hS; rfl
  · obtain ⟨a, ha, rfl, rfl⟩ := hS
    have Sc := sco_of (fnl := true) (X := cxd P w K mg base N_opp "opposite" (defScope (top 5)) fa cdv A outer s H E) (N := N_opp) (scp := defScope (top 5)) (vs := [0]) (ls := [0]) (gs := ["added"]) rfl rfl sc.nd rfl (fun _ => rfl) (by decide +kernel)
    exact bd_opp a ha Sc hr C c_added
theorem ok_joined (F : FnP K "joined" (top 6) fa fd) (hm : mg "joined" = some (.ref fa)) (c_added : Cal P w K mg base n "added" ["one", "other"] SpAdded) (c_multiplied : Cal P w K mg base n "multiplied" ["one", "other"] SpMult) : Cal P w K mg base (n + 1) "joined" ["one", "other"] SpJoin := by
  have sc : FnScope N_both ["one", "other"] (defScope (top 6)) := ⟨rfl, rfl, rfl, by decide +kernel, rfl, by decide +kernel, by decide +kernel⟩
  refine cal_of F (fn_ok F sc (fun ds o hS => ?_) (by decide) (fun cdv A outer s H E hr C ds o hS => ?_)) hm (fun _ _ _ _ _ _ us hl => match us, hl with | [_, _], _ => rfl)
  · obtain ⟨a, b, ha, hb, rfl, rfl⟩ := hS; rfl
  · obtain ⟨a, b, ha, hb, rfl, rfl⟩ := hS
    have Sc := sco_of (fnl := true) (X := cxd P w K mg base N_both "joined" (defScope (top 6)) fa cdv A outer s H E) (N := N_both) (scp := defScope (top 6)) (vs := [0, 1]) (ls := [0, 1]) (gs := ["added", "multiplied"]) rfl rfl sc.nd rfl (fun _ => rfl) (by decide +kernel)
    exact bd_join a b ha hb Sc hr C c_added c_multiplied
theorem ok_leads (F : FnP K "leads" (top 7) fa fd) (hm : mg "leads" = some (.ref fa)) (c_opposite : Cal P w K mg base n "opposite" ["form"] SpOpp) (c_multiplied : Cal P w K mg base n "multiplied" ["one", "other"] SpMult) : Cal P w K mg base (n + 1) "leads" ["one", "other"] SpLeads := by
  have sc : FnScope N_both ["one", "other"] (defScope (top 7)) := ⟨rfl, rfl, rfl, by decide +kernel, rfl, by decide +kernel, by decide +kernel⟩
  refine cal_of F (fn_ok F sc (fun ds o hS => ?_) (by decide) (fun cdv A outer s H E hr C ds o hS => ?_)) hm (fun _ _ _ _ _ _ us hl => match us, hl with | [_, _], _ => rfl)
  · obtain ⟨a, b, ha, hb, rfl, rfl⟩ := hS; rfl
  · obtain ⟨a, b, ha, hb, rfl, rfl⟩ := hS
    have Sc := sco_of (fnl := true) (X := cxd P w K mg base N_both "leads" (defScope (top 7)) fa cdv A outer s H E) (N := N_both) (scp := defScope (top 7)) (vs := [0, 1]) (ls := [0, 1]) (gs := ["multiplied", "opposite"]) rfl rfl sc.nd rfl (fun _ => rfl) (by decide +kernel)
    exact bd_leads a b ha hb Sc hr (hr.mono (Nat.zero_le _)) C c_opposite c_multiplied
theorem ok_letters_of (F : FnP K "letters_of" (top 8) fa fd) (hm : mg "letters_of" = some (.ref fa)) (m_sorted : mg "sorted" = none) (m_set : mg "set" = none) : Cal P w K mg base (n + 1) "letters_of" ["form"] SpLetters := by
  have sc : FnScope N_opp ["form"] (defScope (top 8)) := ⟨rfl, rfl, rfl, by decide +kernel, rfl, by decide +kernel, by decide +kernel⟩
  refine cal_of F (fn_ok F sc (fun ds o hS => ?_) (by decide) (fun cdv A outer s H E hr C ds o hS => ?_)) hm (fun _ _ _ _ _ _ us hl => match us, hl with | [_], _ => rfl)
  · obtain ⟨a, ha, rfl, rfl⟩ := hS; rfl
  · obtain ⟨a, ha, rfl, rfl⟩ := hS
    have Sc := sco_of (fnl := true) (X := cxd P w K mg base N_opp "letters_of" (defScope (top 8)) fa cdv A outer s H E) (N := N_opp) (scp := defScope (top 8)) (vs := [0]) (ls := [0]) (gs := ["sorted", "set"]) rfl rfl sc.nd rfl (fun _ => rfl) (by decide +kernel)
    exact bd_letters a ha Sc (hr.mono (Nat.zero_le _)) C m_sorted m_set
theorem ok_put_in (F : FnP K "put_in" (top 12) fa fd) (hm : mg "put_in" = some (.ref fa)) (c_added : Cal P w K mg base n "added" ["one", "other"] SpAdded) (c_multiplied : Cal P w K mg base n "multiplied" ["one", "other"] SpMult) (g_ALWAYS : Gv K mg "ALWAYS" (frm [[]])) (g_NEVER : Gv K mg "NEVER" (frm [])) : Cal P w K mg base (n + 1) "put_in" ["form", "forms"] SpPut := by
  have sc : FnScope N_put ["form", "forms"] (defScope (top 12)) := ⟨rfl, rfl, rfl, by decide +kernel, rfl, by decide +kernel, by decide +kernel⟩
  refine cal_of F (fn_ok F sc (fun ds o hS => ?_) (by decide) (fun cdv A outer s H E hr C ds o hS => ?_)) hm (fun _ _ _ _ _ _ us hl => match us, hl with | [_, _], _ => rfl)
  · obtain ⟨f, kv, hf, hk, rfl, rfl⟩ := hS; rfl
  · obtain ⟨f, kv, hf, hk, rfl, rfl⟩ := hS
    have Sc := sco_of (fnl := true) (X := cxd P w K mg base N_put "put_in" (defScope (top 12)) fa cdv A outer s H E) (N := N_put) (scp := defScope (top 12)) (vs := [0, 1, 2, 3, 4, 5]) (ls := [0, 1, 2, 3, 4, 5]) (gs := ["added", "multiplied", "ALWAYS", "NEVER"]) rfl rfl sc.nd rfl (fun _ => rfl) (by decide +kernel)
    exact bd_put f kv hf hk Sc hr (hr.mono (Nat.zero_le _)) C c_added c_multiplied g_ALWAYS g_NEVER
theorem ok_fixed_at (F : FnP K "fixed_at" (top 13) fa fd) (hm : mg "fixed_at" = some (.ref fa)) (c_put_in : Cal P w K mg base n "put_in" ["form", "forms"] SpPut) (g_ALWAYS : Gv K mg "ALWAYS" (frm [[]])) (g_NEVER : Gv K mg "NEVER" (frm [])) : Cal P w K mg base (n + 1) "fixed_at" ["form", "letter", "truth"] SpFix := by
  have sc : FnScope N_fix ["form", "letter", "truth"] (defScope (top 13)) := ⟨rfl, rfl, rfl, by decide +kernel, rfl, by decide +kernel, by decide +kernel⟩
  refine cal_of F (fn_ok F sc (fun ds o hS => ?_) (by decide) (fun cdv A outer s H E hr C ds o hS => ?_)) hm (fun _ _ _ _ _ _ us hl => match us, hl with | [_, _, _], _ => rfl)
  · obtain ⟨f, c, t, hf, rfl, rfl⟩ := hS; rfl
  · obtain ⟨f, c, t, hf, rfl, rfl⟩ := hS
    have Sc := sco_of (fnl := true) (X := cxd P w K mg base N_fix "fixed_at" (defScope (top 13)) fa cdv A outer s H E) (N := N_fix) (scp := defScope (top 13)) (vs := [0, 1, 2]) (ls := [0, 1, 2]) (gs := ["put_in", "ALWAYS", "NEVER"]) rfl rfl sc.nd rfl (fun _ => rfl) (by decide +kernel)
    exact bd_fix f c t hf Sc hr C c_put_in g_ALWAYS g_NEVER
theorem ok_some_of (F : FnP K "some_of" (top 14) fa fd) (hm : mg "some_of" = some (.ref fa)) (c_joined : Cal P w K mg base n "joined" ["one", "other"] SpJoin) (c_fixed_at : Cal P w K mg base n "fixed_at" ["form", "letter", "truth"] SpFix) : Cal P w K mg base (n + 1) "some_of" ["form", "letters"] SpSome := by
  have sc : FnScope N_some ["form", "letters"] (defScope (top 14)) := ⟨rfl, rfl, rfl, by decide +kernel, rfl, by decide +kernel, by decide +kernel⟩
  refine cal_of F (fn_ok F sc (fun ds o hS => ?_) (by decide) (fun cdv A outer s H E hr C ds o hS => ?_)) hm (fun _ _ _ _ _ _ us hl => match us, hl with | [_, _], _ => rfl)
  · obtain ⟨f, l, hf, rfl, rfl⟩ := hS; rfl
  · obtain ⟨f, l, hf, rfl, rfl⟩ := hS
    have Sc := sco_of (fnl := true) (X := cxd P w K mg base N_some "some_of" (defScope (top 14)) fa cdv A outer s H E) (N := N_some) (scp := defScope (top 14)) (vs := [0, 1, 2]) (ls := [0, 1, 2]) (gs := ["joined", "fixed_at"]) rfl rfl sc.nd rfl (fun _ => rfl) (by decide +kernel)
    exact bd_some f l hf Sc hr C c_joined c_fixed_at
theorem ok_every_of (F : FnP K "every_of" (top 15) fa fd) (hm : mg "every_of" = some (.ref fa)) (c_multiplied : Cal P w K mg base n "multiplied" ["one", "other"] SpMult) (c_fixed_at : Cal P w K mg base n "fixed_at" ["form", "letter", "truth"] SpFix) : Cal P w K mg base (n + 1) "every_of" ["form", "letters"] SpEvery := by
  have sc : FnScope N_some ["form", "letters"] (defScope (top 15)) := ⟨rfl, rfl, rfl, by decide +kernel, rfl, by decide +kernel, by decide +kernel⟩
  refine cal_of F (fn_ok F sc (fun ds o hS => ?_) (by decide) (fun cdv A outer s H E hr C ds o hS => ?_)) hm (fun _ _ _ _ _ _ us hl => match us, hl with | [_, _], _ => rfl)
  · obtain ⟨f, l, hf, rfl, rfl⟩ := hS; rfl
  · obtain ⟨f, l, hf, rfl, rfl⟩ := hS
    have Sc := sco_of (fnl := true) (X := cxd P w K mg base N_some "every_of" (defScope (top 15)) fa cdv A outer s H E) (N := N_some) (scp := defScope (top 15)) (vs := [0, 1, 2]) (ls := [0, 1, 2]) (gs := ["multiplied", "fixed_at"]) rfl rfl sc.nd rfl (fun _ => rfl) (by decide +kernel)
    exact bd_every f l hf Sc hr C c_multiplied c_fixed_at
theorem ok_less (F : FnP K "less" (top 17) fa fd) (hm : mg "less" = some (.ref fa))  : Cal P w K mg base (n + 1) "less" ["letters", "others"] SpLess := by
  have sc : FnScope N_less ["letters", "others"] (defScope (top 17)) := ⟨rfl, rfl, rfl, by decide +kernel, rfl, by decide +kernel, by decide +kernel⟩
  refine cal_of F (fn_ok F sc (fun ds o hS => ?_) (by decide) (fun cdv A outer s H E hr C ds o hS => ?_)) hm (fun _ _ _ _ _ _ us hl => match us, hl with | [_, _], _ => rfl)
  · obtain ⟨a, b, ha, rfl, rfl⟩ := hS; rfl
  · obtain ⟨a, b, ha, rfl, rfl⟩ := hS
    have Sc := sco_of (fnl := true) (X := cxd P w K mg base N_less "less" (defScope (top 17)) fa cdv A outer s H E) (N := N_less) (scp := defScope (top 17)) (vs := [0, 1]) (ls := [0, 1]) (gs := []) rfl rfl sc.nd rfl (fun _ => rfl) (by decide +kernel)
    exact bd_less a b ha Sc C
theorem ok_true_row (F : FnP K "true_row" (top 18) fa fd) (hm : mg "true_row" = some (.ref fa)) (c_fixed_at : Cal P w K mg base n "fixed_at" ["form", "letter", "truth"] SpFix) : Cal P w K mg base (n + 1) "true_row" ["form", "letters"] SpRow := by
  have sc : FnScope N_row ["form", "letters"] (defScope (top 18)) := ⟨rfl, rfl, rfl, by decide +kernel, rfl, by decide +kernel, by decide +kernel⟩
  refine cal_of F (fn_ok F sc (fun ds o hS => ?_) (by decide) (fun cdv A outer s H E hr C ds o hS => ?_)) hm (fun _ _ _ _ _ _ us hl => match us, hl with | [_, _], _ => rfl)
  · obtain ⟨f, l, hf, hl, rfl, rfl⟩ := hS; rfl
  · obtain ⟨f, l, hf, hl, rfl, rfl⟩ := hS
    have Sc := sco_of (fnl := true) (X := cxd P w K mg base N_row "true_row" (defScope (top 18)) fa cdv A outer s H E) (N := N_row) (scp := defScope (top 18)) (vs := [0, 1, 2, 3, 4]) (ls := [0, 1, 2, 3, 4]) (gs := ["fixed_at"]) rfl rfl sc.nd rfl (fun _ => rfl) (by decide +kernel)
    exact bd_row f l hf hl Sc hr (hr.mono (Nat.zero_le _)) C c_fixed_at
theorem ok_between (F : FnP K "between" (top 19) fa fd) (hm : mg "between" = some (.ref fa)) (c_letters_of : Cal P w K mg base n "letters_of" ["form"] SpLetters) (c_leads : Cal P w K mg base n "leads" ["one", "other"] SpLeads) (c_some_of : Cal P w K mg base n "some_of" ["form", "letters"] SpSome) (c_less : Cal P w K mg base n "less" ["letters", "others"] SpLess) (c_every_of : Cal P w K mg base n "every_of" ["form", "letters"] SpEvery) (c_true_row : Cal P w K mg base n "true_row" ["form", "letters"] SpRow) (c_multiplied : Cal P w K mg base n "multiplied" ["one", "other"] SpMult) (c_opposite : Cal P w K mg base n "opposite" ["form"] SpOpp) (m_sorted : mg "sorted" = none) (m_set : mg "set" = none) : Cal P w K mg base (n + 1) "between" ["one", "other"] SpBetween := by
  have sc : FnScope N_between ["one", "other"] (defScope (top 19)) := ⟨rfl, rfl, rfl, by decide +kernel, rfl, by decide +kernel, by decide +kernel⟩
  refine cal_of F (fn_ok F sc (fun ds o hS => ?_) (by decide) (fun cdv A outer s H E hr C ds o hS => ?_)) hm (fun _ _ _ _ _ _ us hl => match us, hl with | [_, _], _ => rfl)
  · obtain ⟨a, b, ha, hb, rfl, rfl⟩ := hS; rfl
  · obtain ⟨a, b, ha, hb, rfl, rfl⟩ := hS
    have Sc := sco_of (fnl := true) (X := cxd P w K mg base N_between "between" (defScope (top 19)) fa cdv A outer s H E) (N := N_between) (scp := defScope (top 19)) (vs := [0, 1, 2, 3]) (ls := [0, 1, 2, 3]) (gs := ["letters_of", "leads", "some_of", "less", "every_of", "true_row", "multiplied", "opposite", "sorted", "set"]) rfl rfl sc.nd rfl (fun _ => rfl) (by decide +kernel)
    exact bd_between a b ha hb Sc hr (hr.mono (Nat.zero_le _)) C c_letters_of c_leads c_some_of c_less c_every_of c_true_row c_multiplied c_opposite m_sorted m_set
theorem ok__law_mixed (F : FnP K "_law_mixed" (top 21) fa fd) (hm : mg "_law_mixed" = some (.ref fa)) (m_len : mg "len" = none) (m_range : mg "range" = none) (m_min : mg "min" = none) : Cal P w K mg base (n + 1) "_law_mixed" ["_law_script", "_law_k"] SpMixed := by
  have sc : FnScope N_mixed ["_law_script", "_law_k"] (defScope (top 21)) := ⟨rfl, rfl, rfl, by decide +kernel, rfl, by decide +kernel, by decide +kernel⟩
  refine cal_of F (fn_ok F sc (fun ds o hS => ?_) (by decide) (fun cdv A outer s H E hr C ds o hS => ?_)) hm (fun _ _ _ _ _ _ us hl => match us, hl with | [_, _], _ => rfl)
  · obtain ⟨ns, kk, hn, h0, h1, rfl, rfl⟩ := hS; rfl
  · obtain ⟨ns, kk, hn, h0, h1, rfl, rfl⟩ := hS
    have Sc := sco_of (fnl := true) (X := cxd P w K mg base N_mixed "_law_mixed" (defScope (top 21)) fa cdv A outer s H E) (N := N_mixed) (scp := defScope (top 21)) (vs := [0, 1, 2, 3, 4]) (ls := [0, 1, 2, 3, 4]) (gs := ["len", "range", "min"]) rfl rfl sc.nd rfl (fun _ => rfl) (by decide +kernel)
    exact bd_mixed ns kk hn h0 h1 Sc (hr.mono (Nat.zero_le _)) C m_len m_range m_min
theorem ok__law_letters (F : FnP K "_law_letters" (top 22) fa fd) (hm : mg "_law_letters" = some (.ref fa)) (m_list : mg "list" = none) (m_len : mg "len" = none) : Cal P w K mg base (n + 1) "_law_letters" ["_law_number", "_law_many"] SpLets := by
  have sc : FnScope N_lets ["_law_number", "_law_many"] (defScope (top 22)) := ⟨rfl, rfl, rfl, by decide +kernel, rfl, by decide +kernel, by decide +kernel⟩
  refine cal_of F (fn_ok F sc (fun ds o hS => ?_) (by decide) (fun cdv A outer s H E hr C ds o hS => ?_)) hm (fun _ _ _ _ _ _ us hl => match us, hl with | [_, _], _ => rfl)
  · obtain ⟨num, many, hm, rfl, rfl⟩ := hS; rfl
  · obtain ⟨num, many, hm, rfl, rfl⟩ := hS
    have Sc := sco_of (fnl := true) (X := cxd P w K mg base N_lets "_law_letters" (defScope (top 22)) fa cdv A outer s H E) (N := N_lets) (scp := defScope (top 22)) (vs := [0, 1, 2]) (ls := [0, 1, 2]) (gs := ["list", "len"]) rfl rfl sc.nd rfl (fun _ => rfl) (by decide +kernel)
    exact bd_lets num many hm Sc (hr.mono (Nat.zero_le _)) C m_list m_len
theorem ok__law_product (F : FnP K "_law_product" (top 23) fa fd) (hm : mg "_law_product" = some (.ref fa))  : Cal P w K mg base (n + 1) "_law_product" ["_law_letters_here", "_law_number"] SpProd := by
  have sc : FnScope N_prod ["_law_letters_here", "_law_number"] (defScope (top 23)) := ⟨rfl, rfl, rfl, by decide +kernel, rfl, by decide +kernel, by decide +kernel⟩
  refine cal_of F (fn_ok F sc (fun ds o hS => ?_) (by decide) (fun cdv A outer s H E hr C ds o hS => ?_)) hm (fun _ _ _ _ _ _ us hl => match us, hl with | [_, _], _ => rfl)
  · obtain ⟨l, num, hl, rfl, rfl⟩ := hS; rfl
  · obtain ⟨l, num, hl, rfl, rfl⟩ := hS
    have Sc := sco_of (fnl := true) (X := cxd P w K mg base N_prod "_law_product" (defScope (top 23)) fa cdv A outer s H E) (N := N_prod) (scp := defScope (top 23)) (vs := [0, 1, 2, 3]) (ls := [0, 1, 2, 3]) (gs := []) rfl rfl sc.nd rfl (fun _ => rfl) (by decide +kernel)
    exact bd_prod l num hl Sc (hr.mono (Nat.zero_le _)) C
theorem ok__law_form (F : FnP K "_law_form" (top 24) fa fd) (hm : mg "_law_form" = some (.ref fa)) (c__law_mixed : Cal P w K mg base n "_law_mixed" ["_law_script", "_law_k"] SpMixed) (c__law_product : Cal P w K mg base n "_law_product" ["_law_letters_here", "_law_number"] SpProd) (m_len : mg "len" = none) (m_tuple : mg "tuple" = none) (m_sorted : mg "sorted" = none) (m_set : mg "set" = none) (m_enumerate : mg "enumerate" = none) (m_range : mg "range" = none) : Cal P w K mg base (n + 1) "_law_form" ["_law_script", "_law_at", "_law_letters_here"] SpForm := by
  have sc : FnScope N_form ["_law_script", "_law_at", "_law_letters_here"] (defScope (top 24)) := ⟨rfl, rfl, rfl, by decide +kernel, rfl, by decide +kernel, by decide +kernel⟩
  refine cal_of F (fn_ok F sc (fun ds o hS => ?_) (by decide) (fun cdv A outer s H E hr C ds o hS => ?_)) hm (fun _ _ _ _ _ _ us hl => match us, hl with | [_, _, _], _ => rfl)
  · obtain ⟨ns, at', l, hn, h0, h1, hl, rfl, rfl⟩ := hS; rfl
  · obtain ⟨ns, at', l, hn, h0, h1, hl, rfl, rfl⟩ := hS
    have Sc := sco_of (fnl := true) (X := cxd P w K mg base N_form "_law_form" (defScope (top 24)) fa cdv A outer s H E) (N := N_form) (scp := defScope (top 24)) (vs := [0, 1, 2, 3, 4, 5, 6]) (ls := [0, 1, 2, 3, 4, 5, 6]) (gs := ["_law_mixed", "len", "tuple", "sorted", "set", "enumerate", "range", "len"]) rfl rfl sc.nd rfl (fun _ => rfl) (by decide +kernel)
    exact bd_form ns at' l hn h0 h1 hl Sc hr (hr.mono (Nat.zero_le _)) C c__law_mixed c__law_product m_len m_tuple m_sorted m_set m_enumerate m_range
theorem ok__law_rows (F : FnP K "_law_rows" (top 25) fa fd) (hm : mg "_law_rows" = some (.ref fa)) (m_dict : mg "dict" = none) : Cal P w K mg base (n + 1) "_law_rows" ["_law_letters_here"] SpRows := by
  have sc : FnScope N_rows ["_law_letters_here"] (defScope (top 25)) := ⟨rfl, rfl, rfl, by decide +kernel, rfl, by decide +kernel, by decide +kernel⟩
  refine cal_of F (fn_ok F sc (fun ds o hS => ?_) (by decide) (fun cdv A outer s H E hr C ds o hS => ?_)) hm (fun _ _ _ _ _ _ us hl => match us, hl with | [_], _ => rfl)
  · obtain ⟨l, hl, rfl, rfl⟩ := hS; rfl
  · obtain ⟨l, hl, rfl, rfl⟩ := hS
    have Sc := sco_of (fnl := true) (X := cxd P w K mg base N_rows "_law_rows" (defScope (top 25)) fa cdv A outer s H E) (N := N_rows) (scp := defScope (top 25)) (vs := [0, 1, 2, 3, 4, 5, 6]) (ls := [0, 1, 2, 3, 4, 5, 6]) (gs := ["dict"]) rfl rfl sc.nd rfl (fun _ => rfl) (by decide +kernel)
    exact bd_rows l hl Sc (hr.mono (Nat.zero_le _)) C m_dict
theorem ok__law_worth (F : FnP K "_law_worth" (top 26) fa fd) (hm : mg "_law_worth" = some (.ref fa)) (m_all : mg "all" = none) : Cal P w K mg base (n + 1) "_law_worth" ["_law_form_here", "_law_row"] SpWorth := by
  have sc : FnScope N_worth ["_law_form_here", "_law_row"] (defScope (top 26)) := ⟨rfl, rfl, rfl, by decide +kernel, rfl, by decide +kernel, by decide +kernel⟩
  refine cal_of F (fn_ok F sc (fun ds o hS => ?_) (by decide) (fun cdv A outer s H E hr C ds o hS => ?_)) hm (fun _ _ _ _ _ _ us hl => match us, hl with | [_, _], _ => rfl)
  · obtain ⟨f, kv, hf, hk, rfl, rfl⟩ := hS; rfl
  · obtain ⟨f, kv, hf, hk, rfl, rfl⟩ := hS
    have Sc := sco_of (fnl := true) (X := cxd P w K mg base N_worth "_law_worth" (defScope (top 26)) fa cdv A outer s H E) (N := N_worth) (scp := defScope (top 26)) (vs := [0, 1, 2, 3]) (ls := [0, 1, 2, 3]) (gs := ["all"]) rfl rfl sc.nd rfl (fun _ => rfl) (by decide +kernel)
    exact bd_worth f kv hf hk Sc (hr.mono (Nat.zero_le _)) C m_all
theorem ok__law_is_form (F : FnP K "_law_is_form" (top 27) fa fd) (hm : mg "_law_is_form" = some (.ref fa)) (m_isinstance : mg "isinstance" = none) (m_tuple : mg "tuple" = none) (m_all : mg "all" = none) (m_str : mg "str" = none) (m_list : mg "list" = none) (m_sorted : mg "sorted" = none) (m_set : mg "set" = none) : Cal P w K mg base (n + 1) "_law_is_form" ["_law_found", "_law_letters_here"] SpIsForm := by
  have sc : FnScope N_isform ["_law_found", "_law_letters_here"] (defScope (top 27)) := ⟨rfl, rfl, rfl, by decide +kernel, rfl, by decide +kernel, by decide +kernel⟩
  refine cal_of F (fn_ok F sc (fun ds o hS => ?_) (by decide) (fun cdv A outer s H E hr C ds o hS => ?_)) hm (fun _ _ _ _ _ _ us hl => match us, hl with | [_, _], _ => rfl)
  · obtain ⟨f, hf, rfl, rfl⟩ := hS; rfl
  · obtain ⟨f, hf, rfl, rfl⟩ := hS
    have Sc := sco_of (fnl := true) (X := cxd P w K mg base N_isform "_law_is_form" (defScope (top 27)) fa cdv A outer s H E) (N := N_isform) (scp := defScope (top 27)) (vs := [0, 1, 2]) (ls := [0, 1, 2]) (gs := ["isinstance", "tuple", "all", "tuple", "list", "sorted", "set"]) rfl rfl sc.nd rfl (fun _ => rfl) (by decide +kernel)
    exact bd_isform f hf Sc (hr.mono (Nat.zero_le _)) C m_isinstance m_tuple m_all m_str m_list m_sorted m_set
theorem ok__law_turned (F : FnP K "_law_turned" (top 28) fa fd) (hm : mg "_law_turned" = some (.ref fa)) (m_tuple : mg "tuple" = none) (m_sorted : mg "sorted" = none) : Cal P w K mg base (n + 1) "_law_turned" ["_law_products"] SpTurned := by
  have sc : FnScope N_turned ["_law_products"] (defScope (top 28)) := ⟨rfl, rfl, rfl, by decide +kernel, rfl, by decide +kernel, by decide +kernel⟩
  refine cal_of F (fn_ok F sc (fun ds o hS => ?_) (by decide) (fun cdv A outer s H E hr C ds o hS => ?_)) hm (fun _ _ _ _ _ _ us hl => match us, hl with | [_], _ => rfl)
  · obtain ⟨ps, hl, hp, rfl, rfl⟩ := hS; rfl
  · obtain ⟨ps, hl, hp, rfl, rfl⟩ := hS
    have Sc := sco_of (fnl := true) (X := cxd P w K mg base N_turned "_law_turned" (defScope (top 28)) fa cdv A outer s H E) (N := N_turned) (scp := defScope (top 28)) (vs := [0, 1, 2]) (ls := [0, 1, 2]) (gs := ["tuple", "sorted"]) rfl rfl sc.nd rfl (fun _ => rfl) (by decide +kernel)
    exact bd_turned ps hl hp Sc (hr.mono (Nat.zero_le _)) C m_tuple m_sorted
theorem ok__law_times (F : FnP K "_law_times" (top 29) fa fd) (hm : mg "_law_times" = some (.ref fa)) (c__law_turned : Cal P w K mg base n "_law_turned" ["_law_products"] SpTurned) (m_sorted : mg "sorted" = none) (m_set : mg "set" = none) : Cal P w K mg base (n + 1) "_law_times" ["_law_one", "_law_other"] SpMult := by
  have sc : FnScope N_times ["_law_one", "_law_other"] (defScope (top 29)) := ⟨rfl, rfl, rfl, by decide +kernel, rfl, by decide +kernel, by decide +kernel⟩
  refine cal_of F (fn_ok F sc (fun ds o hS => ?_) (by decide) (fun cdv A outer s H E hr C ds o hS => ?_)) hm (fun _ _ _ _ _ _ us hl => match us, hl with | [_, _], _ => rfl)
  · obtain ⟨a, b, ha, hb, rfl, rfl⟩ := hS; rfl
  · obtain ⟨a, b, ha, hb, rfl, rfl⟩ := hS
    have Sc := sco_of (fnl := true) (X := cxd P w K mg base N_times "_law_times" (defScope (top 29)) fa cdv A outer s H E) (N := N_times) (scp := defScope (top 29)) (vs := [0, 1, 2, 3, 4]) (ls := [0, 1, 2, 3, 4]) (gs := ["_law_turned", "sorted", "set"]) rfl rfl sc.nd rfl (fun _ => rfl) (by decide +kernel)
    exact bd_times a b ha hb Sc hr (hr.mono (Nat.zero_le _)) C c__law_turned m_sorted m_set
theorem ok__law_either (F : FnP K "_law_either" (top 30) fa fd) (hm : mg "_law_either" = some (.ref fa)) (c__law_turned : Cal P w K mg base n "_law_turned" ["_law_products"] SpTurned) (c__law_times : Cal P w K mg base n "_law_times" ["_law_one", "_law_other"] SpMult) (m_list : mg "list" = none) : Cal P w K mg base (n + 1) "_law_either" ["_law_one", "_law_other"] SpJoin := by
  have sc : FnScope N_lo ["_law_one", "_law_other"] (defScope (top 30)) := ⟨rfl, rfl, rfl, by decide +kernel, rfl, by decide +kernel, by decide +kernel⟩
  refine cal_of F (fn_ok F sc (fun ds o hS => ?_) (by decide) (fun cdv A outer s H E hr C ds o hS => ?_)) hm (fun _ _ _ _ _ _ us hl => match us, hl with | [_, _], _ => rfl)
  · obtain ⟨a, b, ha, hb, rfl, rfl⟩ := hS; rfl
  · obtain ⟨a, b, ha, hb, rfl, rfl⟩ := hS
    have Sc := sco_of (fnl := true) (X := cxd P w K mg base N_lo "_law_either" (defScope (top 30)) fa cdv A outer s H E) (N := N_lo) (scp := defScope (top 30)) (vs := [0, 1]) (ls := [0, 1]) (gs := ["_law_turned", "list", "_law_times"]) rfl rfl sc.nd rfl (fun _ => rfl) (by decide +kernel)
    exact bd_either a b ha hb Sc hr C c__law_turned c__law_times m_list
theorem ok__law_in (F : FnP K "_law_in" (top 31) fa fd) (hm : mg "_law_in" = some (.ref fa))  : Cal P w K mg base (n + 1) "_law_in" ["_law_form_here"] SpLetters := by
  have sc : FnScope N_in ["_law_form_here"] (defScope (top 31)) := ⟨rfl, rfl, rfl, by decide +kernel, rfl, by decide +kernel, by decide +kernel⟩
  refine cal_of F (fn_ok F sc (fun ds o hS => ?_) (by decide) (fun cdv A outer s H E hr C ds o hS => ?_)) hm (fun _ _ _ _ _ _ us hl => match us, hl with | [_], _ => rfl)
  · obtain ⟨a, ha, rfl, rfl⟩ := hS; rfl
  · obtain ⟨a, ha, rfl, rfl⟩ := hS
    have Sc := sco_of (fnl := true) (X := cxd P w K mg base N_in "_law_in" (defScope (top 31)) fa cdv A outer s H E) (N := N_in) (scp := defScope (top 31)) (vs := [0]) (ls := [0]) (gs := []) rfl rfl sc.nd rfl (fun _ => rfl) (by decide +kernel)
    exact bd_in a ha Sc C
theorem ok__law_parts (F : FnP K "_law_parts" (top 32) fa fd) (hm : mg "_law_parts" = some (.ref fa)) (c__law_letters : Cal P w K mg base n "_law_letters" ["_law_number", "_law_many"] SpLets) (c__law_mixed : Cal P w K mg base n "_law_mixed" ["_law_script", "_law_k"] SpMixed) (m_enumerate : mg "enumerate" = none) : Cal P w K mg base (n + 1) "_law_parts" ["_law_script", "_law_at"] SpParts := by
  have sc : FnScope N_parts ["_law_script", "_law_at"] (defScope (top 32)) := ⟨rfl, rfl, rfl, by decide +kernel, rfl, by decide +kernel, by decide +kernel⟩
  refine cal_of F (fn_ok F sc (fun ds o hS => ?_) (by decide) (fun cdv A outer s H E hr C ds o hS => ?_)) hm (fun _ _ _ _ _ _ us hl => match us, hl with | [_, _], _ => rfl)
  · obtain ⟨ns, at', hn, h0, h1, rfl, rfl⟩ := hS; rfl
  · obtain ⟨ns, at', hn, h0, h1, rfl, rfl⟩ := hS
    have Sc := sco_of (fnl := true) (X := cxd P w K mg base N_parts "_law_parts" (defScope (top 32)) fa cdv A outer s H E) (N := N_parts) (scp := defScope (top 32)) (vs := [0, 1, 2, 3, 4, 5, 6]) (ls := [0, 1, 2, 3, 4, 5, 6]) (gs := ["_law_letters", "_law_mixed", "enumerate"]) rfl rfl sc.nd rfl (fun _ => rfl) (by decide +kernel)
    exact bd_parts ns at' hn h0 h1 Sc hr (hr.mono (Nat.zero_le _)) C c__law_letters c__law_mixed m_enumerate
theorem ok__law_sorted (F : FnP K "_law_sorted" (top 33) fa fd) (hm : mg "_law_sorted" = some (.ref fa)) (m_sorted : mg "sorted" = none) : Cal P w K mg base (n + 1) "_law_sorted" ["_law_one", "_law_other"] SpSorted := by
  have sc : FnScope N_lo ["_law_one", "_law_other"] (defScope (top 33)) := ⟨rfl, rfl, rfl, by decide +kernel, rfl, by decide +kernel, by decide +kernel⟩
  refine cal_of F (fn_ok F sc (fun ds o hS => ?_) (by decide) (fun cdv A outer s H E hr C ds o hS => ?_)) hm (fun _ _ _ _ _ _ us hl => match us, hl with | [_, _], _ => rfl)
  · obtain ⟨a, b, ha, hb, hd, rfl, rfl⟩ := hS; rfl
  · obtain ⟨a, b, ha, hb, hd, rfl, rfl⟩ := hS
    have Sc := sco_of (fnl := true) (X := cxd P w K mg base N_lo "_law_sorted" (defScope (top 33)) fa cdv A outer s H E) (N := N_lo) (scp := defScope (top 33)) (vs := [0, 1]) (ls := [0, 1]) (gs := ["sorted"]) rfl rfl sc.nd rfl (fun _ => rfl) (by decide +kernel)
    exact bd_sorted a b ha hb hd Sc (hr.mono (Nat.zero_le _)) C m_sorted
theorem ok__law_pair (F : FnP K "_law_pair" (top 34) fa fd) (hm : mg "_law_pair" = some (.ref fa)) (c__law_parts : Cal P w K mg base n "_law_parts" ["_law_script", "_law_at"] SpParts) (c__law_form : Cal P w K mg base n "_law_form" ["_law_script", "_law_at", "_law_letters_here"] SpForm) (c__law_times : Cal P w K mg base n "_law_times" ["_law_one", "_law_other"] SpMult) (c__law_sorted : Cal P w K mg base n "_law_sorted" ["_law_one", "_law_other"] SpSorted) (c__law_either : Cal P w K mg base n "_law_either" ["_law_one", "_law_other"] SpJoin) (m_len : mg "len" = none) : Cal P w K mg base (n + 1) "_law_pair" ["_law_script", "_law_at"] SpPair := by
  have sc : FnScope N_pair ["_law_script", "_law_at"] (defScope (top 34)) := ⟨rfl, rfl, rfl, by decide +kernel, rfl, by decide +kernel, by decide +kernel⟩
  refine cal_of F (fn_ok F sc (fun ds o hS => ?_) (by decide) (fun cdv A outer s H E hr C ds o hS => ?_)) hm (fun _ _ _ _ _ _ us hl => match us, hl with | [_, _], _ => rfl)
  · obtain ⟨ns, at', hn, h0, h1, rfl, rfl⟩ := hS; rfl
  · obtain ⟨ns, at', hn, h0, h1, rfl, rfl⟩ := hS
    have Sc := sco_of (fnl := true) (X := cxd P w K mg base N_pair "_law_pair" (defScope (top 34)) fa cdv A outer s H E) (N := N_pair) (scp := defScope (top 34)) (vs := [0, 1, 2, 3, 4, 5, 6]) (ls := [0, 1, 2, 3, 4, 5, 6]) (gs := ["_law_parts", "len", "_law_form", "_law_times", "_law_sorted", "_law_either"]) rfl rfl sc.nd rfl (fun _ => rfl) (by decide +kernel)
    exact bd_pair ns at' hn h0 h1 Sc hr (hr.mono (Nat.zero_le _)) C c__law_parts c__law_form c__law_times c__law_sorted c__law_either m_len
theorem ok__law_row_well (F : FnP K "_law_row_well" (top 35) fa fd) (hm : mg "_law_row_well" = some (.ref fa)) (c__law_in : Cal P w K mg base n "_law_in" ["_law_form_here"] SpLetters) (c__law_worth : Cal P w K mg base n "_law_worth" ["_law_form_here", "_law_row"] SpWorth) (m_isinstance : mg "isinstance" = none) (m_dict : mg "dict" = none) (m_sorted : mg "sorted" = none) (m_set : mg "set" = none) (m_list : mg "list" = none) (m_all : mg "all" = none) (m_bool : mg "bool" = none) : Cal P w K mg base (n + 1) "_law_row_well" ["_law_one", "_law_other", "_law_row"] SpWell := by
  have sc : FnScope N_well ["_law_one", "_law_other", "_law_row"] (defScope (top 35)) := ⟨rfl, rfl, rfl, by decide +kernel, rfl, by decide +kernel, by decide +kernel⟩
  refine cal_of F (fn_ok F sc (fun ds o hS => ?_) (by decide) (fun cdv A outer s H E hr C ds o hS => ?_)) hm (fun _ _ _ _ _ _ us hl => match us, hl with | [_, _, _], _ => rfl)
  · obtain ⟨a, b, kv, ha, hb, hk, rfl, rfl⟩ := hS; rfl
  · obtain ⟨a, b, kv, ha, hb, hk, rfl, rfl⟩ := hS
    have Sc := sco_of (fnl := true) (X := cxd P w K mg base N_well "_law_row_well" (defScope (top 35)) fa cdv A outer s H E) (N := N_well) (scp := defScope (top 35)) (vs := [0, 1, 2, 3]) (ls := [0, 1, 2, 3]) (gs := ["_law_in", "isinstance", "dict", "sorted", "set", "list", "all", "dict", "_law_worth"]) rfl rfl sc.nd rfl (fun _ => rfl) (by decide +kernel)
    exact bd_well a b kv ha hb hk Sc hr (hr.mono (Nat.zero_le _)) C c__law_in c__law_worth m_isinstance m_dict m_sorted m_set m_list m_all m_bool
theorem ok_law (F : FnP K "law" (top 36) fa fd) (c__law_pair : Cal P w K mg base n "_law_pair" ["_law_script", "_law_at"] SpPair) (c__law_mixed : Cal P w K mg base n "_law_mixed" ["_law_script", "_law_k"] SpMixed) (c__law_letters : Cal P w K mg base n "_law_letters" ["_law_number", "_law_many"] SpLets) (c__law_form : Cal P w K mg base n "_law_form" ["_law_script", "_law_at", "_law_letters_here"] SpForm) (c__law_product : Cal P w K mg base n "_law_product" ["_law_letters_here", "_law_number"] SpProd) (c__law_in : Cal P w K mg base n "_law_in" ["_law_form_here"] SpLetters) (c__law_turned : Cal P w K mg base n "_law_turned" ["_law_products"] SpTurned) (c__law_rows : Cal P w K mg base n "_law_rows" ["_law_letters_here"] SpRows) (c__law_worth : Cal P w K mg base n "_law_worth" ["_law_form_here", "_law_row"] SpWorth) (c_between : Cal P w K mg base n "between" ["one", "other"] SpBetween) (c__law_is_form : Cal P w K mg base n "_law_is_form" ["_law_found", "_law_letters_here"] SpIsForm) (c__law_row_well : Cal P w K mg base n "_law_row_well" ["_law_one", "_law_other", "_law_row"] SpWell) (m_range : mg "range" = none) (m_list : mg "list" = none) (m_sorted : mg "sorted" = none) (m_set : mg "set" = none) (m_all : mg "all" = none) (m_isinstance : mg "isinstance" = none) (m_tuple : mg "tuple" = none) (m_len : mg "len" = none) (m_dict : mg "dict" = none) : FnOk P w K mg base (L2.CX P w) (n + 1) fa fd ["_law_script"] (spD K mg SpLaw) := by
  have sc : FnScope N_law ["_law_script"] (defScope (top 36)) := ⟨rfl, rfl, rfl, by decide +kernel, rfl, by decide +kernel, by decide +kernel⟩
  refine fn_ok F sc (fun ds o hS => ?_) (by decide) (fun cdv A outer s H E hr C ds o hS => ?_)
  · obtain ⟨ns, hn, rfl, rfl⟩ := hS; rfl
  · obtain ⟨ns, hn, rfl, rfl⟩ := hS
    have Sc := sco_of (fnl := true) (X := cxd P w K mg base N_law "law" (defScope (top 36)) fa cdv A outer s H E) (N := N_law) (scp := defScope (top 36)) (vs := [0, 1, 2, 3, 4, 5, 6, 7, 8, 9, 10]) (ls := [0, 1, 2, 3, 4, 5, 6, 7, 8, 9, 10]) (gs := ["range", "_law_pair", "_law_mixed", "_law_letters", "_law_form", "_law_product", "_law_in", "_law_turned", "list", "sorted", "set", "_law_rows", "all", "range", "between", "isinstance", "tuple", "len", "_law_is_form", "_law_row_well", "dict"]) rfl rfl sc.nd rfl (fun _ => rfl) (by decide +kernel)
    exact bd_law ns hn Sc hr (hr.mono (Nat.zero_le _)) C c__law_pair c__law_mixed c__law_letters c__law_form c__law_product c__law_in c__law_turned c__law_rows c__law_worth c_between c__law_is_form c__law_row_well m_range m_list m_sorted m_set m_all m_isinstance m_tuple m_len m_dict
end
end Fs

namespace Fs
open PySem PySem.Spec PyProof.Rows L2
def fns : List He.DefD := [⟨("gathered", none), "gathered", "gathered", defArgs (top 1), defBody (top 1), defScope (top 1), [], []⟩,
  ⟨("added", none), "added", "added", defArgs (top 2), defBody (top 2), defScope (top 2), [], []⟩,
  ⟨("both_letters", none), "both_letters", "both_letters", defArgs (top 3), defBody (top 3), defScope (top 3), [], []⟩,
  ⟨("multiplied", none), "multiplied", "multiplied", defArgs (top 4), defBody (top 4), defScope (top 4), [], []⟩,
  ⟨("opposite", none), "opposite", "opposite", defArgs (top 5), defBody (top 5), defScope (top 5), [], []⟩,
  ⟨("joined", none), "joined", "joined", defArgs (top 6), defBody (top 6), defScope (top 6), [], []⟩,
  ⟨("leads", none), "leads", "leads", defArgs (top 7), defBody (top 7), defScope (top 7), [], []⟩,
  ⟨("letters_of", none), "letters_of", "letters_of", defArgs (top 8), defBody (top 8), defScope (top 8), [], []⟩,
  ⟨("put_in", none), "put_in", "put_in", defArgs (top 12), defBody (top 12), defScope (top 12), [], []⟩,
  ⟨("fixed_at", none), "fixed_at", "fixed_at", defArgs (top 13), defBody (top 13), defScope (top 13), [], []⟩,
  ⟨("some_of", none), "some_of", "some_of", defArgs (top 14), defBody (top 14), defScope (top 14), [], []⟩,
  ⟨("every_of", none), "every_of", "every_of", defArgs (top 15), defBody (top 15), defScope (top 15), [], []⟩,
  ⟨("less", none), "less", "less", defArgs (top 17), defBody (top 17), defScope (top 17), [], []⟩,
  ⟨("true_row", none), "true_row", "true_row", defArgs (top 18), defBody (top 18), defScope (top 18), [], []⟩,
  ⟨("between", none), "between", "between", defArgs (top 19), defBody (top 19), defScope (top 19), [], []⟩,
  ⟨("_law_mixed", none), "_law_mixed", "_law_mixed", defArgs (top 21), defBody (top 21), defScope (top 21), [], []⟩,
  ⟨("_law_letters", none), "_law_letters", "_law_letters", defArgs (top 22), defBody (top 22), defScope (top 22), [], []⟩,
  ⟨("_law_product", none), "_law_product", "_law_product", defArgs (top 23), defBody (top 23), defScope (top 23), [], []⟩,
  ⟨("_law_form", none), "_law_form", "_law_form", defArgs (top 24), defBody (top 24), defScope (top 24), [], []⟩,
  ⟨("_law_rows", none), "_law_rows", "_law_rows", defArgs (top 25), defBody (top 25), defScope (top 25), [], []⟩,
  ⟨("_law_worth", none), "_law_worth", "_law_worth", defArgs (top 26), defBody (top 26), defScope (top 26), [], []⟩,
  ⟨("_law_is_form", none), "_law_is_form", "_law_is_form", defArgs (top 27), defBody (top 27), defScope (top 27), [], []⟩,
  ⟨("_law_turned", none), "_law_turned", "_law_turned", defArgs (top 28), defBody (top 28), defScope (top 28), [], []⟩,
  ⟨("_law_times", none), "_law_times", "_law_times", defArgs (top 29), defBody (top 29), defScope (top 29), [], []⟩,
  ⟨("_law_either", none), "_law_either", "_law_either", defArgs (top 30), defBody (top 30), defScope (top 30), [], []⟩,
  ⟨("_law_in", none), "_law_in", "_law_in", defArgs (top 31), defBody (top 31), defScope (top 31), [], []⟩,
  ⟨("_law_parts", none), "_law_parts", "_law_parts", defArgs (top 32), defBody (top 32), defScope (top 32), [], []⟩,
  ⟨("_law_sorted", none), "_law_sorted", "_law_sorted", defArgs (top 33), defBody (top 33), defScope (top 33), [], []⟩,
  ⟨("_law_pair", none), "_law_pair", "_law_pair", defArgs (top 34), defBody (top 34), defScope (top 34), [], []⟩,
  ⟨("_law_row_well", none), "_law_row_well", "_law_row_well", defArgs (top 35), defBody (top 35), defScope (top 35), [], []⟩,
  ⟨("law", none), "law", "law", defArgs (top 36), defBody (top 36), defScope (top 36), [], []⟩]
def fas : List He.Fa := [.glo "gathered", .glo "added", .glo "both_letters", .glo "multiplied", .glo "opposite", .glo "joined", .glo "leads", .glo "letters_of", .glo "put_in", .glo "fixed_at", .glo "some_of", .glo "every_of", .glo "less", .glo "true_row", .glo "between", .glo "_law_mixed", .glo "_law_letters", .glo "_law_product", .glo "_law_form", .glo "_law_rows", .glo "_law_worth", .glo "_law_is_form", .glo "_law_turned", .glo "_law_times", .glo "_law_either", .glo "_law_in", .glo "_law_parts", .glo "_law_sorted", .glo "_law_pair", .glo "_law_row_well", .glo "law", .glo "ALWAYS", .glo "NEVER", .free "sorted", .free "tuple", .free "list", .free "set", .free "len", .free "range", .free "min", .free "enumerate", .free "dict", .free "all", .free "isinstance", .free "str", .free "bool"]
def nms : List PySem.Str := ["gathered", "added", "both_letters", "multiplied", "opposite", "joined", "leads", "letters_of", "ALWAYS", "NEVER", "put_in", "fixed_at", "some_of", "every_of", "less", "true_row", "between", "_law_mixed", "_law_letters", "_law_product", "_law_form", "_law_rows", "_law_worth", "_law_is_form", "_law_turned", "_law_times", "_law_either", "_law_in", "_law_parts", "_law_sorted", "_law_pair", "_law_row_well"]
abbrev R : PySem.W.OpenRow := PySem.W.OpenLaw.row PySem.Challenge.rw_fillsay_k85_rows_that_part
/-- the facts, and two tuples -/
def tupsB (K : PySem.W.Frag) : Bool := He.tupB K "ALWAYS" [.str ""] && He.tupB K "NEVER" []
def obT (K : PySem.W.Frag) : He.AlD × Bool := (He.obsD fas fns K, tupsB K)
def obG (g : Addr → Option Obj) : He.AlD × Bool := obT (He.frG g (He.asD g 4))
def hkT : PySem.W.Hook where
  α := He.AlD × Bool
  obs := fun s => obG s.heap.get?
  val := fun _ => (He.valD fns, true)
  says := fun _ h => ∃ K : PySem.W.Frag, K.In h ∧ He.SaysD fas fns K ∧ tupsB K = true
  of := fun _ s e => ⟨He.frG s.heap.get? (He.asD s.heap.get? 4), He.frG_in, congrArg (fun z : He.AlD × Bool => z.1) e, congrArg (fun z : He.AlD × Bool => z.2) e⟩
  keeps := fun _ _ _ ⟨K, hK, c⟩ k => ⟨K, PySem.W.Frag.In.keeps hK k, c⟩
def ob (s : PySem.W.SharedT) : He.AlD × Bool := obG (HandSHeadRun.getT s)
theorem ob_eq (s : PySem.W.SharedT) : ob s = hkT.obs s.abs := by
  show obG (HandSHeadRun.getT s) = obG s.abs.heap.get?
  rw [show HandSHeadRun.getT s = s.abs.heap.get? from funext (HandSHeadRun.getT_eq s)]
theorem run (w : World) : HandSHeadRun.RunEq R (PySem.W.view R.prog [36]) hkT ob 1200 nms w := by
  intro os
  kernel_rfl
theorem gv_tup {K : PySem.W.Frag} {mg : Str → Option Value} {x : Str} {vs : List He.Dv} {ds : List D} (hm : mg x = some (.ref (He.ga K x))) (h : He.tupB K x vs = true) (hr : ∀ S, Rps K S ds (vs.map (He.Dv.v K))) : Gv K mg x (.tup ds) :=
  ⟨_, .ref (He.ga K x), hm, rfl, fun S => ⟨_, _, rfl, He.tupB_ok h S, hr S⟩⟩
theorem rps_of_ints {K : PySem.W.Frag} {S : Hp} : ∀ ns : List Int, Rps K S (ns.map .int) (ns.map V.int)
  | [] => rfl
  | n :: ns => ⟨_, _, rfl, rfl, rps_of_ints ns⟩
theorem facts {P : Program} {w : World} {K : PySem.W.Frag} {h : Heap} {mg : Str → Option Value} {f : Addr} (X : K.In h) (G : h.Ns mainGlobals mg) (hfa : mg ("law" : Str) = some (.ref f)) (c : He.SaysD fas fns K) (ct : tupsB K = true) :
    ∃ fd : FuncData, (∀ (s : Shared) (v : Value), BindsTo s fd ⟨[v], []⟩ [("_law_script", v)]) ∧ ∀ base : Heap, K.In base → base.Ns mainGlobals mg → FnOk P w K mg base CX0 7 f fd ["_law_script"] (fun vs H Q _ => ∃ (a : Addr) (ns : List Int), vs = [.ref a] ∧ ns.length ≤ 63 ∧ SqL K H a (ns.map V.int) ∧ ∀ H', Q (.bl true) H') := by
  obtain ⟨fd0, F0⟩ := c.def_ 0 (d := fns[0]) rfl
  obtain ⟨fd1, F1⟩ := c.def_ 1 (d := fns[1]) rfl
  obtain ⟨fd2, F2⟩ := c.def_ 2 (d := fns[2]) rfl
  obtain ⟨fd3, F3⟩ := c.def_ 3 (d := fns[3]) rfl
  obtain ⟨fd4, F4⟩ := c.def_ 4 (d := fns[4]) rfl
  obtain ⟨fd5, F5⟩ := c.def_ 5 (d := fns[5]) rfl
  obtain ⟨fd6, F6⟩ := c.def_ 6 (d := fns[6]) rfl
  obtain ⟨fd7, F7⟩ := c.def_ 7 (d := fns[7]) rfl
  obtain ⟨fd8, F8⟩ := c.def_ 8 (d := fns[8]) rfl
  obtain ⟨fd9, F9⟩ := c.def_ 9 (d := fns[9]) rfl
  obtain ⟨fd10, F10⟩ := c.def_ 10 (d := fns[10]) rfl
  obtain ⟨fd11, F11⟩ := c.def_ 11 (d := fns[11]) rfl
  obtain ⟨fd12, F12⟩ := c.def_ 12 (d := fns[12]) rfl
  obtain ⟨fd13, F13⟩ := c.def_ 13 (d := fns[13]) rfl
  obtain ⟨fd14, F14⟩ := c.def_ 14 (d := fns[14]) rfl
  obtain ⟨fd15, F15⟩ := c.def_ 15 (d := fns[15]) rfl
  obtain ⟨fd16, F16⟩ := c.def_ 16 (d := fns[16]) rfl
  obtain ⟨fd17, F17⟩ := c.def_ 17 (d := fns[17]) rfl
  obtain ⟨fd18, F18⟩ := c.def_ 18 (d := fns[18]) rfl
  obtain ⟨fd19, F19⟩ := c.def_ 19 (d := fns[19]) rfl
  obtain ⟨fd20, F20⟩ := c.def_ 20 (d := fns[20]) rfl
  obtain ⟨fd21, F21⟩ := c.def_ 21 (d := fns[21]) rfl
  obtain ⟨fd22, F22⟩ := c.def_ 22 (d := fns[22]) rfl
  obtain ⟨fd23, F23⟩ := c.def_ 23 (d := fns[23]) rfl
  obtain ⟨fd24, F24⟩ := c.def_ 24 (d := fns[24]) rfl
  obtain ⟨fd25, F25⟩ := c.def_ 25 (d := fns[25]) rfl
  obtain ⟨fd26, F26⟩ := c.def_ 26 (d := fns[26]) rfl
  obtain ⟨fd27, F27⟩ := c.def_ 27 (d := fns[27]) rfl
  obtain ⟨fd28, F28⟩ := c.def_ 28 (d := fns[28]) rfl
  obtain ⟨fd29, F29⟩ := c.def_ 29 (d := fns[29]) rfl
  obtain ⟨fd30, F30⟩ := c.def_ 30 (d := fns[30]) rfl
  have m_sorted := He.free_ok X G (c.fact 33 (f := .free "sorted") rfl)
  have m_tuple := He.free_ok X G (c.fact 34 (f := .free "tuple") rfl)
  have m_list := He.free_ok X G (c.fact 35 (f := .free "list") rfl)
  have m_set := He.free_ok X G (c.fact 36 (f := .free "set") rfl)
  have m_len := He.free_ok X G (c.fact 37 (f := .free "len") rfl)
  have m_range := He.free_ok X G (c.fact 38 (f := .free "range") rfl)
  have m_min := He.free_ok X G (c.fact 39 (f := .free "min") rfl)
  have m_enumerate := He.free_ok X G (c.fact 40 (f := .free "enumerate") rfl)
  have m_dict := He.free_ok X G (c.fact 41 (f := .free "dict") rfl)
  have m_all := He.free_ok X G (c.fact 42 (f := .free "all") rfl)
  have m_isinstance := He.free_ok X G (c.fact 43 (f := .free "isinstance") rfl)
  have m_str := He.free_ok X G (c.fact 44 (f := .free "str") rfl)
  have m_bool := He.free_ok X G (c.fact 45 (f := .free "bool") rfl)
  have n0 := He.glo_ok X G (c.fact 0 (f := .glo "gathered") rfl)
  have n1 := He.glo_ok X G (c.fact 1 (f := .glo "added") rfl)
  have n2 := He.glo_ok X G (c.fact 2 (f := .glo "both_letters") rfl)
  have n3 := He.glo_ok X G (c.fact 3 (f := .glo "multiplied") rfl)
  have n4 := He.glo_ok X G (c.fact 4 (f := .glo "opposite") rfl)
  have n5 := He.glo_ok X G (c.fact 5 (f := .glo "joined") rfl)
  have n6 := He.glo_ok X G (c.fact 6 (f := .glo "leads") rfl)
  have n7 := He.glo_ok X G (c.fact 7 (f := .glo "letters_of") rfl)
  have n8 := He.glo_ok X G (c.fact 8 (f := .glo "put_in") rfl)
  have n9 := He.glo_ok X G (c.fact 9 (f := .glo "fixed_at") rfl)
  have n10 := He.glo_ok X G (c.fact 10 (f := .glo "some_of") rfl)
  have n11 := He.glo_ok X G (c.fact 11 (f := .glo "every_of") rfl)
  have n12 := He.glo_ok X G (c.fact 12 (f := .glo "less") rfl)
  have n13 := He.glo_ok X G (c.fact 13 (f := .glo "true_row") rfl)
  have n14 := He.glo_ok X G (c.fact 14 (f := .glo "between") rfl)
  have n15 := He.glo_ok X G (c.fact 15 (f := .glo "_law_mixed") rfl)
  have n16 := He.glo_ok X G (c.fact 16 (f := .glo "_law_letters") rfl)
  have n17 := He.glo_ok X G (c.fact 17 (f := .glo "_law_product") rfl)
  have n18 := He.glo_ok X G (c.fact 18 (f := .glo "_law_form") rfl)
  have n19 := He.glo_ok X G (c.fact 19 (f := .glo "_law_rows") rfl)
  have n20 := He.glo_ok X G (c.fact 20 (f := .glo "_law_worth") rfl)
  have n21 := He.glo_ok X G (c.fact 21 (f := .glo "_law_is_form") rfl)
  have n22 := He.glo_ok X G (c.fact 22 (f := .glo "_law_turned") rfl)
  have n23 := He.glo_ok X G (c.fact 23 (f := .glo "_law_times") rfl)
  have n24 := He.glo_ok X G (c.fact 24 (f := .glo "_law_either") rfl)
  have n25 := He.glo_ok X G (c.fact 25 (f := .glo "_law_in") rfl)
  have n26 := He.glo_ok X G (c.fact 26 (f := .glo "_law_parts") rfl)
  have n27 := He.glo_ok X G (c.fact 27 (f := .glo "_law_sorted") rfl)
  have n28 := He.glo_ok X G (c.fact 28 (f := .glo "_law_pair") rfl)
  have n29 := He.glo_ok X G (c.fact 29 (f := .glo "_law_row_well") rfl)
  have n30 := He.glo_ok X G (c.fact 30 (f := .glo "law") rfl)
  have n31 := He.glo_ok X G (c.fact 31 (f := .glo "ALWAYS") rfl)
  have n32 := He.glo_ok X G (c.fact 32 (f := .glo "NEVER") rfl)
  have ct' := Bool.and_eq_true_iff.mp ct
  have g_ALWAYS : Gv K mg "ALWAYS" (frm [[]]) := gv_tup n31 ct'.1 fun S => ⟨_, _, rfl, by show V.str _ = V.str _; rw [empty_S], rfl⟩
  have g_NEVER : Gv K mg "NEVER" (frm []) := gv_tup n32 ct'.2 fun S => rfl
  have e := hfa.symm.trans n30
  cases e
  have b := FunD.bindsA (ps := ["_law_script"]) F30 fun _ _ _ _ _ _ us hl => match us, hl with | [_], _ => rfl
  refine ⟨fd30, fun s v => b s [v] rfl, fun base _ _ => ?_⟩
  have cgathered : Cal P w K mg base 1 "gathered" ["products"] SpGathered := ok_gathered (n := 0) F0 n0 m_sorted m_tuple
  have cadded : Cal P w K mg base 2 "added" ["one", "other"] SpAdded := ok_added (n := 1) F1 n1 cgathered m_list
  have cboth_letters : Cal P w K mg base 1 "both_letters" ["one", "other"] SpBoth := ok_both_letters (n := 0) F2 n2 m_sorted m_set
  have cmultiplied : Cal P w K mg base 2 "multiplied" ["one", "other"] SpMult := ok_multiplied (n := 1) F3 n3 cgathered cboth_letters
  have copposite : Cal P w K mg base 3 "opposite" ["form"] SpOpp := ok_opposite (n := 2) F4 n4 cadded
  have cjoined : Cal P w K mg base 3 "joined" ["one", "other"] SpJoin := ok_joined (n := 2) F5 n5 cadded cmultiplied
  have cleads : Cal P w K mg base 4 "leads" ["one", "other"] SpLeads := ok_leads (n := 3) F6 n6 copposite (cmultiplied.mono (by decide))
  have cletters_of : Cal P w K mg base 1 "letters_of" ["form"] SpLetters := ok_letters_of (n := 0) F7 n7 m_sorted m_set
  have cput_in : Cal P w K mg base 3 "put_in" ["form", "forms"] SpPut := ok_put_in (n := 2) F8 n8 cadded cmultiplied g_ALWAYS g_NEVER
  have cfixed_at : Cal P w K mg base 4 "fixed_at" ["form", "letter", "truth"] SpFix := ok_fixed_at (n := 3) F9 n9 cput_in g_ALWAYS g_NEVER
  have csome_of : Cal P w K mg base 5 "some_of" ["form", "letters"] SpSome := ok_some_of (n := 4) F10 n10 (cjoined.mono (by decide)) cfixed_at
  have cevery_of : Cal P w K mg base 5 "every_of" ["form", "letters"] SpEvery := ok_every_of (n := 4) F11 n11 (cmultiplied.mono (by decide)) cfixed_at
  have cless : Cal P w K mg base 1 "less" ["letters", "others"] SpLess := ok_less (n := 0) F12 n12 
  have ctrue_row : Cal P w K mg base 5 "true_row" ["form", "letters"] SpRow := ok_true_row (n := 4) F13 n13 cfixed_at
  have cbetween : Cal P w K mg base 6 "between" ["one", "other"] SpBetween := ok_between (n := 5) F14 n14 (cletters_of.mono (by decide)) (cleads.mono (by decide)) csome_of (cless.mono (by decide)) cevery_of ctrue_row (cmultiplied.mono (by decide)) (copposite.mono (by decide)) m_sorted m_set
  have c_law_mixed : Cal P w K mg base 1 "_law_mixed" ["_law_script", "_law_k"] SpMixed := ok__law_mixed (n := 0) F15 n15 m_len m_range m_min
  have c_law_letters : Cal P w K mg base 1 "_law_letters" ["_law_number", "_law_many"] SpLets := ok__law_letters (n := 0) F16 n16 m_list m_len
  have c_law_product : Cal P w K mg base 1 "_law_product" ["_law_letters_here", "_law_number"] SpProd := ok__law_product (n := 0) F17 n17 
  have c_law_form : Cal P w K mg base 2 "_law_form" ["_law_script", "_law_at", "_law_letters_here"] SpForm := ok__law_form (n := 1) F18 n18 c_law_mixed c_law_product m_len m_tuple m_sorted m_set m_enumerate m_range
  have c_law_rows : Cal P w K mg base 1 "_law_rows" ["_law_letters_here"] SpRows := ok__law_rows (n := 0) F19 n19 m_dict
  have c_law_worth : Cal P w K mg base 1 "_law_worth" ["_law_form_here", "_law_row"] SpWorth := ok__law_worth (n := 0) F20 n20 m_all
  have c_law_is_form : Cal P w K mg base 1 "_law_is_form" ["_law_found", "_law_letters_here"] SpIsForm := ok__law_is_form (n := 0) F21 n21 m_isinstance m_tuple m_all m_str m_list m_sorted m_set
  have c_law_turned : Cal P w K mg base 1 "_law_turned" ["_law_products"] SpTurned := ok__law_turned (n := 0) F22 n22 m_tuple m_sorted
  have c_law_times : Cal P w K mg base 2 "_law_times" ["_law_one", "_law_other"] SpMult := ok__law_times (n := 1) F23 n23 c_law_turned m_sorted m_set
  have c_law_either : Cal P w K mg base 3 "_law_either" ["_law_one", "_law_other"] SpJoin := ok__law_either (n := 2) F24 n24 (c_law_turned.mono (by decide)) c_law_times m_list
  have c_law_in : Cal P w K mg base 1 "_law_in" ["_law_form_here"] SpLetters := ok__law_in (n := 0) F25 n25 
  have c_law_parts : Cal P w K mg base 2 "_law_parts" ["_law_script", "_law_at"] SpParts := ok__law_parts (n := 1) F26 n26 c_law_letters c_law_mixed m_enumerate
  have c_law_sorted : Cal P w K mg base 1 "_law_sorted" ["_law_one", "_law_other"] SpSorted := ok__law_sorted (n := 0) F27 n27 m_sorted
  have c_law_pair : Cal P w K mg base 4 "_law_pair" ["_law_script", "_law_at"] SpPair := ok__law_pair (n := 3) F28 n28 (c_law_parts.mono (by decide)) (c_law_form.mono (by decide)) (c_law_times.mono (by decide)) (c_law_sorted.mono (by decide)) c_law_either m_len
  have c_law_row_well : Cal P w K mg base 2 "_law_row_well" ["_law_one", "_law_other", "_law_row"] SpWell := ok__law_row_well (n := 1) F29 n29 c_law_in c_law_worth m_isinstance m_dict m_sorted m_set m_list m_all m_bool
  refine FnOk.no (sp := spD K mg SpLaw) (ok_law (n := 6) F30 (c_law_pair.mono (by decide)) (c_law_mixed.mono (by decide)) (c_law_letters.mono (by decide)) (c_law_form.mono (by decide)) (c_law_product.mono (by decide)) (c_law_in.mono (by decide)) (c_law_turned.mono (by decide)) (c_law_rows.mono (by decide)) (c_law_worth.mono (by decide)) cbetween (c_law_is_form.mono (by decide)) (c_law_row_well.mono (by decide)) m_range m_list m_sorted m_set m_all m_isinstance m_tuple m_len m_dict) fun vs H Q E hq => ?_
  obtain ⟨a, ns, rfl, hn, hS, q⟩ := hq
  refine ⟨H, [], [scr ns], .ok (.fz (.bl true)), HI.start H, ⟨.ref a, [], rfl, ⟨a, _, rfl, hS, rps_of_ints ns⟩, rfl⟩, ⟨ns, hn, rfl, rfl⟩, fun v H' S' G sm hi ht => ?_⟩
  rw [show v = .bl true from ht.1]
  exact q H'
end Fs
open PySem PySem.W PySem.Calls PyProof.Rows
theorem PySem.Challenge.cw_fillsay_k85_rows_that_part_holds : PySem.Challenge.rw_fillsay_k85_rows_that_part.Holds := by
  w_on; o_law
  refine HandSHeadRun.head_any (r := OpenLaw.row PySem.Challenge.rw_fillsay_k85_rows_that_part) (q := view (OpenLaw.row PySem.Challenge.rw_fillsay_k85_rows_that_part).prog [36]) (H := Fs.hkT) (ob := Fs.ob) (M := 1200) (loose := Fs.nms) (d := HandSHeadRun.topDef (OpenLaw.row PySem.Challenge.rw_fillsay_k85_rows_that_part).prog 36) (kwd := []) Fs.ob_eq
    (by kernel_rfl) (fun s => by kernel_rfl) Fs.run (by kernel_rfl) (by kernel_rfl) (by kernel_rfl) (by rfl) (by first | assumption | decide +kernel) (by decide +kernel) ⟨rfl, rfl, rfl, rfl, rfl, by decide +kernel⟩ ?hw ?hc
  case hw => w_witness2
  case hc =>
    refine L2.walk_ofE (l := PySem.Challenge.rw_fillsay_k85_rows_that_part) (n := 63) (k := 7) (x := "_law_script") (CX := L2.CX0) rfl (by decide) (by kernel_rfl) ⟨rfl, by decide, by decide⟩ ?F (fun _ _ _ _ z => z)
    intro w mg fa h Y G hmg0
    obtain ⟨K, KX, c, ct⟩ := Y
    have hmg : mg ("law" : PySem.Str) = some (.ref fa) := by
      have e : (HandSHeadRun.topDef (OpenLaw.row PySem.Challenge.rw_fillsay_k85_rows_that_part).prog 36).name = ("law" : PySem.Str) := by kernel_rfl
      rw [← e]
      exact hmg0
    obtain ⟨fd, hb, hF⟩ := Fs.facts (P := (PySem.Challenge.rw_fillsay_k85_rows_that_part).prog) (w := w) KX G hmg c ct
    exact ⟨K, fd, _, KX, hb, fun H a ns hl _ hS => ⟨a, ns, rfl, hl, hS, fun _ => rfl⟩, hF⟩

