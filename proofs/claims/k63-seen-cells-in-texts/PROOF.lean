import PyProof.Rows.All
import Wide.All
import OpenK.AllK
import Wide.FinOn
import HandS.ForMost
import HandS.Exc
import HandS.TryOnly
import HandS.WordsExc
import HandS.Flow
import HandS.Wide
import HandS.FStr
import HandS.Style
import HandS.More
import HandS.CallSlots
import HandS.ExcOwn
import PyProof.EqAt
import PyProof.EqKinds
import PyProof.NeKinds
import KE.KExcSuper
import KE.KSuper
import HandS.ExcInit
import HandS.ExcField
import HandS.ExcIs
import HandS.Star
import HandS.EndBits
import PyProof.ReprRoads
import PyProof.FitsInt
import HandS.Replace
import HandS.ReplaceLit
import PyProof.Rows.StrMul
import KE.IntTextLaws
import KE.IntTextText
import KE.KIntText
import KE.RegKSuper
import KE.RegKIsAll
import PySem.Challenge.RW_grownrows_k63_seen_cells_in_texts
set_option Elab.async false
set_option linter.all false
set_option maxRecDepth 100000
/-! DL0: data, what stands for it, the store, the judgements on data. -/
namespace DL
open PySem PySem.Spec PyProof.Rows L2
/-- deep data; adr: an object that may change (it stands in the store) -/
inductive D where
  | non | bl (b : Bool) | int (i : Int) | str (x : Str)
  | lst (xs : List D) | tup (xs : List D) | dic (kvs : List (Key × D)) | ins (C : Addr) (fs : List (Str × D)) | adr (a : Addr)
  | ty (n : String) | scr (ns : List Int) | err (a dx : Addr) (d : D)
abbrev DEnv := List (Option D)
section
variable (K : PySem.W.Frag) (F : Hp)
mutual
def Rep : D → V → Prop
  | .non, v => v = .non
  | .bl b, v => v = .bl b
  | .int i, v => v = .int i
  | .str x, v => v = .str x
  | .ty n, v => v = .ty n
  | .lst ds, v => ∃ a vs, v = .ref a ∧ F a = some (.lst vs) ∧ RepL ds vs
  | .scr ns, v => ∃ a, v = .ref a ∧ SqL K F a (ns.map V.int)
  | .err a dx d, v => v = .ref a ∧ ∃ u, F dx = some (.xd [("value", u)]) ∧ Rep d u
  | .tup ds, v => ∃ a vs, v = .ref a ∧ SqT K F a vs ∧ RepL ds vs
  | .dic kds, v => ∃ a kvs, v = .ref a ∧ Rd F a (.dK kvs) ∧ RepK kds kvs
  | .ins C fds, v => ∃ a dx fs, v = .ref a ∧ F a = some (.ins C dx fs) ∧ RepF fds fs
  | .adr a, v => v = .ref a
def RepL : List D → List V → Prop
  | [], vs => vs = []
  | d :: ds, vs => ∃ v r, vs = v :: r ∧ Rep d v ∧ RepL ds r
def RepK : List (Key × D) → List (Key × V) → Prop
  | [], vs => vs = []
  | (k, d) :: ds, vs => ∃ v r, vs = (k, v) :: r ∧ Rep d v ∧ RepK ds r
def RepF : List (Str × D) → List (Str × V) → Prop
  | [], vs => vs = []
  | (k, d) :: ds, vs => ∃ v r, vs = (k, v) :: r ∧ Rep d v ∧ RepF ds r
end
end
/-- an object of the store -/
inductive MO where
  | lst (xs : List D) | dic (kvs : List (Key × D)) | ins (C : Addr) (fs : List (Str × D)) | oth (u : HO) | sm (φ : HO → Prop)
abbrev MS := List (Addr × MO)
def MRep (K : PySem.W.Frag) (F : Hp) : MO → HO → Prop
  | .lst ds, u => ∃ vs, u = .lst vs ∧ RepL K F ds vs
  | .dic kds, u => ∃ kvs, u = .dK kvs ∧ RepK K F kds kvs
  | .ins C fds, u => ∃ dx fs, u = .ins C dx fs ∧ RepF K F fds fs
  | .oth w, u => u = w
  | .sm φ, u => φ u

/-! ### the frozen part grows -/
def isDk : HO → Bool
  | .dK _ => true
  | .dT _ => true
  | _ => false
structure Le (F F' : Hp) : Prop where
  nd : ∀ a o, F a = some o → isDk o = false → F' a = some o
  dk : ∀ a o, F a = some o → isDk o = true → Rd F' a o
theorem Le.refl (F : Hp) : Le F F := ⟨fun _ _ h _ => h, fun _ _ h _ => .inl h⟩
theorem Le.rd {F F' : Hp} (e : Le F F') {a : Addr} {u : HO} (h : Rd F a u) : Rd F' a u := by
  rcases h with h | ⟨o, h⟩
  · cases hu : isDk u with
    | true => exact e.dk a u h hu
    | false => exact .inl (e.nd a u h hu)
  · exact .inr ⟨o, e.nd a _ h rfl⟩
theorem Le.trans {F F1 F2 : Hp} (e : Le F F1) (f : Le F1 F2) : Le F F2 :=
  ⟨fun a o h hu => f.nd a o (e.nd a o h hu) hu, fun a o h hu => f.rd (e.dk a o h hu)⟩
theorem Le.new {F : Hp} {p : Addr} {o : HO} (h : F p = none) : Le F (upd F p o) :=
  ⟨fun a u e _ => by rw [upd_ne (ne_of_none e h)]; exact e, fun a u e _ => .inl (by rw [upd_ne (ne_of_none e h)]; exact e)⟩
theorem Le.sqL {K : PySem.W.Frag} {F F' : Hp} (e : Le F F') {a : Addr} {vs : List V} (h : SqL K F a vs) : SqL K F' a vs := h.elim (fun h => .inl (e.rd h)) .inr
theorem Le.sqT {K : PySem.W.Frag} {F F' : Hp} (e : Le F F') {a : Addr} {vs : List V} (h : SqT K F a vs) : SqT K F' a vs := h.elim (fun h => .inl (e.rd h)) .inr
section
variable {K : PySem.W.Frag} {F F' : Hp}
mutual
theorem Rep.mono (e : Le F F') : ∀ {d : D} {v : V}, Rep K F d v → Rep K F' d v
  | .non, _, h => h
  | .bl _, _, h => h
  | .int _, _, h => h
  | .str _, _, h => h
  | .ty _, _, h => h
  | .adr _, _, h => h
  | .lst _, _, ⟨a, vs, h1, h2, h3⟩ => ⟨a, vs, h1, e.nd _ _ h2 rfl, RepL.mono e h3⟩
  | .scr _, _, ⟨a, h1, h2⟩ => ⟨a, h1, e.sqL h2⟩
  | .err _ _ _, _, ⟨h1, u, h2, h3⟩ => ⟨h1, u, e.nd _ _ h2 rfl, Rep.mono e h3⟩
  | .tup _, _, ⟨a, vs, h1, h2, h3⟩ => ⟨a, vs, h1, e.sqT h2, RepL.mono e h3⟩
  | .dic _, _, ⟨a, vs, h1, h2, h3⟩ => ⟨a, vs, h1, e.rd h2, RepK.mono e h3⟩
  | .ins _ _, _, ⟨a, dx, fs, h1, h2, h3⟩ => ⟨a, dx, fs, h1, e.nd _ _ h2 rfl, RepF.mono e h3⟩
theorem RepL.mono (e : Le F F') : ∀ {ds : List D} {vs : List V}, RepL K F ds vs → RepL K F' ds vs
  | [], _, h => h
  | _ :: _, _, ⟨v, r, h1, h2, h3⟩ => ⟨v, r, h1, Rep.mono e h2, RepL.mono e h3⟩
theorem RepK.mono (e : Le F F') : ∀ {ds : List (Key × D)} {vs : List (Key × V)}, RepK K F ds vs → RepK K F' ds vs
  | [], _, h => h
  | (_, _) :: _, _, ⟨v, r, h1, h2, h3⟩ => ⟨v, r, h1, Rep.mono e h2, RepK.mono e h3⟩
theorem RepF.mono (e : Le F F') : ∀ {ds : List (Str × D)} {vs : List (Str × V)}, RepF K F ds vs → RepF K F' ds vs
  | [], _, h => h
  | (_, _) :: _, _, ⟨v, r, h1, h2, h3⟩ => ⟨v, r, h1, Rep.mono e h2, RepF.mono e h3⟩
end
theorem MRep.mono (e : Le F F') : ∀ {o : MO} {u : HO}, MRep K F o u → MRep K F' o u
  | .lst _, _, ⟨vs, h1, h2⟩ => ⟨vs, h1, h2.mono e⟩
  | .dic _, _, ⟨vs, h1, h2⟩ => ⟨vs, h1, h2.mono e⟩
  | .ins _ _, _, ⟨dx, fs, h1, h2⟩ => ⟨dx, fs, h1, h2.mono e⟩
  | .oth _, _, h => h
  | .sm _, _, h => h
theorem RepL.length : ∀ {ds : List D} {vs : List V}, RepL K F ds vs → vs.length = ds.length
  | [], _, h => by cases h; rfl
  | _ :: _, _, ⟨v, r, h1, _, h3⟩ => by cases h1; rw [List.length_cons, List.length_cons, RepL.length h3]
theorem RepL.get : ∀ {ds : List D} {vs : List V} {i : Nat} {d : D}, RepL K F ds vs → ds[i]? = some d → ∃ v, vs[i]? = some v ∧ Rep K F d v
  | [], _, _, _, _, e => by simp at e
  | _ :: _, _, 0, _, ⟨v, r, h1, h2, _⟩, e => by cases h1; simp at e; subst e; exact ⟨v, rfl, h2⟩
  | _ :: _, _, i + 1, _, ⟨v, r, h1, _, h3⟩, e => by
    cases h1
    obtain ⟨w, q1, q2⟩ := RepL.get (i := i) h3 (by simpa using e)
    exact ⟨w, by simpa using q1, q2⟩
theorem RepL.geti : ∀ {ds : List D} {vs : List V} {i : Nat} {v : V}, RepL K F ds vs → vs[i]? = some v → ∃ d, ds[i]? = some d ∧ Rep K F d v := fun {ds vs i v} h e => by
  have hl := h.length
  have hi : i < vs.length := (List.getElem?_eq_some_iff.mp e).1
  obtain ⟨w, q1, q2⟩ := h.get (List.getElem?_eq_getElem (show i < ds.length by omega))
  rw [e] at q1
  cases q1
  exact ⟨_, List.getElem?_eq_getElem (show i < ds.length by omega), q2⟩
theorem RepL.append : ∀ {ds es : List D} {vs ws : List V}, RepL K F ds vs → RepL K F es ws → RepL K F (ds ++ es) (vs ++ ws)
  | [], _, _, _, h, g => by cases h; exact g
  | _ :: _, _, _, _, ⟨v, r, h1, h2, h3⟩, g => by cases h1; exact ⟨v, _, rfl, h2, RepL.append h3 g⟩
theorem RepL.one {d : D} {v : V} (h : Rep K F d v) : RepL K F [d] [v] := ⟨v, [], rfl, h, rfl⟩
theorem RepL.set : ∀ {ds : List D} {vs : List V} {d : D} {v : V} (i : Nat), RepL K F ds vs → Rep K F d v → RepL K F (ds.set i d) (vs.set i v)
  | [], _, _, _, _, h, _ => by cases h; rfl
  | _ :: _, _, _, v, 0, ⟨_, r, h1, _, h3⟩, g => by cases h1; exact ⟨v, r, rfl, g, h3⟩
  | _ :: _, _, _, _, i + 1, ⟨v, r, h1, h2, h3⟩, g => by cases h1; exact ⟨v, _, rfl, h2, RepL.set i h3 g⟩
theorem RepL.take : ∀ {ds : List D} {vs : List V} (n : Nat), RepL K F ds vs → RepL K F (ds.take n) (vs.take n)
  | _, _, 0, _ => rfl
  | [], _, _ + 1, h => by cases h; rfl
  | _ :: _, _, n + 1, ⟨v, r, h1, h2, h3⟩ => by cases h1; exact ⟨v, _, rfl, h2, RepL.take n h3⟩
theorem RepL.drop : ∀ {ds : List D} {vs : List V} (n : Nat), RepL K F ds vs → RepL K F (ds.drop n) (vs.drop n)
  | _, _, 0, h => h
  | [], _, _ + 1, h => by cases h; rfl
  | _ :: _, _, n + 1, ⟨v, r, h1, _, h3⟩ => by cases h1; exact RepL.drop n h3
theorem RepL.ints : ∀ {ns : List Int} {vs : List V}, RepL K F (ns.map D.int) vs → vs = ns.map V.int
  | [], _, h => h
  | n :: ns, _, ⟨v, r, h1, h2, h3⟩ => by cases h1; cases h2; rw [RepL.ints h3]; rfl
theorem RepL.of_ints : ∀ (ns : List Int), RepL K F (ns.map D.int) (ns.map V.int)
  | [] => rfl
  | n :: ns => ⟨_, _, rfl, rfl, RepL.of_ints ns⟩
theorem RepL.strs : ∀ {ns : List Str} {vs : List V}, RepL K F (ns.map D.str) vs → vs = ns.map V.str
  | [], _, h => h
  | n :: ns, _, ⟨v, r, h1, h2, h3⟩ => by cases h1; cases h2; rw [RepL.strs h3]; rfl
theorem RepL.of_strs : ∀ (ns : List Str), RepL K F (ns.map D.str) (ns.map V.str)
  | [] => rfl
  | n :: ns => ⟨_, _, rfl, rfl, RepL.of_strs ns⟩
theorem RepL.bools : ∀ {ns : List Bool} {vs : List V}, RepL K F (ns.map D.bl) vs → vs = ns.map V.bl
  | [], _, h => h
  | n :: ns, _, ⟨v, r, h1, h2, h3⟩ => by cases h1; cases h2; rw [RepL.bools h3]; rfl
end

/-! ### the store -/
structure Sep (K : PySem.W.Frag) (F : Hp) (ms : MS) (H : Hp) : Prop where
  ex : ∀ a o, F a = some o → H a = some o
  at_ : ∀ p ∈ ms, F p.1 = none ∧ ∃ u, H p.1 = some u ∧ MRep K F p.2 u
  nd : (ms.map (·.1)).Nodup
section
variable {K : PySem.W.Frag} {F F' H : Hp} {ms : MS} {p : Addr} {o : MO} {u : HO}
theorem Sep.get (S : Sep K F ms H) {i : Nat} (h : ms[i]? = some (p, o)) : F p = none ∧ ∃ u, H p = some u ∧ MRep K F o u := S.at_ (p, o) (List.mem_of_getElem? h)
theorem Sep.rd (S : Sep K F ms H) {a : Addr} {u : HO} (h : Rd F a u) : Rd H a u := h.elim (fun h => .inl (S.ex _ _ h)) fun ⟨o, h⟩ => .inr ⟨o, S.ex _ _ h⟩
theorem Sep.sqL (S : Sep K F ms H) {a : Addr} {vs : List V} (h : SqL K F a vs) : SqL K H a vs := h.elim (fun h => .inl (S.rd h)) .inr
theorem Sep.sqT (S : Sep K F ms H) {a : Addr} {vs : List V} (h : SqT K F a vs) : SqT K H a vs := h.elim (fun h => .inl (S.rd h)) .inr
theorem Sep.free (S : Sep K F ms H) (h : H p = none) : F p = none := by
  cases e : F p with
  | none => rfl
  | some q => rw [S.ex _ _ e] at h; cases h
theorem Sep.notin (S : Sep K F ms H) (h : H p = none) : p ∉ ms.map (·.1) := fun hp => by
  obtain ⟨q, hq, e⟩ := List.mem_map.mp hp
  obtain ⟨_, u, hu, _⟩ := S.at_ q hq
  rw [e, h] at hu
  cases hu
/-- a new object that may change -/
theorem Sep.new (S : Sep K F ms H) (h : H p = none) (r : MRep K F o u) : Sep K F ((p, o) :: ms) (upd H p u) where
  ex := fun a w e => by
    have ne : a ≠ p := fun z => by rw [z, S.free h] at e; cases e
    rw [upd_ne ne]; exact S.ex a w e
  at_ := fun q hq => by
    rcases List.mem_cons.mp hq with rfl | hq
    · exact ⟨S.free h, u, upd_same, r⟩
    · obtain ⟨h1, w, h2, h3⟩ := S.at_ q hq
      exact ⟨h1, w, by rw [upd_ne (ne_of_none h2 h)]; exact h2, h3⟩
  nd := List.nodup_cons.mpr ⟨S.notin h, S.nd⟩
/-- a new object that stays -/
theorem Sep.newF (S : Sep K F ms H) (h : H p = none) : Sep K (upd F p u) ms (upd H p u) where
  ex := fun a w e => by
    by_cases ha : a = p
    · subst ha; rw [upd_same] at e ⊢; exact e
    · rw [upd_ne ha] at e ⊢; exact S.ex a w e
  at_ := fun q hq => by
    obtain ⟨h1, w, h2, h3⟩ := S.at_ q hq
    have ne := ne_of_none h2 h
    exact ⟨by rw [upd_ne ne]; exact h1, w, by rw [upd_ne ne]; exact h2, h3.mono (Le.new (S.free h))⟩
  nd := S.nd
/-- an untracked change: an address that nobody speaks of -/
theorem Sep.newU (S : Sep K F ms H) (h : H p = none) : Sep K F ms (upd H p u) where
  ex := fun a w e => by
    have ne : a ≠ p := fun z => by rw [z, S.free h] at e; cases e
    rw [upd_ne ne]; exact S.ex a w e
  at_ := fun q hq => by
    obtain ⟨h1, w, h2, h3⟩ := S.at_ q hq
    exact ⟨h1, w, by rw [upd_ne (ne_of_none h2 h)]; exact h2, h3⟩
  nd := S.nd
theorem map_fst_set {ms : MS} {i : Nat} {p : Addr} {o o' : MO} (h : ms[i]? = some (p, o)) : (ms.set i (p, o')).map (·.1) = ms.map (·.1) := by
  rw [List.map_set]
  apply List.ext_getElem?
  intro j
  rw [List.getElem?_set]
  split
  · next e =>
    subst e
    rw [List.getElem?_map, h]
    have hi : i < ms.length := (List.getElem?_eq_some_iff.mp h).1
    simp [hi]
  · rfl
theorem Sep.apart (S : Sep K F ms H) {i : Nat} (h : ms[i]? = some (p, o)) {q : Addr × MO} {j : Nat} (hq : ms[j]? = some q) (hij : i ≠ j) : q.1 ≠ p := fun z => by
  have hi : i < ms.length := (List.getElem?_eq_some_iff.mp h).1
  have hj : j < ms.length := (List.getElem?_eq_some_iff.mp hq).1
  have e1 : (ms.map (·.1))[i]? = some p := by rw [List.getElem?_map, h]; rfl
  have e2 : (ms.map (·.1))[j]? = some p := by rw [List.getElem?_map, hq, ← z]; rfl
  exact hij ((List.getElem?_inj (by rw [List.length_map]; exact hi) S.nd).mp (e1.trans e2.symm))
/-- an object of the store is changed -/
theorem Sep.set (S : Sep K F ms H) {i : Nat} {o' : MO} {u' : HO} (h : ms[i]? = some (p, o)) (r : MRep K F o' u') : Sep K F (ms.set i (p, o')) (upd H p u') where
  ex := fun a w e => by
    have ne : a ≠ p := fun z => by rw [z, (S.get h).1] at e; cases e
    rw [upd_ne ne]; exact S.ex a w e
  at_ := fun q hq => by
    obtain ⟨j, hj, e⟩ := List.getElem_of_mem hq
    rw [List.length_set] at hj
    rw [List.getElem_set] at e
    split at e
    · subst e; exact ⟨(S.get h).1, u', upd_same, r⟩
    · next hij =>
      have hq' : ms[j]? = some q := by rw [List.getElem?_eq_getElem hj, e]
      obtain ⟨h1, w, h2, h3⟩ := S.at_ q (List.mem_of_getElem? hq')
      exact ⟨h1, w, by rw [upd_ne (S.apart h hq' hij)]; exact h2, h3⟩
  nd := by rw [map_fst_set h]; exact S.nd
/-- an object of the store stays from now on -/
theorem Sep.freeze (S : Sep K F ms H) {i : Nat} (h : ms[i]? = some (p, o)) : ∃ u, Le F (upd F p u) ∧ Sep K (upd F p u) (ms.eraseIdx i) H ∧ MRep K F o u := by
  obtain ⟨h0, u, hu, r⟩ := S.get h
  refine ⟨u, Le.new h0, ⟨fun a w e => ?_, fun q hq => ?_, ?_⟩, r⟩
  · by_cases ha : a = p
    · subst ha; rw [upd_same] at e; cases e; exact hu
    · rw [upd_ne ha] at e; exact S.ex a w e
  · obtain ⟨j, hj⟩ := List.mem_iff_getElem?.mp hq
    rw [List.getElem?_eraseIdx] at hj
    have : ∃ k, ms[k]? = some q ∧ i ≠ k := by
      split at hj
      · exact ⟨j, hj, by omega⟩
      · exact ⟨j + 1, hj, by omega⟩
    obtain ⟨k, hk, hik⟩ := this
    obtain ⟨h1, w, h2, h3⟩ := S.at_ q (List.mem_of_getElem? hk)
    exact ⟨by rw [upd_ne (S.apart h hk hik)]; exact h1, w, h2, h3.mono (Le.new h0)⟩
  · have : ((ms.eraseIdx i).map (·.1)).Sublist (ms.map (·.1)) := (List.eraseIdx_sublist _ _).map _
    exact S.nd.sublist this
/-- an object of the store is let go -/
theorem Sep.drop (S : Sep K F ms H) (i : Nat) : Sep K F (ms.eraseIdx i) H where
  ex := S.ex
  at_ := fun q hq => S.at_ q (List.mem_of_mem_eraseIdx hq)
  nd := by
    have : ((ms.eraseIdx i).map (·.1)).Sublist (ms.map (·.1)) := (List.eraseIdx_sublist _ _).map _
    exact S.nd.sublist this
end

/-- what the store says may be said otherwise -/
def MLe (K : PySem.W.Frag) (ms ms' : MS) : Prop := ∀ F H, Sep K F ms H → Sep K F ms' H
section
variable {K : PySem.W.Frag} {ms ms1 ms2 : MS} {p : Addr} {o o' : MO}
theorem MLe.refl (K : PySem.W.Frag) (ms : MS) : MLe K ms ms := fun _ _ h => h
theorem MLe.trans (a : MLe K ms ms1) (b : MLe K ms1 ms2) : MLe K ms ms2 := fun F H h => b F H (a F H h)
theorem MLe.perm (h : ms.Perm ms1) : MLe K ms ms1 := fun F H S => ⟨S.ex, fun q hq => S.at_ q (h.mem_iff.mpr hq), (h.map (·.1)).nodup_iff.mp S.nd⟩
theorem perm_front {α : Type} : ∀ {l : List α} {i : Nat} {x : α}, l[i]? = some x → l.Perm (x :: l.eraseIdx i)
  | [], _, _, h => by simp at h
  | y :: l, 0, x, h => by simp at h; subst h; exact List.Perm.refl _
  | y :: l, i + 1, x, h => by
    have h' : l[i]? = some x := by simpa using h
    exact ((perm_front h').cons y).trans (List.Perm.swap x y _)
theorem MLe.drop (i : Nat) : MLe K ms (ms.eraseIdx i) := fun F H S => S.drop i
theorem MLe.tail {q : Addr × MO} : MLe K (q :: ms) ms := fun F H S => S.drop 0
/-- the object at the front is told otherwise -/
theorem MLe.head (h : ∀ F u, MRep K F o u → MRep K F o' u) : MLe K ((p, o) :: ms) ((p, o') :: ms) := fun F H S => by
  refine ⟨S.ex, fun q hq => ?_, ?_⟩
  · rcases List.mem_cons.mp hq with rfl | hq
    · obtain ⟨h1, u, h2, h3⟩ := S.at_ (p, o) List.mem_cons_self
      exact ⟨h1, u, h2, h F u h3⟩
    · exact S.at_ q (List.mem_cons_of_mem _ hq)
  · exact S.nd
theorem MLe.cons {q : Addr × MO} (h : MLe K ms ms1) (hs : ∀ a ∈ ms1.map (·.1), a ∈ ms.map (·.1)) : MLe K (q :: ms) (q :: ms1) := fun F H S => by
  have T := h F H (S.drop 0)
  refine ⟨S.ex, fun r hr => ?_, List.nodup_cons.mpr ⟨fun z => (List.nodup_cons.mp S.nd).1 (hs _ z), T.nd⟩⟩
  rcases List.mem_cons.mp hr with rfl | hr
  · exact S.at_ _ List.mem_cons_self
  · exact T.at_ r hr
end

/-! ### slots -/
structure SR (K : PySem.W.Frag) (F : Hp) (ds : DEnv) (σ : L2.St) : Prop where
  len : ds.length = σ.length
  at_ : ∀ (i : Nat) (d : D), ds[i]? = some (some d) → ∃ v, σ[i]? = some (some v) ∧ Rep K F d v
section
variable {K : PySem.W.Frag} {F F' : Hp} {ds : DEnv} {σ : L2.St}
theorem SR.mono (e : Le F F') (h : SR K F ds σ) : SR K F' ds σ := ⟨h.len, fun i d q => let ⟨v, h1, h2⟩ := h.at_ i d q; ⟨v, h1, h2.mono e⟩⟩
theorem SR.set (h : SR K F ds σ) (i : Nat) {d : D} {v : V} (r : Rep K F d v) : SR K F (ds.set i (some d)) (σ.set i (some v)) := by
  refine ⟨by rw [List.length_set, List.length_set, h.len], fun j e q => ?_⟩
  rw [List.getElem?_set] at q
  split at q
  · next hij =>
    subst hij
    split at q
    · next hl =>
      cases q
      exact ⟨v, by rw [List.getElem?_set_self (by rw [← h.len]; exact hl)], r⟩
    · cases q
  · next hij =>
    obtain ⟨w, h1, h2⟩ := h.at_ j e q
    exact ⟨w, by rw [List.getElem?_set_ne hij]; exact h1, h2⟩
/-- a slot is forgotten -/
theorem SR.setN (h : SR K F ds σ) (i : Nat) (x : Option V) : SR K F (ds.set i none) (σ.set i x) := by
  refine ⟨by rw [List.length_set, List.length_set, h.len], fun j e q => ?_⟩
  rw [List.getElem?_set] at q
  split at q
  · split at q
    · cases q
    · cases q
  · next hij =>
    obtain ⟨w, h1, h2⟩ := h.at_ j e q
    exact ⟨w, by rw [List.getElem?_set_ne hij]; exact h1, h2⟩
theorem SR.forget (h : SR K F ds σ) {es : DEnv} (hl : es.length = ds.length) (hs : ∀ (i : Nat) (d : D), es[i]? = some (some d) → ds[i]? = some (some d)) : SR K F es σ :=
  ⟨by rw [hl, h.len], fun i d q => h.at_ i d (hs i d q)⟩
end

/-! ### wishes -/
/-- what is wanted of a value | of an exception: its class, the value it holds, slots, store -/
abbrev DK := D → MS → Prop
abbrev DX := Addr → D → DEnv → MS → Prop
def VC (K : PySem.W.Frag) (F : Hp) (kd : DK) (Q : VK) : Prop := ∀ F' v d ms' H', Le F F' → Rep K F' d v → Sep K F' ms' H' → kd d ms' → Q v H'
def VCs (K : PySem.W.Frag) (F : Hp) (kd : List D → MS → Prop) (Q : List V → Hp → Prop) : Prop := ∀ F' vs ds ms' H', Le F F' → RepL K F' ds vs → Sep K F' ms' H' → kd ds ms' → Q vs H'
def VCb (K : PySem.W.Frag) (F : Hp) (kb : Bool → MS → Prop) (Q : Bool → Hp → Prop) : Prop := ∀ F' b ms' H', Le F F' → Sep K F' ms' H' → kb b ms' → Q b H'
def VCe (K : PySem.W.Frag) (F : Hp) (ke : DEnv → MS → Prop) (Q : L2.St → Hp → Prop) : Prop := ∀ F' ds' σ' ms' H', Le F F' → SR K F' ds' σ' → Sep K F' ms' H' → ke ds' ms' → Q σ' H'
def XC (K : PySem.W.Frag) (F : Hp) (xw : DX) (W : WX) : Prop :=
  ∀ F' C dx dv v ds' σ' ms' H', Le F F' → SR K F' ds' σ' → Rep K F' dv v → Sep K F' ms' H' → F' dx = some (.xd [("value", v)]) → xw C dv ds' ms' → W (.ref C) (some dx) σ' H'
structure DEnds where
  nx : DEnv → MS → Prop
  rt : DK
  bk : DEnv → MS → Prop := fun _ _ => False
  ct : DEnv → MS → Prop := fun _ _ => False
structure EC (K : PySem.W.Frag) (F : Hp) (E : DEnds) (D : Ends) : Prop where
  nx : VCe K F E.nx D.nx
  rt : VC K F E.rt D.rt
  bk : VCe K F E.bk D.bk
  ct : VCe K F E.ct D.ct
section
variable {K : PySem.W.Frag} {F F' : Hp}
theorem VC.mono (e : Le F F') {kd : DK} {Q : VK} (h : VC K F kd Q) : VC K F' kd Q := fun F2 v d ms H a => h F2 v d ms H (e.trans a)
theorem VCs.mono (e : Le F F') {kd : List D → MS → Prop} {Q : List V → Hp → Prop} (h : VCs K F kd Q) : VCs K F' kd Q := fun F2 v d ms H a => h F2 v d ms H (e.trans a)
theorem VCb.mono (e : Le F F') {kd : Bool → MS → Prop} {Q : Bool → Hp → Prop} (h : VCb K F kd Q) : VCb K F' kd Q := fun F2 v ms H a => h F2 v ms H (e.trans a)
theorem VCe.mono (e : Le F F') {kd : DEnv → MS → Prop} {Q : L2.St → Hp → Prop} (h : VCe K F kd Q) : VCe K F' kd Q := fun F2 v d ms H a => h F2 v d ms H (e.trans a)
theorem XC.mono (e : Le F F') {xw : DX} {W : WX} (h : XC K F xw W) : XC K F' xw W := fun F2 C dx dv v ds' σ' ms' H' a => h F2 C dx dv v ds' σ' ms' H' (e.trans a)
theorem EC.mono (e : Le F F') {E : DEnds} {D : Ends} (h : EC K F E D) : EC K F' E D := ⟨h.nx.mono e, h.rt.mono e, h.bk.mono e, h.ct.mono e⟩
end

/-! ### the strongest readings -/
def wE (X : Cx) (e : Expr) : TE := fun σ H Q => ∀ pins s, Inv X pins σ H s → wpAny (model X.prog X.w) X.A (eval e X.env) (EP X pins σ Q) X.xe s
def wT (X : Cx) (e : Expr) : TT := fun σ H Q => ∀ pins s, Inv X pins σ H s → wpAny (model X.prog X.w) X.A (isTrue e X.env (eval e X.env)) (TP X pins σ Q) X.xe s
def wW (X : Cx) (e : Expr) : TT := fun σ H Q => ∀ pins s, Inv X pins σ H s → ∀ whole, wpAny (model X.prog X.w) X.A (isTrue e X.env whole) (TP X pins σ Q) X.xe s
def wS (X : Cx) (st : Stmt) : TS := fun D σ H => ∀ pins s, Inv X pins σ H s → wpAny (model X.prog X.w) X.A (exec st X.env) (SP X pins D) X.xe s
def wSs (X : Cx) (st : List Stmt) : TS := fun D σ H => ∀ pins s, Inv X pins σ H s → wpAny (model X.prog X.w) X.A (execs st X.env) (SP X pins D) X.xe s
def wA (X : Cx) (es : List Expr) : TA := fun σ H Q => ∀ (pos : Pos) pins s, Inv X pins σ H s → wpAny (model X.prog X.w) X.A (spliced (backTo pos (starEach es X.env))) (AP X pins σ Q) X.xe s
theorem pe_w {X : Cx} {e : Expr} : PE X e (wE X e) := ⟨fun pins s σ H Q I h => h pins s I⟩
theorem pt_w {X : Cx} {e : Expr} : PT X e (wT X e) := ⟨fun pins s σ H Q I h => h pins s I⟩
theorem pw_w {X : Cx} {e : Expr} : PW X e (wW X e) := ⟨fun whole pins s σ H Q I h => h pins s I whole⟩
theorem ps_w {X : Cx} {e : Stmt} : PS X e (wS X e) := ⟨fun pins s σ H D I h => h pins s I⟩
theorem pss_w {X : Cx} {e : List Stmt} : PSs X e (wSs X e) := ⟨fun pins s σ H D I h => h pins s I⟩
theorem pa_w {X : Cx} {es : List Expr} : PA X es (wA X es) := ⟨fun pos pins s σ H Q I h => h pos pins s I⟩

/-! ### the judgements on data -/
/-- what stands around an evaluation -/
structure At (X : Cx) (xw : DX) (F : Hp) (ds : DEnv) (σ : L2.St) (ms : MS) (H : Hp) (W : WX) : Prop where
  sr : SR X.K F ds σ
  sep : Sep X.K F ms H
  tk : Takes X W
  xc : XC X.K F xw W
theorem At.mv {X : Cx} {xw : DX} {F F' : Hp} {ds : DEnv} {σ : L2.St} {ms ms' : MS} {H H' : Hp} {W : WX} (a : At X xw F ds σ ms H W) (e : Le F F') (S : Sep X.K F' ms' H') : At X xw F' ds σ ms' H' W := ⟨a.sr.mono e, S, a.tk, a.xc.mono e⟩
theorem At.mvE {X : Cx} {xw : DX} {F F' : Hp} {ds ds' : DEnv} {σ σ' : L2.St} {ms ms' : MS} {H H' : Hp} {W : WX} (a : At X xw F ds σ ms H W) (e : Le F F') (r : SR X.K F' ds' σ') (S : Sep X.K F' ms' H') : At X xw F' ds' σ' ms' H' W := ⟨r, S, a.tk, a.xc.mono e⟩
def DE (X : Cx) (xw : DX) (e : Expr) (ds : DEnv) (ms : MS) (kd : DK) : Prop := ∀ F σ H Q W, At X xw F ds σ ms H W → VC X.K F kd Q → wE X e σ H Q
def DT (X : Cx) (xw : DX) (e : Expr) (ds : DEnv) (ms : MS) (kb : Bool → MS → Prop) : Prop := ∀ F σ H Q W, At X xw F ds σ ms H W → VCb X.K F kb Q → wT X e σ H Q
def DW (X : Cx) (xw : DX) (e : Expr) (ds : DEnv) (ms : MS) (kb : Bool → MS → Prop) : Prop := ∀ F σ H Q W, At X xw F ds σ ms H W → VCb X.K F kb Q → wW X e σ H Q
def DA (X : Cx) (xw : DX) (es : List Expr) (ds : DEnv) (ms : MS) (kd : List D → MS → Prop) : Prop := ∀ F σ H Q W, At X xw F ds σ ms H W → VCs X.K F kd Q → wA X es σ H Q
def DS (X : Cx) (xw : DX) (st : Stmt) (ds : DEnv) (ms : MS) (E : DEnds) : Prop := ∀ F σ H D W, At X xw F ds σ ms H W → EC X.K F E D → wS X st D σ H
def DSs (X : Cx) (xw : DX) (st : List Stmt) (ds : DEnv) (ms : MS) (E : DEnds) : Prop := ∀ F σ H D W, At X xw F ds σ ms H W → EC X.K F E D → wSs X st D σ H
end DL

/-! DL1: rules on data for expressions. -/
namespace DL
open PySem PySem.Spec PyProof.Rows L2

inductive Nm : List Str → DEnv → Str → Nat → D → Prop
  | z {x : Str} {ns : List Str} {d : D} {ds : DEnv} : Nm (x :: ns) (some d :: ds) x 0 d
  | s {x y : Str} {ns : List Str} {o : Option D} {ds : DEnv} {i : Nat} {d : D} : Nm ns ds x i d → Nm (y :: ns) (o :: ds) x (i + 1) d
theorem Nm.at {ns : List Str} {ds : DEnv} {x : Str} {i : Nat} {d : D} (h : Nm ns ds x i d) : ns[i]? = some x ∧ ds[i]? = some (some d) := by
  induction h with
  | z => exact ⟨rfl, rfl⟩
  | s _ ih => exact ⟨by simpa using ih.1, by simpa using ih.2⟩
/-- the place of a name among the names -/
inductive Ix : List Str → Str → Nat → Prop
  | z {x : Str} {ns : List Str} : Ix (x :: ns) x 0
  | s {x y : Str} {ns : List Str} {i : Nat} : Ix ns x i → Ix (y :: ns) x (i + 1)
theorem Ix.at {ns : List Str} {x : Str} {i : Nat} (h : Ix ns x i) : ns[i]? = some x := by
  induction h with
  | z => rfl
  | s _ ih => simpa using ih
/-- ds with d at place i, written out -/
inductive Put : DEnv → Nat → Option D → DEnv → Prop
  | z {o d : Option D} {ds : DEnv} : Put (o :: ds) 0 d (d :: ds)
  | s {o d : Option D} {ds es : DEnv} {i : Nat} : Put ds i d es → Put (o :: ds) (i + 1) d (o :: es)
theorem Put.eq {ds es : DEnv} {i : Nat} {d : Option D} (h : Put ds i d es) : es = ds.set i d := by
  induction h with
  | z => rfl
  | s _ ih => rw [ih]; rfl
theorem ex_put {ds es : DEnv} {i : Nat} {d : Option D} {Q : DEnv → Prop} (h : Put ds i d es) (q : Q es) : ∃ ds', Put ds i d ds' ∧ Q ds' := ⟨es, h, q⟩
/-- the i-th object of the store -/
inductive Ms : MS → Nat → Addr → MO → Prop
  | z {a : Addr} {o : MO} {ms : MS} : Ms ((a, o) :: ms) 0 a o
  | s {a : Addr} {o : MO} {q : Addr × MO} {ms : MS} {i : Nat} : Ms ms i a o → Ms (q :: ms) (i + 1) a o
theorem Ms.at {ms : MS} {i : Nat} {a : Addr} {o : MO} (h : Ms ms i a o) : ms[i]? = some (a, o) := by
  induction h with
  | z => rfl
  | s _ ih => simpa using ih
inductive MPut : MS → Nat → MO → MS → Prop
  | z {a : Addr} {o o' : MO} {ms : MS} : MPut ((a, o) :: ms) 0 o' ((a, o') :: ms)
  | s {q : Addr × MO} {o' : MO} {ms ms' : MS} {i : Nat} : MPut ms i o' ms' → MPut (q :: ms) (i + 1) o' (q :: ms')
theorem MPut.eq {ms ms' : MS} {i : Nat} {o' : MO} (h : MPut ms i o' ms') : ∃ a o, ms[i]? = some (a, o) ∧ ms' = ms.set i (a, o') := by
  induction h with
  | z => exact ⟨_, _, rfl, rfl⟩
  | s _ ih =>
    obtain ⟨a, o, h1, h2⟩ := ih
    exact ⟨a, o, by simpa using h1, by rw [h2]; rfl⟩
inductive MDel : MS → Nat → MS → Prop
  | z {q : Addr × MO} {ms : MS} : MDel (q :: ms) 0 ms
  | s {q : Addr × MO} {ms ms' : MS} {i : Nat} : MDel ms i ms' → MDel (q :: ms) (i + 1) (q :: ms')
theorem MDel.eq {ms ms' : MS} {i : Nat} (h : MDel ms i ms') : ms' = ms.eraseIdx i := by
  induction h with
  | z => rfl
  | s _ ih => rw [ih]; rfl

theorem MLe.del {K : PySem.W.Frag} {ms ms' : MS} {i : Nat} (h : MDel ms i ms') : MLe K ms ms' := by rw [h.eq]; exact MLe.drop i
/-- what holds of a context -/
structure Ctx (X : Cx) (N : List Str) (k : Nat) : Prop where
  names : X.N = N
  nd : N.Nodup
  calm : X.calm = true
  room : Room k X.A
theorem Ctx.hu {X : Cx} {N : List Str} {k : Nat} (C : Ctx X N k) : X.A.units + 1 < cLine := hu_of C.room
theorem Ctx.ix {X : Cx} {N : List Str} {k : Nat} (C : Ctx X N k) {x : Str} {i : Nat} (h : Ix N x i) : X.N[i]? = some x := by rw [C.names]; exact h.at
theorem Ctx.ndX {X : Cx} {N : List Str} {k : Nat} (C : Ctx X N k) : X.N.Nodup := by rw [C.names]; exact C.nd

section
variable {X : Cx} {xw : DX} {N : List Str} {k : Nat} {ds : DEnv} {ms : MS} {kd : DK} {kb : Bool → MS → Prop} {e a b c : Expr} {pos : Pos}

theorem DE.of {t : TE} (h : PE X e t) (q : ∀ F σ H Q W, At X xw F ds σ ms H W → VC X.K F kd Q → t σ H Q) : DE X xw e ds ms kd :=
  fun F σ H Q W a v pins s I => h.run pins s σ H Q I (q F σ H Q W a v)
theorem DT.of {t : TT} (h : PT X e t) (q : ∀ F σ H Q W, At X xw F ds σ ms H W → VCb X.K F kb Q → t σ H Q) : DT X xw e ds ms kb :=
  fun F σ H Q W a v pins s I => h.run pins s σ H Q I (q F σ H Q W a v)
theorem DW.of {t : TT} (h : PW X e t) (q : ∀ F σ H Q W, At X xw F ds σ ms H W → VCb X.K F kb Q → t σ H Q) : DW X xw e ds ms kb :=
  fun F σ H Q W a v pins s I wh => h.run wh pins s σ H Q I (q F σ H Q W a v)
theorem dt_bool {op} {es : List Expr} (h : DW X xw (.BoolOp op es pos) ds ms kb) : DT X xw (.BoolOp op es pos) ds ms kb := fun F σ H Q W a v pins s I => h F σ H Q W a v pins s I _
theorem DW.dt (h : DW X xw e ds ms kb) : DT X xw e ds ms kb := fun F σ H Q W a v pins s I => h F σ H Q W a v pins s I _
theorem VC.val {K : PySem.W.Frag} {F H : Hp} {Q : VK} {d : D} {v : V} (V : VC K F kd Q) (S : Sep K F ms H) (r : Rep K F d v) (q : kd d ms) : Q v H := V F v d ms H (Le.refl F) r S q
theorem DE.imp {kd' : DK} (h : DE X xw e ds ms kd') (i : ∀ d ms', kd' d ms' → kd d ms') : DE X xw e ds ms kd :=
  fun F σ H Q W a v => h F σ H Q W a fun F' w d ms' H' e r S q => v F' w d ms' H' e r S (i d ms' q)

/-! ### names, constants -/
theorem de_name (C : Ctx X N k) {x : Str} {i : Nat} {d : D} (h : Nm N ds x i d) (hv : Vis X.env.scope x) (hd : (x == ("__debug__" : Str)) = false) (hcd : (x == ("__classdict__" : Str)) = false) (q : kd d ms) : DE X xw (.Name x pos) ds ms kd :=
  .of (pe_var (i := i) (by rw [C.names]; exact h.at.1) hv hd hcd) fun F σ H Q W A V => by
    obtain ⟨v, h1, h2⟩ := A.sr.at_ i d h.at.2
    exact ⟨v, h1, V.val A.sep h2 q⟩
theorem de_int {i : Int} {j} (q : kd (.int i) ms) : DE X xw (.Constant (.int i) j pos) ds ms kd := .of pe_int fun F σ H Q W A V => V.val (d := .int i) A.sep rfl q
theorem de_bl {i : Bool} {j} (q : kd (.bl i) ms) : DE X xw (.Constant (.bool i) j pos) ds ms kd := .of pe_bl fun F σ H Q W A V => V.val (d := .bl i) A.sep rfl q
theorem de_non {j} (q : kd .non ms) : DE X xw (.Constant .none j pos) ds ms kd := .of pe_non fun F σ H Q W A V => V.val (d := .non) A.sep rfl q
theorem de_str {x : Str} {j} (q : kd (.str x) ms) : DE X xw (.Constant (.str x) j pos) ds ms kd := .of pe_str fun F σ H Q W A V => V.val (d := .str x) A.sep rfl q
/-- a module's constant -/
theorem de_glob {x : Str} {d : D} {v : V} {u : Value} (hm : X.mg x = some u) (r : RelV v u) (hg : Gl X x) (hd : (x == ("__debug__" : Str)) = false) (hr : ∀ F, Rep X.K F d v) (q : kd d ms) : DE X xw (.Name x pos) ds ms kd :=
  .of (pe_glob hg hm r hd) fun F σ H Q W A V => V.val A.sep (hr F) q

theorem de_globI {x : Str} {i : Int} {t : Tok} (hm : X.mg x = some (.int i t)) (hg : Gl X x) (hd : (x == ("__debug__" : Str)) = false) (q : kd (.int i) ms) : DE X xw (.Name x pos) ds ms kd := de_glob (d := .int i) (v := .int i) hm ⟨t, rfl⟩ hg hd (fun _ => rfl) q
theorem de_globS {x i : Str} {t : Tok} (hm : X.mg x = some (.str i t)) (hg : Gl X x) (hd : (x == ("__debug__" : Str)) = false) (q : kd (.str i) ms) : DE X xw (.Name x pos) ds ms kd := de_glob (d := .str i) (v := .str i) hm ⟨t, rfl⟩ hg hd (fun _ => rfl) q
/-! ### operators by their values -/
def wOp (X : Cx) (f : Value → Value → Sem Value) : R2 := fun x y H Q => ∀ pins s σ v u, Inv X pins σ H s → RelV x v → RelV y u → wpAny (model X.prog X.w) X.A (f v u) (EP X pins σ Q) X.xe s
theorem opr_w {f : Value → Value → Sem Value} : OpR X f (wOp X f) := fun pins s σ H x y v u Q I rx ry h => h pins s σ v u I rx ry
def OpD (X : Cx) (f : Value → Value → Sem Value) (x y : D) (ms : MS) (kd : DK) : Prop := ∀ F v u H Q, Rep X.K F x v → Rep X.K F y u → Sep X.K F ms H → VC X.K F kd Q → wOp X f v u H Q
theorem OpD.of {f : Value → Value → Sem Value} {r : R2} {x y : D} (ho : OpR X f r) (q : ∀ F v u H Q, Rep X.K F x v → Rep X.K F y u → Sep X.K F ms H → VC X.K F kd Q → r v u H Q) : OpD X f x y ms kd :=
  fun F v u H Q rv ru S V pins s σ v' u' I r1 r2 => ho pins s σ H v u v' u' Q I r1 r2 (q F v u H Q rv ru S V)
def wUn (X : Cx) (f : Value → Sem Value) : V → Hp → VK → Prop := fun x H Q => ∀ pins s σ v, Inv X pins σ H s → RelV x v → wpAny (model X.prog X.w) X.A (f v) (EP X pins σ Q) X.xe s
theorem unr_w {f : Value → Sem Value} : UnR X f (wUn X f) := fun pins s σ H x v Q I rx h => h pins s σ v I rx
def UnD (X : Cx) (f : Value → Sem Value) (x : D) (ms : MS) (kd : DK) : Prop := ∀ F v H Q, Rep X.K F x v → Sep X.K F ms H → VC X.K F kd Q → wUn X f v H Q
theorem UnD.of {f : Value → Sem Value} {r : V → Hp → VK → Prop} {x : D} (ho : UnR X f r) (q : ∀ F v H Q, Rep X.K F x v → Sep X.K F ms H → VC X.K F kd Q → r v H Q) : UnD X f x ms kd :=
  fun F v H Q rv S V pins s σ v' I r1 => ho pins s σ H v v' Q I r1 (q F v H Q rv S V)

theorem de_bin {op : Operator} (h : DE X xw a ds ms fun x ms1 => DE X xw b ds ms1 fun y ms2 => OpD X (binaryOp op) x y ms2 kd) : DE X xw (.BinOp a op b pos) ds ms kd :=
  .of (pe_op (opr_w (f := binaryOp op)) pe_w pe_w) fun F σ H Q W A V => h F σ H _ W A fun F1 x d ms1 H1 e1 r1 S1 k1 => k1 F1 σ H1 _ W (A.mv e1 S1) fun F2 y d2 ms2 H2 e2 r2 S2 k2 =>
    k2 F2 x y H2 Q (r1.mono e2) r2 S2 (V.mono (e1.trans e2))
theorem de_un {op : UnaryOp} (h : DE X xw a ds ms fun x ms1 => UnD X (unaryOp op) x ms1 kd) : DE X xw (.UnaryOp op a pos) ds ms kd :=
  .of (pe_un (unr_w (f := unaryOp op)) pe_w) fun F σ H Q W A V => h F σ H _ W A fun F1 x d ms1 H1 e1 r1 S1 k1 => k1 F1 x H1 Q r1 S1 (V.mono e1)
theorem de_cmp {op : CmpOp} (h : DE X xw a ds ms fun x ms1 => DE X xw b ds ms1 fun y ms2 => OpD X (compareOp op) x y ms2 kd) (hm : behindInMarks op b = false) : DE X xw (.Compare a [op] [b] pos) ds ms kd :=
  .of (pe_cmpR (opr_w (f := compareOp op)) pe_w pe_w hm) fun F σ H Q W A V => h F σ H _ W A fun F1 x d ms1 H1 e1 r1 S1 k1 => k1 F1 σ H1 _ W (A.mv e1 S1) fun F2 y d2 ms2 H2 e2 r2 S2 k2 =>
    k2 F2 x y H2 Q (r1.mono e2) r2 S2 (V.mono (e1.trans e2))
theorem dt_cmp {op : CmpOp} (h : DE X xw a ds ms fun x ms1 => DE X xw b ds ms1 fun y ms2 => OpD X (compareOp op) x y ms2 fun d ms3 => ∃ k, d = .bl k ∧ kb k ms3) (hm : behindInMarks op b = false) : DT X xw (.Compare a [op] [b] pos) ds ms kb :=
  .of (pt_cmpR (opr_w (f := compareOp op)) pe_w pe_w hm) fun F σ H Q W A V => h F σ H _ W A fun F1 x d ms1 H1 e1 r1 S1 k1 => k1 F1 σ H1 _ W (A.mv e1 S1) fun F2 y d2 ms2 H2 e2 r2 S2 k2 =>
    k2 F2 x y H2 _ (r1.mono e2) r2 S2 fun F3 z d3 ms3 H3 e3 r3 S3 ⟨k, ek, qk⟩ => by
      subst ek
      exact ⟨k, r3, V F3 k ms3 H3 ((e1.trans e2).trans e3) S3 qk⟩
/-- a op b op' c -/
theorem de_chain {op op' : CmpOp} (h : DE X xw a ds ms fun x ms1 => DE X xw b ds ms1 fun y ms2 => OpD X (compareOp op) x y ms2 fun d ms3 => ∃ k, d = .bl k ∧ (k = true → DE X xw c ds ms3 fun z ms4 => OpD X (compareOp op') y z ms4 kd) ∧ (k = false → kd (.bl false) ms3))
    (hm : lastMarks [op, op'] [b, c] = false) : DE X xw (.Compare a [op, op'] [b, c] pos) ds ms kd :=
  .of (pe_chain (opr_w (f := compareOp op)) (opr_w (f := compareOp op')) pe_w pe_w pe_w hm) fun F σ H Q W A V => h F σ H _ W A fun F1 x d ms1 H1 e1 r1 S1 k1 => k1 F1 σ H1 _ W (A.mv e1 S1) fun F2 y d2 ms2 H2 e2 r2 S2 k2 =>
    k2 F2 x y H2 _ (r1.mono e2) r2 S2 fun F3 z d3 ms3 H3 e3 r3 S3 ⟨k, ek, q1, q0⟩ => by
      subst ek
      refine ⟨k, r3, ?_⟩
      cases k with
      | true => exact q1 rfl F3 σ H3 _ W (A.mv ((e1.trans e2).trans e3) S3) fun F4 w d4 ms4 H4 e4 r4 S4 k4 => k4 F4 y w H4 Q ((r2.mono e3).mono e4) r4 S4 (V.mono (((e1.trans e2).trans e3).trans e4))
      | false => exact V F3 (.bl false) (.bl false) ms3 H3 ((e1.trans e2).trans e3) rfl S3 (q0 rfl)
theorem dt_chain {op op' : CmpOp} (h : DE X xw a ds ms fun x ms1 => DE X xw b ds ms1 fun y ms2 => OpD X (compareOp op) x y ms2 fun d ms3 => ∃ k, d = .bl k ∧ (k = true → DE X xw c ds ms3 fun z ms4 => OpD X (compareOp op') y z ms4 fun d ms5 => ∃ k, d = .bl k ∧ kb k ms5) ∧ (k = false → kb false ms3))
    (hm : lastMarks [op, op'] [b, c] = false) : DT X xw (.Compare a [op, op'] [b, c] pos) ds ms kb :=
  .of (pt_chain (opr_w (f := compareOp op)) (opr_w (f := compareOp op')) pe_w pe_w pe_w hm) fun F σ H Q W A V => h F σ H _ W A fun F1 x d ms1 H1 e1 r1 S1 k1 => k1 F1 σ H1 _ W (A.mv e1 S1) fun F2 y d2 ms2 H2 e2 r2 S2 k2 =>
    k2 F2 x y H2 _ (r1.mono e2) r2 S2 fun F3 z d3 ms3 H3 e3 r3 S3 ⟨k, ek, q1, q0⟩ => by
      subst ek
      refine ⟨k, r3, ?_⟩
      cases k with
      | true =>
        refine q1 rfl F3 σ H3 _ W (A.mv ((e1.trans e2).trans e3) S3) fun F4 w d4 ms4 H4 e4 r4 S4 k4 => k4 F4 y w H4 _ ((r2.mono e3).mono e4) r4 S4 fun F5 z5 d5 ms5 H5 e5 r5 S5 q5 => ?_
        obtain ⟨k5, ek5, q5⟩ := q5
        subst ek5
        exact ⟨k5, r5, V F5 k5 ms5 H5 ((((e1.trans e2).trans e3).trans e4).trans e5) S5 q5⟩
      | false => exact ⟨false, rfl, V F3 false ms3 H3 ((e1.trans e2).trans e3) S3 (q0 rfl)⟩

/-! ### truth -/
def wTru (X : Cx) : V → Hp → (Bool → Hp → Prop) → Prop := fun x H Q => ∀ pins s σ v, Inv X pins σ H s → RelV x v → wpAny (model X.prog X.w) X.A (truthy v) (TP X pins σ Q) X.xe s
def TrD (X : Cx) (x : D) (ms : MS) (kb : Bool → MS → Prop) : Prop := ∀ F v H Q, Rep X.K F x v → Sep X.K F ms H → VCb X.K F kb Q → wTru X v H Q
theorem TrD.of {x : D} (q : ∀ F v H, Rep X.K F x v → Sep X.K F ms H → ∃ k, TruV X.K v H k ∧ kb k ms) : TrD X x ms kb := fun F v H Q r S V pins s σ v' I r1 => by
  obtain ⟨k, h1, h2⟩ := q F v H r S
  exact tru_ok pins s σ H v v' Q I r1 ⟨k, h1, V F k ms H (Le.refl F) S h2⟩
theorem trd_bl {b : Bool} (q : kb b ms) : TrD X (.bl b) ms kb := .of fun F v H r S => ⟨b, by cases r; exact rfl, q⟩
theorem trd_int {i : Int} (q : kb (i != 0) ms) : TrD X (.int i) ms kb := .of fun F v H r S => ⟨_, by cases r; exact rfl, q⟩
theorem trd_str {x : Str} (hl : x.length ≤ sizeLine) (q : kb ((x.length : Int) != 0) ms) : TrD X (.str x) ms kb := .of fun F v H r S => ⟨_, by cases r; exact ⟨hl, rfl⟩, q⟩
theorem trd_non (q : kb false ms) : TrD X .non ms kb := .of fun F v H r S => ⟨_, by cases r; exact rfl, q⟩
theorem RepL.isEmpty {K : PySem.W.Frag} {F : Hp} {ds : List D} {vs : List V} (h : RepL K F ds vs) : vs.isEmpty = ds.isEmpty := by
  have := h.length
  cases vs <;> cases ds <;> simp_all
theorem trd_tup {xs : List D} (q : kb (!xs.isEmpty) ms) : TrD X (.tup xs) ms kb := .of fun F v H r S => by
  obtain ⟨p, vs, rfl, h1, h2⟩ := r
  exact ⟨_, .inr (.inl ⟨vs, S.sqT h1, rfl⟩), by rw [h2.isEmpty]; exact q⟩
/-- d is the list xs: one that stays, or one of the store -/
def LsOf (ms : MS) (d : D) (xs : List D) : Prop := d = .lst xs ∨ ∃ p i, d = .adr p ∧ Ms ms i p (.lst xs)
theorem LsOf.f {ms : MS} {xs : List D} : LsOf ms (.lst xs) xs := .inl rfl
theorem LsOf.m {ms : MS} {xs : List D} {p : Addr} {i : Nat} (h : Ms ms i p (.lst xs)) : LsOf ms (.adr p) xs := .inr ⟨p, i, rfl, h⟩
theorem LsOf.at {K : PySem.W.Frag} {F H : Hp} {ms : MS} {d : D} {xs : List D} {v : V} (h : LsOf ms d xs) (r : Rep K F d v) (S : Sep K F ms H) : ∃ p vs, v = .ref p ∧ H p = some (.lst vs) ∧ RepL K F xs vs := by
  rcases h with rfl | ⟨p, i, rfl, h⟩
  · obtain ⟨p, vs, rfl, h1, h2⟩ := r
    exact ⟨p, vs, rfl, S.ex _ _ h1, h2⟩
  · obtain ⟨_, u, h1, vs, rfl, h2⟩ := S.get h.at
    exact ⟨p, vs, r, h1, h2⟩
theorem LsOf.cons {ms : MS} {d : D} {xs : List D} {q : Addr × MO} (h : LsOf ms d xs) : LsOf (q :: ms) d xs := by
  rcases h with rfl | ⟨p, i, rfl, h⟩
  · exact .f
  · exact .m (.s h)
def DcOf (ms : MS) (d : D) (kvs : List (Key × D)) : Prop := d = .dic kvs ∨ ∃ p i, d = .adr p ∧ Ms ms i p (.dic kvs)
theorem DcOf.f {ms : MS} {xs : List (Key × D)} : DcOf ms (.dic xs) xs := .inl rfl
theorem DcOf.m {ms : MS} {xs : List (Key × D)} {p : Addr} {i : Nat} (h : Ms ms i p (.dic xs)) : DcOf ms (.adr p) xs := .inr ⟨p, i, rfl, h⟩
theorem DcOf.at {K : PySem.W.Frag} {F H : Hp} {ms : MS} {d : D} {xs : List (Key × D)} {v : V} (h : DcOf ms d xs) (r : Rep K F d v) (S : Sep K F ms H) : ∃ p vs, v = .ref p ∧ Rd H p (.dK vs) ∧ RepK K F xs vs := by
  rcases h with rfl | ⟨p, i, rfl, h⟩
  · obtain ⟨p, vs, rfl, h1, h2⟩ := r
    exact ⟨p, vs, rfl, S.rd h1, h2⟩
  · obtain ⟨_, u, h1, vs, rfl, h2⟩ := S.get h.at
    exact ⟨p, vs, r, .inl h1, h2⟩
theorem trd_ls {d : D} {xs : List D} (h : LsOf ms d xs) (q : kb (!xs.isEmpty) ms) : TrD X d ms kb := .of fun F v H r S => by
  obtain ⟨p, vs, rfl, h1, h2⟩ := h.at r S
  exact ⟨_, .inl ⟨vs, SqL.of h1, rfl⟩, by rw [h2.isEmpty]; exact q⟩
theorem dt_truth (h : DE X xw a ds ms fun x ms1 => TrD X x ms1 kb) (he : ∀ whole, isTrue a X.env whole = (do let v ← whole; standAt a.pos; holding [v] (truthy v))) : DT X xw a ds ms kb :=
  fun F σ H Q W A V pins s I => isTrue_plain (thn (h F σ H (fun x H1 => wTru X x H1 Q) W A (fun F1 x d ms1 H1 e1 r1 S1 k1 => k1 F1 x H1 Q r1 S1 (V.mono e1)) pins s I) fun v s1 ⟨x, H1, I1, r1, q1⟩ => q1 pins s1 σ v I1 r1) (he _)

/-! ### and, or, not, if -/
theorem dw_and1 (h : DT X xw a ds ms kb) : DW X xw (.BoolOp .And [a] pos) ds ms kb := .of (pw_and1 pt_w) fun F σ H Q W A V => h F σ H Q W A V
theorem dw_or1 (h : DT X xw a ds ms kb) : DW X xw (.BoolOp .Or [a] pos) ds ms kb := .of (pw_or1 pt_w) fun F σ H Q W A V => h F σ H Q W A V
theorem dw_and {rest : List Expr} (h : DT X xw a ds ms fun c ms1 => (c = true → DW X xw (.BoolOp .And (b :: rest) pos) ds ms1 kb) ∧ (c = false → kb false ms1)) : DW X xw (.BoolOp .And (a :: b :: rest) pos) ds ms kb :=
  .of (pw_and pt_w pw_w) fun F σ H Q W A V => h F σ H _ W A fun F1 c ms1 H1 e1 S1 ⟨q1, q0⟩ => by
    cases c with
    | true => exact q1 rfl F1 σ H1 Q W (A.mv e1 S1) (V.mono e1)
    | false => exact V F1 false ms1 H1 e1 S1 (q0 rfl)
theorem dw_or {rest : List Expr} (h : DT X xw a ds ms fun c ms1 => (c = true → kb true ms1) ∧ (c = false → DW X xw (.BoolOp .Or (b :: rest) pos) ds ms1 kb)) : DW X xw (.BoolOp .Or (a :: b :: rest) pos) ds ms kb :=
  .of (pw_or pt_w pw_w) fun F σ H Q W A V => h F σ H _ W A fun F1 c ms1 H1 e1 S1 ⟨q1, q0⟩ => by
    cases c with
    | true => exact V F1 true ms1 H1 e1 S1 (q1 rfl)
    | false => exact q0 rfl F1 σ H1 Q W (A.mv e1 S1) (V.mono e1)
theorem dt_not (h : DT X xw a ds ms fun c ms1 => kb (!c) ms1) : DT X xw (.UnaryOp .Not a pos) ds ms kb := .of (pt_not pt_w) fun F σ H Q W A V => h F σ H _ W A fun F1 c ms1 H1 e1 S1 q => V F1 (!c) ms1 H1 e1 S1 q
theorem de_one {op} (h : DE X xw a ds ms kd) : DE X xw (.BoolOp op [a] pos) ds ms kd := .of (pe_one pe_w) fun F σ H Q W A V => h F σ H Q W A V
/-- and, or as values, by truth -/
theorem de_and {rest : List Expr} (h : DE X xw a ds ms fun x ms1 => TrD X x ms1 fun c ms2 => (c = true → DE X xw (.BoolOp .And (b :: rest) pos) ds ms2 kd) ∧ (c = false → kd x ms2)) : DE X xw (.BoolOp .And (a :: b :: rest) pos) ds ms kd := by
  refine fun F σ H Q W A V pins s I => ?_
  refine BoolOp_and (thn (h F σ H (fun x H1 => wTru X x H1 fun c H2 => if c = true then wE X (.BoolOp .And (b :: rest) pos) σ H2 Q else Q x H2) W A ?_ pins s I) fun v s1 ⟨x, H1, I1, r1, q1⟩ => thn (q1 pins s1 σ v I1 r1) fun c s2 ⟨H2, I2, q2⟩ => ?_)
  · intro F1 x d ms1 H1 e1 r1 S1 k1
    refine k1 F1 x H1 _ r1 S1 fun F2 c ms2 H2 e2 S2 ⟨q1, q0⟩ => ?_
    cases c with
    | true => exact q1 rfl F2 σ H2 Q W (A.mv (e1.trans e2) S2) (V.mono (e1.trans e2))
    | false => exact V F2 x d ms2 H2 (e1.trans e2) (r1.mono e2) S2 (q0 rfl)
  · cases c with
    | true => exact q2 pins s2 I2
    | false => exact ⟨x, H2, I2, r1, q2⟩
theorem de_or {rest : List Expr} (h : DE X xw a ds ms fun x ms1 => TrD X x ms1 fun c ms2 => (c = true → kd x ms2) ∧ (c = false → DE X xw (.BoolOp .Or (b :: rest) pos) ds ms2 kd)) : DE X xw (.BoolOp .Or (a :: b :: rest) pos) ds ms kd := by
  refine fun F σ H Q W A V pins s I => ?_
  refine BoolOp_or (thn (h F σ H (fun x H1 => wTru X x H1 fun c H2 => if c = true then Q x H2 else wE X (.BoolOp .Or (b :: rest) pos) σ H2 Q) W A ?_ pins s I) fun v s1 ⟨x, H1, I1, r1, q1⟩ => thn (q1 pins s1 σ v I1 r1) fun c s2 ⟨H2, I2, q2⟩ => ?_)
  · intro F1 x d ms1 H1 e1 r1 S1 k1
    refine k1 F1 x H1 _ r1 S1 fun F2 c ms2 H2 e2 S2 ⟨q1, q0⟩ => ?_
    cases c with
    | true => exact V F2 x d ms2 H2 (e1.trans e2) (r1.mono e2) S2 (q1 rfl)
    | false => exact q0 rfl F2 σ H2 Q W (A.mv (e1.trans e2) S2) (V.mono (e1.trans e2))
  · cases c with
    | true => exact ⟨x, H2, I2, r1, q2⟩
    | false => exact q2 pins s2 I2
theorem de_not (h : DE X xw a ds ms fun x ms1 => ∃ c, x = .bl c ∧ kd (.bl (!c)) ms1) : DE X xw (.UnaryOp .Not a pos) ds ms kd :=
  .of (pe_not pe_w) fun F σ H Q W A V => h F σ H _ W A fun F1 x d ms1 H1 e1 r1 S1 ⟨c, ec, q⟩ => by
    subst ec
    exact ⟨c, r1, V F1 (.bl (!c)) (.bl (!c)) ms1 H1 e1 rfl S1 q⟩
theorem de_ifExp (h : DT X xw c ds ms fun t ms1 => (t = true → DE X xw a ds ms1 kd) ∧ (t = false → DE X xw b ds ms1 kd)) : DE X xw (.IfExp c a b pos) ds ms kd :=
  .of (pe_ifExp pt_w pe_w pe_w) fun F σ H Q W A V => h F σ H _ W A fun F1 t ms1 H1 e1 S1 ⟨q1, q0⟩ => by
    cases t with
    | true => exact q1 rfl F1 σ H1 Q W (A.mv e1 S1) (V.mono e1)
    | false => exact q0 rfl F1 σ H1 Q W (A.mv e1 S1) (V.mono e1)

/-! ### branches -/
theorem br_dec {p : Prop} [Decidable p] {A B : Prop} (h1 : p → A) (h2 : ¬ p → B) : (decide p = true → A) ∧ (decide p = false → B) := ⟨fun h => h1 (of_decide_eq_true h), fun h => h2 (of_decide_eq_false h)⟩
theorem br_nec {p : Prop} [Decidable p] {A B : Prop} (h1 : ¬ p → A) (h2 : p → B) : ((!decide p) = true → A) ∧ ((!decide p) = false → B) := by
  by_cases hp : p
  · rw [decide_eq_true hp]; exact ⟨fun h => absurd h (by decide), fun _ => h2 hp⟩
  · rw [decide_eq_false hp]; exact ⟨fun _ => h1 hp, fun h => absurd h (by decide)⟩
theorem br_bl {b : Bool} {A B : Prop} (h1 : b = true → A) (h2 : b = false → B) : (b = true → A) ∧ (b = false → B) := ⟨h1, h2⟩
theorem br_nb {b : Bool} {A B : Prop} (h1 : b = false → A) (h2 : b = true → B) : ((!b) = true → A) ∧ ((!b) = false → B) := by
  cases b
  · exact ⟨fun _ => h1 rfl, fun h => absurd h (by decide)⟩
  · exact ⟨fun h => absurd h (by decide), fun _ => h2 rfl⟩
theorem br_t {A B : Prop} (h : A) : (true = true → A) ∧ (true = false → B) := ⟨fun _ => h, fun h => absurd h (by decide)⟩
theorem br_f {A B : Prop} (h : B) : (false = true → A) ∧ (false = false → B) := ⟨fun h => absurd h (by decide), fun _ => h⟩
theorem br_yes {p : Prop} [Decidable p] {A B : Prop} (h : p) (a : A) : (decide p = true → A) ∧ (decide p = false → B) := br_dec (fun _ => a) fun n => absurd h n
theorem br_no {p : Prop} [Decidable p] {A B : Prop} (h : ¬ p) (b : B) : (decide p = true → A) ∧ (decide p = false → B) := br_dec (fun n => absurd n h) fun _ => b
theorem br_nyes {p : Prop} [Decidable p] {A B : Prop} (h : p) (b : B) : ((!decide p) = true → A) ∧ ((!decide p) = false → B) := br_nec (fun n => absurd h n) fun _ => b
theorem br_nno {p : Prop} [Decidable p] {A B : Prop} (h : ¬ p) (a : A) : ((!decide p) = true → A) ∧ ((!decide p) = false → B) := br_nec (fun _ => a) fun n => absurd n h
theorem br_yes' {b : Bool} {A B : Prop} (h : b = true) (a : A) : (b = true → A) ∧ (b = false → B) := ⟨fun _ => a, fun z => by rw [h] at z; cases z⟩
theorem br_no' {b : Bool} {A B : Prop} (h : b = false) (a : B) : (b = true → A) ∧ (b = false → B) := ⟨fun z => (by rw [h] at z; cases z), fun _ => a⟩
theorem br_is {b : Bool} {A B : Prop} (c : Bool) (h : b = c) (q : if c = true then A else B) : (b = true → A) ∧ (b = false → B) := by
  subst h
  cases b
  · exact ⟨fun z => absurd z (by decide), fun _ => q⟩
  · exact ⟨fun _ => q, fun z => absurd z (by decide)⟩
theorem br_nt {A B : Prop} (h : B) : ((!true) = true → A) ∧ ((!true) = false → B) := ⟨fun h => absurd h (by decide), fun _ => h⟩
theorem br_nf {A B : Prop} (h : A) : ((!false) = true → A) ∧ ((!false) = false → B) := ⟨fun _ => h, fun h => absurd h (by decide)⟩
/-! ### argument lists, displays -/
theorem da_nil {kd : List D → MS → Prop} (q : kd [] ms) : DA X xw [] ds ms kd := fun F σ H Q W A V pos pins s I => pa_nil.run pos pins s σ H Q I (V F [] [] ms H (Le.refl F) rfl A.sep q)
theorem da_cons {kd : List D → MS → Prop} {es : List Expr} (h : DE X xw e ds ms fun x ms1 => DA X xw es ds ms1 fun xs ms2 => kd (x :: xs) ms2) (hs : starEach (e :: es) X.env = (false, eval e X.env) :: starEach es X.env) : DA X xw (e :: es) ds ms kd :=
  fun F σ H Q W A V pos pins s I => (pa_cons pe_w pa_w hs).run pos pins s σ H Q I (h F σ H _ W A fun F1 x d ms1 H1 e1 r1 S1 k1 => k1 F1 σ H1 _ W (A.mv e1 S1) fun F2 xs d2 ms2 H2 e2 r2 S2 k2 =>
    V F2 (x :: xs) (d :: d2) ms2 H2 (e1.trans e2) ⟨x, xs, rfl, r1.mono e2, r2⟩ S2 k2)
theorem de_tup {es : List Expr} {x1} (h : DA X xw es ds ms fun xs ms1 => xs.length ≤ sizeLine ∧ kd (.tup xs) ms1) : DE X xw (.Tuple es x1 pos) ds ms kd :=
  .of (pe_tup pa_w) fun F σ H Q W A V => h F σ H _ W A fun F1 xs d ms1 H1 e1 r1 S1 ⟨hl, q⟩ => ⟨by rw [r1.length]; exact hl, fun p hp =>
    V (upd F1 p (.tup xs)) (.ref p) (.tup d) ms1 _ (e1.trans (Le.new (S1.free hp))) ⟨p, xs, rfl, SqT.of upd_same, r1.mono (Le.new (S1.free hp))⟩ (S1.newF hp) q⟩
/-- a list that stays as it is made -/
theorem de_lst {es : List Expr} (h : DA X xw es ds ms fun xs ms1 => xs.length ≤ sizeLine ∧ kd (.lst xs) ms1) : DE X xw (.List es pos) ds ms kd :=
  .of (pe_lst pa_w) fun F σ H Q W A V => h F σ H _ W A fun F1 xs d ms1 H1 e1 r1 S1 ⟨hl, q⟩ => ⟨by rw [r1.length]; exact hl, fun p hp =>
    V (upd F1 p (.lst xs)) (.ref p) (.lst d) ms1 _ (e1.trans (Le.new (S1.free hp))) ⟨p, xs, rfl, upd_same, r1.mono (Le.new (S1.free hp))⟩ (S1.newF hp) q⟩
/-- a list that may change -/
theorem de_lstM {es : List Expr} (h : DA X xw es ds ms fun xs ms1 => xs.length ≤ sizeLine ∧ ∀ p, kd (.adr p) ((p, .lst xs) :: ms1)) : DE X xw (.List es pos) ds ms kd :=
  .of (pe_lst pa_w) fun F σ H Q W A V => h F σ H _ W A fun F1 xs d ms1 H1 e1 r1 S1 ⟨hl, q⟩ => ⟨by rw [r1.length]; exact hl, fun p hp =>
    V F1 (.ref p) (.adr p) _ _ e1 rfl (S1.new (o := .lst d) hp ⟨xs, rfl, r1⟩) (q p)⟩
theorem de_dicM (q : ∀ p, kd (.adr p) ((p, .dic []) :: ms)) : DE X xw (.Dict [] [] pos) ds ms kd :=
  .of pe_dnewK fun F σ H Q W A V p hp => V F (.ref p) (.adr p) _ _ (Le.refl F) rfl (A.sep.new (o := .dic []) hp ⟨[], rfl, rfl⟩) (q p)
/-- an object of the store stays from now on: the value, or what is wanted of it, is its content -/
def frz : MO → D
  | .lst xs => .lst xs
  | .dic kvs => .dic kvs
  | .ins C fs => .ins C fs
  | .oth _ => .non
  | .sm _ => .non
def canFrz : MO → Bool
  | .oth _ => false
  | .sm _ => false
  | _ => true
theorem frz_rep {K : PySem.W.Frag} {F : Hp} {p : Addr} {o : MO} {u : HO} (h : F p = some u) (r : MRep K F o u) (hn : canFrz o = true) : Rep K F (frz o) (.ref p) := by
  cases o with
  | lst xs => obtain ⟨vs, rfl, r⟩ := r; exact ⟨p, vs, rfl, h, r⟩
  | dic kvs => obtain ⟨vs, rfl, r⟩ := r; exact ⟨p, vs, rfl, .inl h, r⟩
  | ins C fs => obtain ⟨dx, vs, rfl, r⟩ := r; exact ⟨p, dx, vs, rfl, h, r⟩
  | oth w => exact absurd hn Bool.false_ne_true
  | sm w => exact absurd hn Bool.false_ne_true
theorem de_freeze (h : DE X xw e ds ms fun d ms1 => ∃ p i o ms2, d = .adr p ∧ Ms ms1 i p o ∧ MDel ms1 i ms2 ∧ canFrz o = true ∧ kd (frz o) ms2) : DE X xw e ds ms kd :=
  fun F σ H Q W A V => h F σ H Q W A fun F1 v d ms1 H1 e1 r1 S1 ⟨p, i, o, ms2, ed, hm, hd, ho, q⟩ => by
    subst ed
    obtain ⟨u, l, S2, r⟩ := S1.freeze hm.at
    have r1' : v = .ref p := r1
    subst r1'
    exact V _ (.ref p) (frz o) ms2 H1 (e1.trans l) (frz_rep upd_same (r.mono l) ho) (by rw [hd.eq]; exact S2) q
/-- the store told otherwise -/
theorem de_st {ms' : MS} (l : MLe X.K ms ms') (h : DE X xw e ds ms' kd) : DE X xw e ds ms kd := fun F σ H Q W A V => h F σ H Q W ⟨A.sr, l _ _ A.sep, A.tk, A.xc⟩ V
theorem dt_st {ms' : MS} (l : MLe X.K ms ms') (h : DT X xw e ds ms' kb) : DT X xw e ds ms kb := fun F σ H Q W A V => h F σ H Q W ⟨A.sr, l _ _ A.sep, A.tk, A.xc⟩ V
theorem ds_st {ms' : MS} {st : Stmt} {E : DEnds} (l : MLe X.K ms ms') (h : DS X xw st ds ms' E) : DS X xw st ds ms E := fun F σ H D W A V => h F σ H D W ⟨A.sr, l _ _ A.sep, A.tk, A.xc⟩ V
theorem dss_st {ms' : MS} {st : List Stmt} {E : DEnds} (l : MLe X.K ms ms') (h : DSs X xw st ds ms' E) : DSs X xw st ds ms E := fun F σ H D W A V => h F σ H D W ⟨A.sr, l _ _ A.sep, A.tk, A.xc⟩ V
theorem dss_env {ds' : DEnv} {st : List Stmt} {E : DEnds} (hl : ds'.length = ds.length) (hs : ∀ (i : Nat) (d : D), ds'[i]? = some (some d) → ds[i]? = some (some d)) (h : DSs X xw st ds' ms E) : DSs X xw st ds ms E := fun F σ H D W A V => h F σ H D W ⟨A.sr.forget hl hs, A.sep, A.tk, A.xc⟩ V
/-- an object that is known by what holds of it is opened -/
theorem dss_open {p : Addr} {φ : HO → Prop} {st : List Stmt} {E : DEnds} (h : ∀ u, φ u → DSs X xw st ds ((p, .oth u) :: ms) E) : DSs X xw st ds ((p, .sm φ) :: ms) E := fun F σ H D W A V => by
  obtain ⟨h1, u, h2, h3⟩ := A.sep.at_ _ List.mem_cons_self
  refine h u h3 F σ H D W ⟨A.sr, ⟨A.sep.ex, fun q hq => ?_, A.sep.nd⟩, A.tk, A.xc⟩ V
  rcases List.mem_cons.mp hq with rfl | hq
  · exact ⟨h1, u, h2, rfl⟩
  · exact A.sep.at_ q (List.mem_cons_of_mem _ hq)
theorem ms_front {K : PySem.W.Frag} {ms1 : MS} {i : Nat} {p : Addr} {o : MO} (h : Ms ms i p o) (d : MDel ms i ms1) : MLe K ms ((p, o) :: ms1) := .perm (by rw [d.eq]; exact perm_front h.at)
end
end DL

/-! DL2: operators, subscripts, slices, calls of built-ins, methods, by data. -/
namespace DL
open PySem PySem.Spec PyProof.Rows L2
section
variable {X : Cx} {xw : DX} {N : List Str} {k : Nat} {ds : DEnv} {ms : MS} {kd : DK} {kb : Bool → MS → Prop} {e a b c o : Expr} {es : List Expr} {pos p apos cpos : Pos}

/-! ### names of built-ins -/
theorem bt_len : bootBuiltins "len" = some (.builtin "len") := by first | exact PyProof.Rows.boot_len | exact PySem.boot_len | decide +kernel
theorem bt_abs : bootBuiltins "abs" = some (.builtin "abs") := by first | exact PyProof.Rows.boot_abs | exact PySem.boot_abs | decide +kernel
theorem bt_max : bootBuiltins "max" = some (.builtin "max") := by first | exact PyProof.Rows.boot_max | exact PySem.boot_max | decide +kernel
theorem bt_min : bootBuiltins "min" = some (.builtin "min") := by first | exact PyProof.Rows.boot_min | exact PySem.boot_min | decide +kernel
theorem bt_all : bootBuiltins "all" = some (.builtin "all") := by first | exact PyProof.Rows.boot_all | exact PySem.boot_all | decide +kernel
theorem bt_any : bootBuiltins "any" = some (.builtin "any") := by first | exact PyProof.Rows.boot_any | exact PySem.boot_any | decide +kernel
theorem bt_sum : bootBuiltins "sum" = some (.builtin "sum") := by first | exact PyProof.Rows.boot_sum | exact PySem.boot_sum | decide +kernel
theorem bt_sorted : bootBuiltins "sorted" = some (.builtin "sorted") := by first | exact PyProof.Rows.boot_sorted | exact PySem.boot_sorted | decide +kernel
theorem bt_repr : bootBuiltins "repr" = some (.builtin "repr") := by first | exact PyProof.Rows.boot_repr | exact PySem.boot_repr | decide +kernel
theorem bt_isinstance : bootBuiltins "isinstance" = some (.builtin "isinstance") := by first | exact PyProof.Rows.boot_isinstance | exact PySem.boot_isinstance | decide +kernel
theorem bt_int : bootBuiltins "int" = some (.type "int") := by first | exact PyProof.Rows.boot_int | exact PySem.boot_int | decide +kernel
theorem bt_str : bootBuiltins "str" = some (.type "str") := by first | exact PyProof.Rows.boot_str | exact PySem.boot_str | decide +kernel
theorem bt_list : bootBuiltins "list" = some (.type "list") := by first | exact PyProof.Rows.boot_list | exact PySem.boot_list | decide +kernel
theorem bt_tuple : bootBuiltins "tuple" = some (.type "tuple") := by first | exact PyProof.Rows.boot_tuple | exact PySem.boot_tuple | decide +kernel
theorem bt_dict : bootBuiltins "dict" = some (.type "dict") := by first | exact PyProof.Rows.boot_dict | exact PySem.boot_dict | decide +kernel
theorem bt_set : bootBuiltins "set" = some (.type "set") := by first | exact PyProof.Rows.boot_set | exact PySem.boot_set | decide +kernel
theorem bt_bool : bootBuiltins "bool" = some (.type "bool") := by first | exact PyProof.Rows.boot_bool | exact PySem.boot_bool | decide +kernel

/-! ### ints -/
theorem opd_add {i j : Int} (q : kd (.int (i + j)) ms) : OpD X (binaryOp .Add) (.int i) (.int j) ms kd := .of op_add fun F v u H Q rv ru S V => ⟨i, j, rv, ru, V.val (d := .int _) S rfl q⟩
theorem opd_sub {i j : Int} (q : kd (.int (i - j)) ms) : OpD X (binaryOp .Sub) (.int i) (.int j) ms kd := .of op_sub fun F v u H Q rv ru S V => ⟨i, j, rv, ru, V.val (d := .int _) S rfl q⟩
theorem opd_mul {i j : Int} (hc : CMul i j) (q : kd (.int (i * j)) ms) : OpD X (binaryOp .Mult) (.int i) (.int j) ms kd := .of op_mul fun F v u H Q rv ru S V => ⟨i, j, rv, ru, hc, V.val (d := .int _) S rfl q⟩
theorem opd_mulW {i j : Int} (hc : CMulW i j) (q : kd (.int (i * j)) ms) : OpD X (binaryOp .Mult) (.int i) (.int j) ms kd := .of op_mulW fun F v u H Q rv ru S V => ⟨i, j, rv, ru, hc, V.val (d := .int _) S rfl q⟩
theorem opd_div {i j : Int} (hc : CDivW i j) (q : kd (.int (i / j)) ms) : OpD X (binaryOp .FloorDiv) (.int i) (.int j) ms kd := .of op_fdivW fun F v u H Q rv ru S V => ⟨i, j, rv, ru, hc, V.val (d := .int _) S rfl q⟩
theorem opd_mod {i j : Int} (hc : 0 < j) (q : kd (.int (i % j)) ms) : OpD X (binaryOp .Mod) (.int i) (.int j) ms kd := .of op_mod fun F v u H Q rv ru S V => ⟨i, j, rv, ru, hc, V.val (d := .int _) S rfl q⟩
theorem divW_small {i j : Int} (h : 0 < j) (hj : j < 2 ^ 62) : CDivW i j := wide_div h (show j.natAbs < 2 ^ 62 by omega) (by decide) (by decide)
theorem divW_mid {i j : Int} (h : 0 < j) (hj : j.natAbs < 2 ^ 200) : CDivW i j := wide_div h hj (by decide) (by decide)
theorem mul_l {i j : Int} (h : -(2 ^ 64) < i) (h' : i < 2 ^ 64) : CMul i j := .inl ⟨h, h'⟩
theorem mul_r {i j : Int} (h : -(2 ^ 64) < j) (h' : j < 2 ^ 64) : CMul i j := .inr ⟨h, h'⟩
def CPowW (i j : Int) : Prop := 0 ≤ j ∧ (Builtin.Int.intBits i : Int) * j ≤ 2 ^ 27
theorem powW_of {i j : Int} {a : Nat} (h : 0 ≤ j) (hi : i.natAbs < 2 ^ a) (ha : 0 < a) (hj : (a : Int) * j ≤ 2 ^ 27) : CPowW i j := by
  refine ⟨h, Int.le_trans (Int.mul_le_mul_of_nonneg_right ?_ h) hj⟩
  have x := PySem.Flt.log2_lt_of ha hi
  have b : Builtin.Int.intBits i ≤ i.natAbs.log2 + 1 := by
    unfold Builtin.Int.intBits
    split <;> omega
  omega
theorem op_powW : OpR X (binaryOp .Pow) (rI CPowW fun i j => .int (i ^ j.toNat)) := opI fun _ _ _ _ _ _ _ hc q => pow_int hc.1 hc.2 q
theorem opd_pow {i j : Int} (hc : CPowW i j) (q : kd (.int (i ^ j.toNat)) ms) : OpD X (binaryOp .Pow) (.int i) (.int j) ms kd := .of op_powW fun F v u H Q rv ru S V => ⟨i, j, rv, ru, hc, V.val (d := .int _) S rfl q⟩
theorem und_neg {i : Int} (q : kd (.int (-i)) ms) : UnD X (unaryOp .USub) (.int i) ms kd := .of un_neg fun F v H Q rv S V => ⟨i, rv, V.val (d := .int _) S rfl q⟩
theorem opd_lt {i j : Int} (q : kd (.bl (decide (i < j))) ms) : OpD X (compareOp .Lt) (.int i) (.int j) ms kd := .of op_lt fun F v u H Q rv ru S V => ⟨i, j, rv, ru, V.val (d := .bl _) S rfl q⟩
theorem opd_le {i j : Int} (q : kd (.bl (decide (i ≤ j))) ms) : OpD X (compareOp .LtE) (.int i) (.int j) ms kd := .of op_le fun F v u H Q rv ru S V => ⟨i, j, rv, ru, V.val (d := .bl _) S rfl q⟩
theorem opd_gt {i j : Int} (q : kd (.bl (decide (j < i))) ms) : OpD X (compareOp .Gt) (.int i) (.int j) ms kd := .of op_gt fun F v u H Q rv ru S V => ⟨i, j, rv, ru, V.val (d := .bl _) S rfl q⟩
theorem opd_ge {i j : Int} (q : kd (.bl (decide (j ≤ i))) ms) : OpD X (compareOp .GtE) (.int i) (.int j) ms kd := .of op_ge fun F v u H Q rv ru S V => ⟨i, j, rv, ru, V.val (d := .bl _) S rfl q⟩
theorem opd_eq {i j : Int} (q : kd (.bl (decide (i = j))) ms) : OpD X (compareOp .Eq) (.int i) (.int j) ms kd := .of op_eq fun F v u H Q rv ru S V => by
  have rv' : v = .int i := rv
  have ru' : u = .int j := ru
  subst rv' ru'
  refine ⟨rfl, V.val (d := .bl _) (v := .bl _) S rfl ?_⟩
  rw [show decide (L2.V.int i = L2.V.int j) = decide (i = j) from decide_eq_decide.mpr ⟨fun e => L2.V.int.inj e, fun e => by rw [e]⟩]
  exact q
theorem opd_ne {i j : Int} (q : kd (.bl (!decide (i = j))) ms) : OpD X (compareOp .NotEq) (.int i) (.int j) ms kd := .of op_ne fun F v u H Q rv ru S V => by
  have rv' : v = .int i := rv
  have ru' : u = .int j := ru
  subst rv' ru'
  refine ⟨rfl, V.val (d := .bl _) (v := .bl _) S rfl ?_⟩
  rw [show decide (L2.V.int i = L2.V.int j) = decide (i = j) from decide_eq_decide.mpr ⟨fun e => L2.V.int.inj e, fun e => by rw [e]⟩]
  exact q
theorem opd_eqB {i j : Bool} (q : kd (.bl (decide (i = j))) ms) : OpD X (compareOp .Eq) (.bl i) (.bl j) ms kd := .of op_eq fun F v u H Q rv ru S V => by
  have rv' : v = .bl i := rv
  have ru' : u = .bl j := ru
  subst rv' ru'
  refine ⟨rfl, V.val (d := .bl _) (v := .bl _) S rfl ?_⟩
  rw [show decide (L2.V.bl i = L2.V.bl j) = decide (i = j) from decide_eq_decide.mpr ⟨fun e => L2.V.bl.inj e, fun e => by rw [e]⟩]
  exact q
theorem opd_neB {i j : Bool} (q : kd (.bl (!decide (i = j))) ms) : OpD X (compareOp .NotEq) (.bl i) (.bl j) ms kd := .of op_ne fun F v u H Q rv ru S V => by
  have rv' : v = .bl i := rv
  have ru' : u = .bl j := ru
  subst rv' ru'
  refine ⟨rfl, V.val (d := .bl _) (v := .bl _) S rfl ?_⟩
  rw [show decide (L2.V.bl i = L2.V.bl j) = decide (i = j) from decide_eq_decide.mpr ⟨fun e => L2.V.bl.inj e, fun e => by rw [e]⟩]
  exact q
theorem opd_eqS {i j : Str} (q : kd (.bl (decide (i = j))) ms) : OpD X (compareOp .Eq) (.str i) (.str j) ms kd := .of op_eq fun F v u H Q rv ru S V => by
  have rv' : v = .str i := rv
  have ru' : u = .str j := ru
  subst rv' ru'
  refine ⟨rfl, V.val (d := .bl _) (v := .bl _) S rfl ?_⟩
  rw [show decide (L2.V.str i = L2.V.str j) = decide (i = j) from decide_eq_decide.mpr ⟨fun e => L2.V.str.inj e, fun e => by rw [e]⟩]
  exact q
theorem opd_neS {i j : Str} (q : kd (.bl (!decide (i = j))) ms) : OpD X (compareOp .NotEq) (.str i) (.str j) ms kd := .of op_ne fun F v u H Q rv ru S V => by
  have rv' : v = .str i := rv
  have ru' : u = .str j := ru
  subst rv' ru'
  refine ⟨rfl, V.val (d := .bl _) (v := .bl _) S rfl ?_⟩
  rw [show decide (L2.V.str i = L2.V.str j) = decide (i = j) from decide_eq_decide.mpr ⟨fun e => L2.V.str.inj e, fun e => by rw [e]⟩]
  exact q
/-! ### is None -/
def isNonD : D → Bool
  | .non => true
  | _ => false
theorem Rep.isNon {K : PySem.W.Frag} {F : Hp} {d : D} {v : V} (r : Rep K F d v) : decide (v = .non) = isNonD d := by
  cases d with
  | non => cases r; rfl
  | bl _ => cases r; rfl
  | int _ => cases r; rfl
  | str _ => cases r; rfl
  | ty _ => cases r; rfl
  | adr _ => cases r; rfl
  | lst _ => obtain ⟨_, _, rfl, _⟩ := r; rfl
  | tup _ => obtain ⟨_, _, rfl, _⟩ := r; rfl
  | dic _ => obtain ⟨_, _, rfl, _⟩ := r; rfl
  | ins _ _ => obtain ⟨_, _, _, rfl, _⟩ := r; rfl
  | scr _ => obtain ⟨_, rfl, _⟩ := r; rfl
  | err _ _ _ => obtain ⟨rfl, _⟩ := r; rfl
theorem opd_isN {x : D} (q : kd (.bl (isNonD x)) ms) : OpD X (compareOp .Is) x .non ms kd := .of op_isN fun F v u H Q rv ru S V => ⟨ru, by rw [rv.isNon]; exact V.val (d := .bl _) S rfl q⟩
theorem opd_notN {x : D} (q : kd (.bl (!isNonD x)) ms) : OpD X (compareOp .IsNot) x .non ms kd := .of op_notN fun F v u H Q rv ru S V => ⟨ru, by rw [rv.isNon]; exact V.val (d := .bl _) S rfl q⟩

/-! ### texts -/
theorem opd_addS {i j : Str} (hl : i.length + j.length ≤ sizeLine) (q : kd (.str (i ++ j)) ms) : OpD X (binaryOp .Add) (.str i) (.str j) ms kd := .of op_add_str fun F v u H Q rv ru S V => ⟨i, j, rv, ru, hl, V.val (d := .str _) S rfl q⟩
theorem opd_inC {c : Nat} {z : Str} (q : kd (.bl (decide (c ∈ z.cps.toList))) ms) : OpD X (compareOp .In) (.str ⟨#[c]⟩) (.str z) ms kd := .of op_in_sign fun F v u H Q rv ru S V => ⟨c, z, rv, ru, V.val (d := .bl _) S rfl q⟩
theorem opd_notInC {c : Nat} {z : Str} (q : kd (.bl (!decide (c ∈ z.cps.toList))) ms) : OpD X (compareOp .NotIn) (.str ⟨#[c]⟩) (.str z) ms kd := .of op_notIn_sign fun F v u H Q rv ru S V => ⟨c, z, rv, ru, V.val (d := .bl _) S rfl q⟩

/-! ### lists, tuples -/
theorem opd_cat {d d' : D} {xs ys : List D} (h : LsOf ms d xs) (h' : LsOf ms d' ys) (hl : xs.length + ys.length ≤ sizeLine) (q : kd (.lst (xs ++ ys)) ms) : OpD X (binaryOp .Add) d d' ms kd := .of op_cat fun F v u H Q rv ru S V => by
  obtain ⟨a, vs, rfl, h1, h2⟩ := h.at rv S
  obtain ⟨b, us, rfl, g1, g2⟩ := h'.at ru S
  exact ⟨a, b, vs, us, rfl, rfl, h1, g1, by rw [h2.length, g2.length]; exact hl, fun p hp => V _ (.ref p) (.lst _) ms _ (Le.new (S.free hp)) ⟨p, _, rfl, upd_same, (h2.append g2).mono (Le.new (S.free hp))⟩ (S.newF hp) q⟩
theorem opd_catT {xs ys : List D} (hn : xs ≠ []) (hn' : ys ≠ []) (hl : xs.length + ys.length ≤ sizeLine) (q : kd (.tup (xs ++ ys)) ms) : OpD X (binaryOp .Add) (.tup xs) (.tup ys) ms kd := .of op_catT fun F v u H Q rv ru S V => by
  obtain ⟨a, vs, rfl, h1, h2⟩ := rv
  obtain ⟨b, us, rfl, g1, g2⟩ := ru
  have l1 := h2.length
  have l2 := g2.length
  refine ⟨a, b, vs, us, rfl, rfl, S.sqT h1, S.sqT g1, ?_, by omega, ?_, ?_⟩
  · rintro rfl
    simp at l1
    exact hn (List.length_eq_zero_iff.mp l1.symm)
  · intro e
    exfalso
    subst e
    simp at l2
    exact hn' (List.length_eq_zero_iff.mp l2.symm)
  · exact fun _ p hp => V _ (.ref p) (.tup _) ms _ (Le.new (S.free hp)) ⟨p, _, rfl, SqT.of upd_same, (h2.append g2).mono (Le.new (S.free hp))⟩ (S.newF hp) q
theorem RepL.rep {K : PySem.W.Frag} {F : Hp} {ds : List D} {vs : List V} (h : RepL K F ds vs) : ∀ n : Nat, RepL K F (List.replicate n ds).flatten (List.replicate n vs).flatten
  | 0 => rfl
  | n + 1 => by rw [List.replicate_succ, List.replicate_succ, List.flatten_cons, List.flatten_cons]; exact h.append (RepL.rep h n)
theorem opd_rep {d : D} {xs : List D} {n : Int} (h : LsOf ms d xs) (h1 : -(2 ^ 63) ≤ n) (h2 : n < 2 ^ 63) (hl : xs.length * n.toNat ≤ sizeLine) (q : kd (.lst (List.replicate n.toNat xs).flatten) ms) : OpD X (binaryOp .Mult) d (.int n) ms kd := .of op_rep fun F v u H Q rv ru S V => by
  obtain ⟨a, vs, rfl, g1, g2⟩ := h.at rv S
  exact ⟨a, n, vs, rfl, ru, g1, h1, h2, by rw [g2.length]; exact hl, fun p hp => V _ (.ref p) (.lst _) ms _ (Le.new (S.free hp)) ⟨p, _, rfl, upd_same, (g2.rep _).mono (Le.new (S.free hp))⟩ (S.newF hp) q⟩

/-! ### x in xs, of flat data -/
def flatD : D → Bool
  | .non => true
  | .bl _ => true
  | .int _ => true
  | .str _ => true
  | _ => false
def toV : D → V
  | .non => .non
  | .bl b => .bl b
  | .int i => .int i
  | .str x => .str x
  | _ => .non
theorem flat_rep {K : PySem.W.Frag} {F : Hp} {d : D} {v : V} (h : flatD d = true) (r : Rep K F d v) : v = toV d ∧ flatV v = true := by
  cases d <;> first | (exact absurd h Bool.false_ne_true) | (cases r; exact ⟨rfl, rfl⟩)
theorem flat_repL {K : PySem.W.Frag} {F : Hp} : ∀ {ds : List D} {vs : List V}, ds.all flatD = true → RepL K F ds vs → vs = ds.map toV ∧ vs.all flatV = true
  | [], _, _, r => by cases r; exact ⟨rfl, rfl⟩
  | d :: ds, _, h, ⟨v, r, e, h1, h2⟩ => by
    subst e
    rw [List.all_cons, Bool.and_eq_true] at h
    obtain ⟨a1, a2⟩ := flat_rep h.1 h1
    obtain ⟨b1, b2⟩ := flat_repL h.2 h2
    exact ⟨by rw [a1, b1]; rfl, by rw [List.all_cons, a2, b2]; rfl⟩
def inD (x : D) (xs : List D) : Bool := inV (toV x) (xs.map toV)
theorem opd_inT {x : D} {xs : List D} (hx : flatD x = true) (hs : xs.all flatD = true) (q : kd (.bl (inD x xs)) ms) : OpD X (compareOp .In) x (.tup xs) ms kd := .of op_in_seq fun F v u H Q rv ru S V => by
  obtain ⟨a, vs, rfl, h1, h2⟩ := ru
  obtain ⟨rfl, f1⟩ := flat_rep hx rv
  obtain ⟨rfl, f2⟩ := flat_repL hs h2
  exact ⟨a, _, rfl, .inr (S.sqT h1), f1, f2, V.val (d := .bl _) S rfl q⟩
theorem opd_notInT {x : D} {xs : List D} (hx : flatD x = true) (hs : xs.all flatD = true) (q : kd (.bl (!inD x xs)) ms) : OpD X (compareOp .NotIn) x (.tup xs) ms kd := .of op_notIn_seq fun F v u H Q rv ru S V => by
  obtain ⟨a, vs, rfl, h1, h2⟩ := ru
  obtain ⟨rfl, f1⟩ := flat_rep hx rv
  obtain ⟨rfl, f2⟩ := flat_repL hs h2
  exact ⟨a, _, rfl, .inr (S.sqT h1), f1, f2, V.val (d := .bl _) S rfl q⟩
theorem opd_inL {x d : D} {xs : List D} (hd : LsOf ms d xs) (hx : flatD x = true) (hs : xs.all flatD = true) (q : kd (.bl (inD x xs)) ms) : OpD X (compareOp .In) x d ms kd := .of op_in_seq fun F v u H Q rv ru S V => by
  obtain ⟨a, vs, rfl, h1, h2⟩ := hd.at ru S
  obtain ⟨rfl, f1⟩ := flat_rep hx rv
  obtain ⟨rfl, f2⟩ := flat_repL hs h2
  exact ⟨a, _, rfl, .inl (SqL.of h1), f1, f2, V.val (d := .bl _) S rfl q⟩
theorem opd_notInL {x d : D} {xs : List D} (hd : LsOf ms d xs) (hx : flatD x = true) (hs : xs.all flatD = true) (q : kd (.bl (!inD x xs)) ms) : OpD X (compareOp .NotIn) x d ms kd := .of op_notIn_seq fun F v u H Q rv ru S V => by
  obtain ⟨a, vs, rfl, h1, h2⟩ := hd.at ru S
  obtain ⟨rfl, f1⟩ := flat_rep hx rv
  obtain ⟨rfl, f2⟩ := flat_repL hs h2
  exact ⟨a, _, rfl, .inl (SqL.of h1), f1, f2, V.val (d := .bl _) S rfl q⟩

/-! ### == and != of data -/
mutual
def pd : D → PyData
  | .non => .none
  | .bl b => .bool b
  | .int i => .int i
  | .str x => .str x
  | .lst xs => .list (pdL xs)
  | .tup xs => .tuple (pdL xs)
  | _ => .none
def pdL : List D → List PyData
  | [] => []
  | d :: ds => pd d :: pdL ds
end
mutual
def plain : D → Bool
  | .non => true
  | .bl _ => true
  | .int _ => true
  | .str _ => true
  | .lst xs => plainL xs
  | .tup xs => plainL xs
  | _ => false
def plainL : List D → Bool
  | [] => true
  | d :: ds => plain d && plainL ds
end
section
variable {K : PySem.W.Frag} {F H : Hp}
mutual
theorem dp_of (S : Sep K F ms H) : ∀ {d : D} {v : V}, plain d = true → Rep K F d v → Dp K H v (pd d)
  | .non, _, _, r => by cases r; exact .non
  | .bl _, _, _, r => by cases r; exact .bl _
  | .int _, _, _, r => by cases r; exact .int _
  | .str _, _, _, r => by cases r; exact .str _
  | .lst xs, _, h, ⟨a, vs, e, h1, h2⟩ => by subst e; exact .lst (SqL.of (S.ex _ _ h1)) (dp_ofL S (show plainL xs = true from h) h2)
  | .tup xs, _, h, ⟨a, vs, e, h1, h2⟩ => by subst e; exact .tup (S.sqT h1) (dp_ofL S (show plainL xs = true from h) h2)
  | .dic _, _, h, _ => absurd h Bool.false_ne_true
  | .ins _ _, _, h, _ => absurd h Bool.false_ne_true
  | .adr _, _, h, _ => absurd h Bool.false_ne_true
  | .ty _, _, h, _ => absurd h Bool.false_ne_true
  | .scr _, _, h, _ => absurd h Bool.false_ne_true
  | .err _ _ _, _, h, _ => absurd h Bool.false_ne_true
theorem dp_ofL (S : Sep K F ms H) : ∀ {d : List D} {v : List V}, plainL d = true → RepL K F d v → DpAll K H v (pdL d)
  | [], _, _, r => by cases r; exact .nil
  | d :: ds, _, h, ⟨v, r, e, h1, h2⟩ => by
    subst e
    have h' : (plain d && plainL ds) = true := h
    rw [Bool.and_eq_true] at h'
    exact .cons (dp_of S h'.1 h1) (dp_ofL S h'.2 h2)
end
end
/-- d is the data x: plain data, or a list of the store of plain data -/
def PdOf (ms : MS) (d x : D) : Prop := plain x = true ∧ (d = x ∨ ∃ xs, x = .lst xs ∧ LsOf ms d xs)
theorem PdOf.f {x : D} (h : plain x = true) : PdOf ms x x := ⟨h, .inl rfl⟩
theorem PdOf.m {d : D} {xs : List D} (h : plainL xs = true) (l : LsOf ms d xs) : PdOf ms d (.lst xs) := ⟨h, .inr ⟨xs, rfl, l⟩⟩
theorem PdOf.dp {K : PySem.W.Frag} {F H : Hp} {d x : D} {v : V} (h : PdOf ms d x) (S : Sep K F ms H) (r : Rep K F d v) : Dp K H v (pd x) := by
  rcases h with ⟨h, rfl | ⟨xs, rfl, l⟩⟩
  · exact dp_of S h r
  · obtain ⟨p, vs, rfl, h1, h2⟩ := l.at r S
    exact .lst (SqL.of h1) (dp_ofL S h h2)
def eqD (x y : D) : Bool := PyData.eqv (pd x) (pd y)
def shapedD (x : D) : Bool := SeqAt.shaped (pd x)
theorem opd_eqD (C : Ctx X N k) {d e x y : D} (h1 : PdOf ms d x) (h2 : PdOf ms e y) (s1 : shapedD x = true) (s2 : shapedD y = true) (q : kd (.bl (eqD x y)) ms) : OpD X (compareOp .Eq) d e ms kd := .of (op_eqD C.room.units) fun F v u H Q rv ru S V =>
  ⟨_, _, h1.dp S rv, h2.dp S ru, s1, s2, V.val (d := .bl _) S rfl q⟩
theorem opd_neD (C : Ctx X N k) {d e x y : D} (h1 : PdOf ms d x) (h2 : PdOf ms e y) (s1 : shapedD x = true) (s2 : shapedD y = true) (q : kd (.bl (!eqD x y)) ms) : OpD X (compareOp .NotEq) d e ms kd := .of (op_neD C.room.units) fun F v u H Q rv ru S V =>
  ⟨_, _, h1.dp S rv, h2.dp S ru, s1, s2, V.val (d := .bl _) S rfl q⟩

/-! ### subscripts -/
def wIx (X : Cx) (a b : Expr) : R2 := fun x y H Q => ∀ pins s σ v u, Inv X pins σ H s → RelV x v → RelV y u → wpAny (model X.prog X.w) X.A (subscriptTail a b v u) (EP X pins σ Q) X.xe s
def IxD (X : Cx) (a b : Expr) (x y : D) (ms : MS) (kd : DK) : Prop := ∀ F v u H Q, Rep X.K F x v → Rep X.K F y u → Sep X.K F ms H → VC X.K F kd Q → wIx X a b v u H Q
theorem de_ix (h : DE X xw a ds ms fun x ms1 => DE X xw b ds ms1 fun y ms2 => IxD X a b x y ms2 kd) : DE X xw (.Subscript a b pos) ds ms kd := fun F σ H Q W A V pins s I =>
  Subscript_ (binT pe_w pe_w I (h F σ H (fun x H1 => wE X b σ H1 fun y H2 => wIx X a b x y H2 Q) W A fun F1 x d ms1 H1 e1 r1 S1 k1 => k1 F1 σ H1 _ W (A.mv e1 S1) fun F2 y d2 ms2 H2 e2 r2 S2 k2 =>
    k2 F2 x y H2 Q (r1.mono e2) r2 S2 (V.mono (e1.trans e2))) fun v u s2 x y H2 I2 rx ry q => q pins s2 σ v u I2 rx ry)
theorem IxD.of {r : R2} {x y : D} (hr : IxR X r) (hs : PlainIx b) (q : ∀ F v u H Q, Rep X.K F x v → Rep X.K F y u → Sep X.K F ms H → VC X.K F kd Q → r v u H Q) : IxD X a b x y ms kd :=
  fun F v u H Q rv ru S V pins s σ v' u' I r1 r2 => hr a b pins s σ H v u v' u' Q I r1 r2 (q F v u H Q rv ru S V) (hs _ _)
theorem RepL.atI {K : PySem.W.Frag} {F : Hp} {xs : List D} {vs : List V} {i : Int} {d : D} (h : RepL K F xs vs) (ha : atI xs i = some d) : ∃ v, atI vs i = some v ∧ Rep K F d v := by
  unfold L2.atI at ha ⊢
  rw [h.length]
  cases e : ixN xs.length i with
  | none => rw [e] at ha; cases ha
  | some j =>
    rw [e] at ha
    exact h.get ha
theorem ixd_ls {d x : D} {xs : List D} {i : Int} (h : LsOf ms d xs) (ha : atI xs i = some x) (hs : PlainIx b) (q : kd x ms) : IxD X a b d (.int i) ms kd := .of ix_list hs fun F v u H Q rv ru S V => by
  obtain ⟨p, vs, rfl, h1, h2⟩ := h.at rv S
  obtain ⟨v, h3, h4⟩ := h2.atI ha
  exact ⟨p, vs, i, v, rfl, ru, SqL.of h1, h3, V.val S h4 q⟩
theorem ixd_scr {ns : List Int} {n : Int} {i : Int} (ha : atI ns i = some n) (hs : PlainIx b) (q : kd (.int n) ms) : IxD X a b (.scr ns) (.int i) ms kd := .of ix_list hs fun F v u H Q rv ru S V => by
  obtain ⟨p, rfl, h1⟩ := rv
  refine ⟨p, _, i, .int n, rfl, ru, S.sqL h1, ?_, V.val (d := .int n) S rfl q⟩
  unfold L2.atI at ha ⊢
  rw [List.length_map]
  cases e : ixN ns.length i with
  | none => rw [e] at ha; cases ha
  | some j =>
    rw [e] at ha
    show (ns.map L2.V.int)[j]? = _
    rw [List.getElem?_map, show ns[j]? = some n from ha]
    rfl
theorem ixd_tup {x : D} {xs : List D} {i : Int} (ha : atI xs i = some x) (hs : PlainIx b) (q : kd x ms) : IxD X a b (.tup xs) (.int i) ms kd := .of ix_tup hs fun F v u H Q rv ru S V => by
  obtain ⟨p, vs, rfl, h1, h2⟩ := rv
  obtain ⟨v, h3, h4⟩ := h2.atI ha
  exact ⟨p, vs, i, v, rfl, ru, S.sqT h1, h3, V.val S h4 q⟩
theorem ixd_str {z : Str} {i : Int} {c : Nat} (hz : z.length ≤ sizeLine) (ha : atI z.cps.toList i = some c) (hs : PlainIx b) (q : kd (.str ⟨#[c]⟩) ms) : IxD X a b (.str z) (.int i) ms kd := .of ix_str hs fun F v u H Q rv ru S V =>
  ⟨z, i, c, rv, ru, hz, ha, V.val (d := .str _) S rfl q⟩
/-- a dict's value -/
def valD (kvs : List (Key × D)) (k : Key) : Option D := (kvs.find? fun kv => decide (kv.1 = k)).map (·.2)
def keyD : Key → D
  | .inl i => .int i
  | .inr x => .str x
theorem key_rep {K : PySem.W.Frag} {F : Hp} {k : Key} {v : V} (r : Rep K F (keyD k) v) : v = kV k := by cases k <;> exact r
theorem RepK.val {K : PySem.W.Frag} {F : Hp} {k : Key} : ∀ {kds : List (Key × D)} {kvs : List (Key × V)}, RepK K F kds kvs → (∀ d, valD kds k = some d → ∃ v, valV kvs k = some v ∧ Rep K F d v) ∧ (valD kds k = none → valV kvs k = none)
  | [], _, h => by
    have h' : _ = [] := h
    subst h'
    exact And.intro (fun d e => absurd (show (none : Option D) = some d from e) (fun z => nomatch z)) (fun _ => rfl)
  | (k', d') :: kds, _, ⟨v, r, e, h1, h2⟩ => by
    subst e
    by_cases hk : k' = k
    · have e1 : valD ((k', d') :: kds) k = some d' := by simp [valD, hk]
      have e2 : valV ((k', v) :: r) k = some v := valV_pos hk
      rw [e1, e2]
      exact ⟨fun d e => by cases e; exact ⟨v, rfl, h1⟩, fun e => by cases e⟩
    · have e1 : valD ((k', d') :: kds) k = valD kds k := by simp [valD, hk]
      have e2 : valV ((k', v) :: r) k = valV r k := valV_neg hk
      rw [e1, e2]
      exact RepK.val h2
theorem ixd_dic (C : Ctx X N k) {d x y : D} {kvs : List (Key × D)} {ky : Key} (h : DcOf ms d kvs) (hy : y = keyD ky) (ha : valD kvs ky = some x) (hs : NoSl b) (q : kd x ms) : IxD X a b d y ms kd := fun F v u H Q rv ru S V pins s σ v' u' I r1 r2 => by
  obtain ⟨p, vs, rfl, h1, h2⟩ := h.at rv S
  subst hy
  have eu := key_rep ru
  subst eu
  obtain ⟨w, g1, g2⟩ := (h2.val).1 x ha
  obtain rfl : v' = Value.ref p := r1
  have g : DGet H p (kV ky) (some w) := .inl ⟨vs, ky, h1, rfl, g1.symm⟩
  have hT := dict_typeIs I g
  have hl := PySem.F.slot_dict_getitem.lookup
  unfold subscriptTail
  refine wpAny_bind ?_
  rw [getitemInPython_of_ne hT.not_modules]
  refine wpAny_bind (wpAny_specialOf hT hl ?_)
  have fin : wpAny (model X.prog X.w) X.A (subscripted b false (.ref p) u') (fun r s₃ => wpAny (model X.prog X.w) X.A (letTemporaryGo a (.ref p) r >>= fun _ => pure r) (EP X pins σ Q) X.xe s₃) X.xe s := by
    rw [hs (.ref p) u']
    refine wpAny_operating (thn (d_getItem (Q := EP X pins σ Q) C.hu I g r2 fun w' s' I' rw' => ⟨w, H, I', rw', V.val S g2 q⟩) fun r s3 h3 => wpAny_bind (wpAny_letTemporaryGo (wpAny_pure h3)))
  first
    | exact wpAny_pure (wpAny_bind fin)
    | exact wpAny_bind (wpAny_pure (wpAny_bind fin))
    | exact wpAny_bind fin

/-! ### slices -/
def DO (X : Cx) (xw : DX) (eo : Option Expr) (ds : DEnv) (ms : MS) (ko : Option Int → MS → Prop) : Prop := match eo with
  | none => ko none ms
  | some e => DE X xw e ds ms fun x ms1 => ∃ i, x = .int i ∧ ko (some i) ms1
theorem do_none {ko : Option Int → MS → Prop} (h : ko none ms) : DO X xw none ds ms ko := h
theorem do_some {ko : Option Int → MS → Prop} (h : DE X xw e ds ms fun x ms1 => ∃ i, x = .int i ∧ ko (some i) ms1) : DO X xw (some e) ds ms ko := h
def toW (X : Cx) (eo : Option Expr) : TO := match eo with
  | none => tNoPart
  | some e => tPart (wE X e)
theorem po_w {eo : Option Expr} : PO X eo (toW X eo) := by
  cases eo with
  | none => exact po_none
  | some e => exact po_some pe_w
theorem DO.run {eo : Option Expr} {ko : Option Int → MS → Prop} (h : DO X xw eo ds ms ko) {F : Hp} {σ : L2.St} {H : Hp} {W : WX} {Q : Option Int → Hp → Prop} (A : At X xw F ds σ ms H W)
    (V : ∀ F' oi ms' H', Le F F' → Sep X.K F' ms' H' → ko oi ms' → Q oi H') : toW X eo σ H Q := by
  cases eo with
  | none => exact V F none ms H (Le.refl F) A.sep h
  | some e => exact h F σ H _ W A fun F1 x d ms1 H1 e1 r1 S1 ⟨i, ei, q⟩ => by subst ei; exact ⟨i, r1, V F1 (some i) ms1 H1 e1 S1 q⟩
/-- a slice by data -/
def SlD (X : Cx) (x : D) (lo hi : Option Int) (ms : MS) (kd : DK) : Prop := ∀ F v H Q, Rep X.K F x v → Sep X.K F ms H → VC X.K F kd Q → ∃ r, SlR X r ∧ r v lo hi H Q
def wSl (X : Cx) : V → Option Int → Option Int → Hp → VK → Prop := fun v lo hi H Q => ∃ r, SlR X r ∧ r v lo hi H Q
theorem slr_w : SlR X (wSl X) := fun pins s σ H x v vl vu lo hi sl Q I rx hs pl pu ⟨r, hr, q⟩ => hr pins s σ H x v vl vu lo hi sl Q I rx hs pl pu q
theorem de_slice {lo hi : Option Expr} {p2 : Pos} (h : DE X xw e ds ms fun x ms1 => DO X xw lo ds ms1 fun l ms2 => DO X xw hi ds ms2 fun u ms3 => SlD X x l u ms3 kd) : DE X xw (.Subscript e (.Slice lo hi none p2) pos) ds ms kd :=
  .of (pe_slice slr_w pe_w po_w po_w) fun F σ H Q W A V => h F σ H _ W A fun F1 x d ms1 H1 e1 r1 S1 k1 => k1.run (A.mv e1 S1) fun F2 l ms2 H2 e2 S2 k2 => k2.run (A.mv (e1.trans e2) S2) fun F3 u ms3 H3 e3 S3 k3 =>
    k3 F3 x H3 Q ((r1.mono e2).mono e3) S3 (V.mono ((e1.trans e2).trans e3))
def cutD (xs : List D) (lo hi : Option Int) : List D := (xs.drop (HT.sIx xs.length 0 lo)).take (HT.sIx xs.length xs.length hi - HT.sIx xs.length 0 lo)
theorem RepL.cut {K : PySem.W.Frag} {F : Hp} {xs : List D} {vs : List V} (h : RepL K F xs vs) (lo hi : Option Int) : RepL K F (cutD xs lo hi) (cutV vs lo hi) := by
  unfold cutD cutV
  rw [h.length]
  exact (h.drop _).take _
theorem sld_ls {d : D} {xs : List D} {lo hi : Option Int} (h : LsOf ms d xs) (q : kd (.lst (cutD xs lo hi)) ms) : SlD X d lo hi ms kd := fun F v H Q rv S V => by
  obtain ⟨a, vs, rfl, h1, h2⟩ := h.at rv S
  exact ⟨_, sl_list, a, vs, rfl, SqL.of h1, fun p hp => V _ (.ref p) (.lst _) ms _ (Le.new (S.free hp)) ⟨p, _, rfl, upd_same, (h2.cut lo hi).mono (Le.new (S.free hp))⟩ (S.newF hp) q⟩
theorem sld_str {z : Str} {lo hi : Option Int} (hz : z.length ≤ sizeLine) (q : kd (.str (cutS z lo hi)) ms) : SlD X (.str z) lo hi ms kd := fun F v H Q rv S V => ⟨_, sl_str, z, rv, hz, V.val (d := .str _) S rfl q⟩

/-! ### calls of built-ins -/
def wC (X : Cx) (f : Value) : List V → Hp → VK → Prop := fun xs H Q => ∀ pins s σ us, Inv X pins σ H s → Vals xs us → wpAny (model X.prog X.w) X.A (call f us) (EP X pins σ Q) X.xe s
theorem cr_w {f : Value} : CallR X f (wC X f) := fun pins s σ H xs us Q I r h => h pins s σ us I r
def CaD (X : Cx) (f : Value) (xs : List D) (ms : MS) (kd : DK) : Prop := ∀ F vs H Q, RepL X.K F xs vs → Sep X.K F ms H → VC X.K F kd Q → wC X f vs H Q
theorem CaD.of {f : Value} {r : List V → Hp → VK → Prop} {xs : List D} (hc : CallR X f r) (q : ∀ F vs H Q, RepL X.K F xs vs → Sep X.K F ms H → VC X.K F kd Q → r vs H Q) : CaD X f xs ms kd :=
  fun F vs H Q rv S V pins s σ us I r1 => hc pins s σ H vs us Q I r1 (q F vs H Q rv S V)
theorem de_callB {x : Str} {id : String} (hv : bootBuiltins x = some (.builtin id)) (hm : X.mg x = none) (h : DA X xw (e :: es) ds ms fun xs ms1 => CaD X (.builtin id) xs ms1 kd) (hg : Gl X x) (hn : x ≠ "__name__") (hdb : (x == ("__debug__" : Str)) = false)
    (he : starEach (e :: es) X.env = (false, eval e X.env) :: starEach es X.env) (hpl : (backTo pos (starEach es X.env)).any (·.1) = false) : DE X xw (.Call (.Name x p) (e :: es) [] pos) ds ms kd :=
  .of (pe_callB cr_w hg hm hv pa_w hn hdb he hpl) fun F σ H Q W A V => h F σ H _ W A fun F1 xs d ms1 H1 e1 r1 S1 k1 => k1 F1 xs H1 Q r1 S1 (V.mono e1)
theorem de_callT {x : Str} {T : String} (hv : bootBuiltins x = some (.type T)) (hm : X.mg x = none) (h : DA X xw (e :: es) ds ms fun xs ms1 => CaD X (.type T) xs ms1 kd) (hg : Gl X x) (hn : x ≠ "__name__") (hdb : (x == ("__debug__" : Str)) = false)
    (he : starEach (e :: es) X.env = (false, eval e X.env) :: starEach es X.env) (hpl : (backTo pos (starEach es X.env)).any (·.1) = false) : DE X xw (.Call (.Name x p) (e :: es) [] pos) ds ms kd :=
  .of (pe_callTy cr_w hg hm hv pa_w hn hdb he hpl) fun F σ H Q W A V => h F σ H _ W A fun F1 xs d ms1 H1 e1 r1 S1 k1 => k1 F1 xs H1 Q r1 S1 (V.mono e1)
theorem RepL.inv1 {K : PySem.W.Frag} {F : Hp} {d : D} {vs : List V} (h : RepL K F [d] vs) : ∃ v, vs = [v] ∧ Rep K F d v := by
  obtain ⟨v, r, e, h1, h2⟩ := h
  have h2' : r = [] := h2
  subst h2'
  exact ⟨v, e, h1⟩
theorem RepL.inv2 {K : PySem.W.Frag} {F : Hp} {d d' : D} {vs : List V} (h : RepL K F [d, d'] vs) : ∃ v u, vs = [v, u] ∧ Rep K F d v ∧ Rep K F d' u := by
  obtain ⟨v, r, e, h1, h2⟩ := h
  obtain ⟨u, rfl, h3⟩ := h2.inv1
  exact ⟨v, u, e, h1, h3⟩
theorem cad_lenL {d : D} {xs : List D} (h : LsOf ms d xs) (q : kd (.int xs.length) ms) : CaD X (.builtin "len") [d] ms kd := .of call_len_seq fun F vs H Q r S V => by
  obtain ⟨v, rfl, r1⟩ := r.inv1
  obtain ⟨p, us, rfl, h1, h2⟩ := h.at r1 S
  exact ⟨p, us, rfl, .inl (SqL.of h1), by rw [h2.length]; exact V.val (d := .int _) S rfl q⟩
theorem cad_lenT {xs : List D} (q : kd (.int xs.length) ms) : CaD X (.builtin "len") [.tup xs] ms kd := .of call_len_seq fun F vs H Q r S V => by
  obtain ⟨v, rfl, r1⟩ := r.inv1
  obtain ⟨p, us, rfl, h1, h2⟩ := r1
  exact ⟨p, us, rfl, .inr (S.sqT h1), by rw [h2.length]; exact V.val (d := .int _) S rfl q⟩
theorem cad_lenC {xs : List Int} (q : kd (.int xs.length) ms) : CaD X (.builtin "len") [.scr xs] ms kd := .of call_len_seq fun F vs H Q r S V => by
  obtain ⟨v, rfl, r1⟩ := r.inv1
  obtain ⟨p, rfl, h1⟩ := r1
  exact ⟨p, _, rfl, .inl (S.sqL h1), by rw [List.length_map]; exact V.val (d := .int _) S rfl q⟩
theorem cad_lenS {z : Str} (hz : z.length ≤ sizeLine) (q : kd (.int z.length) ms) : CaD X (.builtin "len") [.str z] ms kd := .of call_len_str fun F vs H Q r S V => by
  obtain ⟨v, rfl, r1⟩ := r.inv1
  exact ⟨z, by rw [show v = .str z from r1], hz, V.val (d := .int _) S rfl q⟩
theorem cad_abs {i : Int} (q : kd (.int (if i < 0 then -i else i)) ms) : CaD X (.builtin "abs") [.int i] ms kd := .of call_abs fun F vs H Q r S V => by
  obtain ⟨v, rfl, r1⟩ := r.inv1
  exact ⟨i, by rw [show v = .int i from r1], V.val (d := .int _) S rfl q⟩
theorem cad_max2 (C : Ctx X N k) {i j : Int} (q : kd (.int (if j > i then j else i)) ms) : CaD X (.builtin "max") [.int i, .int j] ms kd := .of (call_max2 C.calm) fun F vs H Q r S V => by
  obtain ⟨v, u, rfl, r1, r2⟩ := r.inv2
  exact ⟨i, j, by rw [show v = .int i from r1, show u = .int j from r2], V.val (d := .int _) S rfl q⟩
theorem cad_min2 (C : Ctx X N k) {i j : Int} (q : kd (.int (if j < i then j else i)) ms) : CaD X (.builtin "min") [.int i, .int j] ms kd := .of (call_min2 C.calm) fun F vs H Q r S V => by
  obtain ⟨v, u, rfl, r1, r2⟩ := r.inv2
  exact ⟨i, j, by rw [show v = .int i from r1, show u = .int j from r2], V.val (d := .int _) S rfl q⟩
theorem cad_intI {i : Int} (q : kd (.int i) ms) : CaD X (.type "int") [.int i] ms kd := .of call_int1 fun F vs H Q r S V => by
  obtain ⟨v, rfl, r1⟩ := r.inv1
  exact .inl ⟨i, by rw [show v = .int i from r1], V.val (d := .int _) S rfl q⟩
theorem cad_intB {i : Bool} (q : kd (.int (if i then 1 else 0)) ms) : CaD X (.type "int") [.bl i] ms kd := .of call_int1 fun F vs H Q r S V => by
  obtain ⟨v, rfl, r1⟩ := r.inv1
  exact .inr ⟨i, by rw [show v = .bl i from r1], V.val (d := .int _) S rfl q⟩
theorem cad_intS {z : Str} {n : Int} (hn : PySem.intText? z = some n) (hl : z.length ≤ 640) (q : kd (.int n) ms) : CaD X (.type "int") [.str z] ms kd := .of call_int_str fun F vs H Q r S V => by
  obtain ⟨v, rfl, r1⟩ := r.inv1
  exact ⟨z, n, by rw [show v = .str z from r1], hn, hl, V.val (d := .int _) S rfl q⟩
theorem cad_strI {i : Int} (hi : i.natAbs.log2 < 1920) (q : kd (.str (toString i)) ms) : CaD X (.type "str") [.int i] ms kd := .of call_str_int fun F vs H Q r S V => by
  obtain ⟨v, rfl, r1⟩ := r.inv1
  exact ⟨i, by rw [show v = .int i from r1], hi, V.val (d := .str _) S rfl q⟩
/-- list(xs): a new list that may change -/
theorem cad_listL {d : D} {xs : List D} (h : LsOf ms d xs) (q : ∀ p, kd (.adr p) ((p, .lst xs) :: ms)) : CaD X (.type "list") [d] ms kd := .of call_list_of fun F vs H Q r S V => by
  obtain ⟨v, rfl, r1⟩ := r.inv1
  obtain ⟨a, us, rfl, h1, h2⟩ := h.at r1 S
  exact ⟨a, us, rfl, .inl (SqL.of h1), fun p hp => V F (.ref p) (.adr p) _ _ (Le.refl F) rfl (S.new (o := .lst xs) hp ⟨us, rfl, h2⟩) (q p)⟩
theorem cad_listT {xs : List D} (q : ∀ p, kd (.adr p) ((p, .lst xs) :: ms)) : CaD X (.type "list") [.tup xs] ms kd := .of call_list_of fun F vs H Q r S V => by
  obtain ⟨v, rfl, r1⟩ := r.inv1
  obtain ⟨a, us, rfl, h1, h2⟩ := r1
  exact ⟨a, us, rfl, .inr (S.sqT h1), fun p hp => V F (.ref p) (.adr p) _ _ (Le.refl F) rfl (S.new (o := .lst xs) hp ⟨us, rfl, h2⟩) (q p)⟩
theorem cad_tupleL {d : D} {xs : List D} (h : LsOf ms d xs) (q : kd (.tup xs) ms) : CaD X (.type "tuple") [d] ms kd := .of call_tuple_of fun F vs H Q r S V => by
  obtain ⟨v, rfl, r1⟩ := r.inv1
  obtain ⟨a, us, rfl, h1, h2⟩ := h.at r1 S
  exact ⟨a, us, rfl, .inl ⟨SqL.of h1, fun p hp => V _ (.ref p) (.tup xs) ms _ (Le.new (S.free hp)) ⟨p, us, rfl, SqT.of upd_same, h2.mono (Le.new (S.free hp))⟩ (S.newF hp) q⟩⟩
theorem cad_tupleT {xs : List D} (q : kd (.tup xs) ms) : CaD X (.type "tuple") [.tup xs] ms kd := .of call_tuple_of fun F vs H Q r S V => by
  obtain ⟨v, rfl, r1⟩ := r.inv1
  obtain ⟨a, us, rfl, h1, h2⟩ := id r1
  exact ⟨a, us, rfl, .inr ⟨S.sqT h1, V.val (d := .tup xs) S ⟨a, us, rfl, h1, h2⟩ q⟩⟩
theorem cad_sum (C : Ctx X N k) {d : D} {ns : List Int} (h : LsOf ms d (ns.map D.int)) (q : kd (.int ns.sum) ms) : CaD X (.builtin "sum") [d] ms kd := .of (cr_sum C.calm) fun F vs H Q r S V => by
  obtain ⟨v, rfl, r1⟩ := r.inv1
  obtain ⟨a, us, rfl, h1, h2⟩ := h.at r1 S
  rw [h2.ints] at h1
  exact ⟨a, ns, rfl, SqL.of h1, V.val (d := .int _) S rfl q⟩
theorem cad_all (C : Ctx X N k) {d : D} {bs : List Bool} (h : LsOf ms d (bs.map D.bl)) (q : kd (.bl (bs.all id)) ms) : CaD X (.builtin "all") [d] ms kd := .of (cr_all C.calm) fun F vs H Q r S V => by
  obtain ⟨v, rfl, r1⟩ := r.inv1
  obtain ⟨a, us, rfl, h1, h2⟩ := h.at r1 S
  rw [h2.bools] at h1
  exact ⟨a, bs, rfl, SqL.of h1, V.val (d := .bl _) S rfl q⟩
theorem cad_any (C : Ctx X N k) {d : D} {bs : List Bool} (h : LsOf ms d (bs.map D.bl)) (q : kd (.bl (bs.any id)) ms) : CaD X (.builtin "any") [d] ms kd := .of (cr_any C.calm) fun F vs H Q r S V => by
  obtain ⟨v, rfl, r1⟩ := r.inv1
  obtain ⟨a, us, rfl, h1, h2⟩ := h.at r1 S
  rw [h2.bools] at h1
  exact ⟨a, bs, rfl, SqL.of h1, V.val (d := .bl _) S rfl q⟩
theorem cad_max (C : Ctx X N k) {d : D} {ns : List Int} (h : LsOf ms d (ns.map D.int)) (h0 : 0 < ns.length) (q : ∀ m, m ∈ ns → (∀ y ∈ ns, y ≤ m) → kd (.int m) ms) : CaD X (.builtin "max") [d] ms kd := .of (cr_max C.calm) fun F vs H Q r S V => by
  obtain ⟨v, rfl, r1⟩ := r.inv1
  obtain ⟨a, us, rfl, h1, h2⟩ := h.at r1 S
  rw [h2.ints] at h1
  exact ⟨a, ns, rfl, SqL.of h1, h0, fun m hm hy => V.val (d := .int _) S rfl (q m hm hy)⟩
theorem cad_min (C : Ctx X N k) {d : D} {ns : List Int} (h : LsOf ms d (ns.map D.int)) (h0 : 0 < ns.length) (q : ∀ m, m ∈ ns → (∀ y ∈ ns, m ≤ y) → kd (.int m) ms) : CaD X (.builtin "min") [d] ms kd := .of (cr_min C.calm) fun F vs H Q r S V => by
  obtain ⟨v, rfl, r1⟩ := r.inv1
  obtain ⟨a, us, rfl, h1, h2⟩ := h.at r1 S
  rw [h2.ints] at h1
  exact ⟨a, ns, rfl, SqL.of h1, h0, fun m hm hy => V.val (d := .int _) S rfl (q m hm hy)⟩

/-! ### methods of built-in types -/
def wM (X : Cx) (id : String) : V → List V → Hp → VK → Prop := fun x xs H Q => ∀ pins s σ v us, Inv X pins σ H s → RelV x v → Vals xs us → wpAny (model X.prog X.w) X.A (call (.builtin id) (v :: us)) (EP X pins σ Q) X.xe s
theorem mr_w {id : String} : MtR X id (wM X id) := fun pins s σ H x xs v us Q I rx r h => h pins s σ v us I rx r
def MtD (X : Cx) (id : String) (x : D) (xs : List D) (ms : MS) (kd : DK) : Prop := ∀ F v vs H Q, Rep X.K F x v → RepL X.K F xs vs → Sep X.K F ms H → VC X.K F kd Q → wM X id v vs H Q
theorem MtD.of {id : String} {r : V → List V → Hp → VK → Prop} {x : D} {xs : List D} (hc : MtR X id r) (q : ∀ F v vs H Q, Rep X.K F x v → RepL X.K F xs vs → Sep X.K F ms H → VC X.K F kd Q → r v vs H Q) : MtD X id x xs ms kd :=
  fun F v vs H Q rx rv S V pins s σ v' us I r0 r1 => hc pins s σ H v vs v' us Q I r0 r1 (q F v vs H Q rx rv S V)
/-- the receiver's type -/
def TyD (ms : MS) (T : String) (x : D) : Prop := (∃ z, x = .str z ∧ T = "str") ∨ (T = "list" ∧ ∃ xs, LsOf ms x xs) ∨ (T = "dict" ∧ ∃ p i kvs, x = .adr p ∧ Ms ms i p (.dic kvs))
theorem TyD.tyV {K : PySem.W.Frag} {F H : Hp} {T : String} {x : D} {v : V} (h : TyD ms T x) (r : Rep K F x v) (S : Sep K F ms H) : tyV K T v H := by
  rcases h with ⟨z, rfl, rfl⟩ | ⟨rfl, xs, h⟩ | ⟨rfl, p, i, kvs, rfl, h⟩
  · cases r; rfl
  · obtain ⟨p, vs, rfl, h1, _⟩ := h.at r S
    exact .inl ⟨rfl, vs, SqL.of h1⟩
  · obtain ⟨_, u, h1, vs, rfl, _⟩ := S.get h.at
    cases r
    exact .inr (.inr (.inl ⟨rfl, .inl ⟨vs, h1⟩⟩))
theorem ty_str {ms : MS} {z : Str} {A : Prop} (h : A) : TyD ms "str" (.str z) ∧ A := ⟨.inl ⟨z, rfl, rfl⟩, h⟩
theorem ty_ls {ms : MS} {d : D} {xs : List D} {A : Prop} (l : LsOf ms d xs) (h : A) : TyD ms "list" d ∧ A := ⟨.inr (.inl ⟨rfl, xs, l⟩), h⟩
theorem ty_dic {ms : MS} {p : Addr} {i : Nat} {kvs : List (Key × D)} {A : Prop} (l : Ms ms i p (.dic kvs)) (h : A) : TyD ms "dict" (.adr p) ∧ A := ⟨.inr (.inr ⟨rfl, p, i, kvs, rfl, l⟩), h⟩
theorem de_m0 {T id : String} {name : Str} (pa : PlainAttrs T) (slot : Slot T name id) (hty : typeOf (.builtin id) = pure (.type "method_descriptor"))
    (h : DE X xw o ds ms fun x ms1 => TyD ms1 T x ∧ MtD X id x [] ms1 kd)
    (hbase : attributeBase o name X.env (eval o X.env) = eval o X.env) (hline : (apos.endLine == cpos.line) = true) : DE X xw (.Call (.Attribute o name apos) [] [] cpos) ds ms kd :=
  .of (pe_bm0 pa slot hty mr_w pe_w hbase hline) fun F σ H Q W A V => h F σ H _ W A fun F1 x d ms1 H1 e1 r1 S1 ⟨ht, k1⟩ => ⟨ht.tyV r1 S1, k1 F1 x [] H1 Q r1 rfl S1 (V.mono e1)⟩
theorem de_m {T id : String} {name : Str} (pa : PlainAttrs T) (slot : Slot T name id) (hty : typeOf (.builtin id) = pure (.type "method_descriptor"))
    (h : DE X xw o ds ms fun x ms1 => TyD ms1 T x ∧ DA X xw (e :: es) ds ms1 fun xs ms2 => MtD X id x xs ms2 kd)
    (hbase : attributeBase o name X.env (eval o X.env) = eval o X.env)
    (hfew : ((backTo cpos (starEach (e :: es) X.env)).all (fun x => !x.1) && (backToKw cpos (keywordEach [] X.env)).all (fun x => x.1.isSome)
      && decide ((e :: es).length + ([] : List Keyword).length + (if ([] : List Keyword).isEmpty then 0 else 1) < 30)) = true)
    (hline : (apos.endLine == cpos.line) = true) (hs : starEach (e :: es) X.env = (false, eval e X.env) :: starEach es X.env) (hplain : (backTo cpos (starEach es X.env)).any (·.1) = false) : DE X xw (.Call (.Attribute o name apos) (e :: es) [] cpos) ds ms kd :=
  .of (pe_bm pa slot hty mr_w pe_w pa_w hbase hfew hline hs hplain) fun F σ H Q W A V => h F σ H _ W A fun F1 x d ms1 H1 e1 r1 S1 ⟨ht, k1⟩ => ⟨ht.tyV r1 S1, k1 F1 σ H1 _ W (A.mv e1 S1) fun F2 xs d2 ms2 H2 e2 r2 S2 k2 =>
    k2 F2 x xs H2 Q (r1.mono e2) r2 S2 (V.mono (e1.trans e2))⟩
theorem mtd_append {p : Addr} {i : Nat} {xs : List D} {y : D} {ms' : MS} (hm : Ms ms i p (.lst xs)) (hp : MPut ms i (.lst (xs ++ [y])) ms') (hl : xs.length < sizeLine) (q : kd .non ms') : MtD X "list.append" (.adr p) [y] ms kd := .of mt_append fun F v vs H Q rx rv S V => by
  obtain ⟨u, rfl, r1⟩ := rv.inv1
  obtain ⟨_, w, h1, us, rfl, h2⟩ := S.get hm.at
  obtain ⟨a, o, h3, rfl⟩ := hp.eq
  rw [hm.at] at h3
  cases h3
  exact ⟨p, us, u, rx, rfl, h1, by rw [h2.length]; exact hl, V F .non .non _ _ (Le.refl F) rfl (S.set (o' := .lst _) hm.at ⟨us ++ [u], rfl, h2.append (RepL.one r1)⟩) q⟩
theorem mtd_extend {p : Addr} {i : Nat} {d : D} {xs ys : List D} {ms' : MS} (hm : Ms ms i p (.lst xs)) (hd : LsOf ms d ys) (hp : MPut ms i (.lst (xs ++ ys)) ms') (hl : xs.length + ys.length ≤ sizeLine) (q : kd .non ms') : MtD X "list.extend" (.adr p) [d] ms kd := .of mt_extend fun F v vs H Q rx rv S V => by
  obtain ⟨u, rfl, r1⟩ := rv.inv1
  obtain ⟨_, w, h1, us, rfl, h2⟩ := S.get hm.at
  obtain ⟨b, zs, rfl, g1, g2⟩ := hd.at r1 S
  obtain ⟨a, o, h3, rfl⟩ := hp.eq
  rw [hm.at] at h3
  cases h3
  exact ⟨p, b, us, zs, rx, rfl, h1, g1, by rw [h2.length, g2.length]; exact hl, V F .non .non _ _ (Le.refl F) rfl (S.set (o' := .lst _) hm.at ⟨us ++ zs, rfl, h2.append g2⟩) q⟩
/-! texts -/
theorem mtd_startswith {z y : Str} (q : kd (.bl (Txt.startswith z y)) ms) : MtD X "str.startswith" (.str z) [.str y] ms kd := .of mt_startswith fun F v vs H Q rx rv S V => by
  obtain ⟨u, rfl, r1⟩ := rv.inv1
  exact ⟨z, y, rx, by rw [show u = .str y from r1], V.val (d := .bl _) S rfl q⟩
theorem mtd_endswith {z y : Str} (q : kd (.bl (Txt.endswith z y)) ms) : MtD X "str.endswith" (.str z) [.str y] ms kd := .of mt_endswith fun F v vs H Q rx rv S V => by
  obtain ⟨u, rfl, r1⟩ := rv.inv1
  exact ⟨z, y, rx, by rw [show u = .str y from r1], V.val (d := .bl _) S rfl q⟩
theorem mtd_isdigit {z : Str} (q : kd (.bl (Txt.isdigit z)) ms) : MtD X "str.isdigit" (.str z) [] ms kd := .of mt_isdigit fun F v vs H Q rx rv S V => ⟨z, rx, rv, trivial, V.val (d := .bl _) S rfl q⟩
theorem mtd_split {z y : Str} (hy : (y.length == 0) = false) (hz : z.length + 2 ≤ sizeLine) (q : ∀ p, kd (.adr p) ((p, .lst ((Txt.split z y).map D.str)) :: ms)) : MtD X "str.split" (.str z) [.str y] ms kd := .of mt_split fun F v vs H Q rx rv S V => by
  obtain ⟨u, rfl, r1⟩ := rv.inv1
  exact ⟨z, y, rx, by rw [show u = .str y from r1], hy, hz, fun p hp => V F (.ref p) (.adr p) _ _ (Le.refl F) rfl (S.new (o := .lst _) hp ⟨_, rfl, RepL.of_strs _⟩) (q p)⟩
theorem mtd_partition {z y : Str} (hy : (y.length == 0) = false) (hz : z.length ≤ sizeLine) (q : kd (.tup [.str (Txt.partition z y).1, .str (Txt.partition z y).2.1, .str (Txt.partition z y).2.2]) ms) : MtD X "str.partition" (.str z) [.str y] ms kd := .of mt_partition fun F v vs H Q rx rv S V => by
  obtain ⟨u, rfl, r1⟩ := rv.inv1
  exact ⟨z, y, rx, by rw [show u = .str y from r1], hy, hz, fun p hp => V _ (.ref p) (.tup [.str _, .str _, .str _]) ms _ (Le.new (S.free hp)) ⟨p, _, rfl, SqT.of upd_same, _, _, rfl, rfl, _, _, rfl, rfl, _, _, rfl, rfl, rfl⟩ (S.newF hp) q⟩
theorem mtd_join {z : Str} {d : D} {ys : List Str} (h : LsOf ms d (ys.map D.str)) (hl : (ys.map (·.length)).sum + ys.length * z.length ≤ 16777216) (q : kd (.str (Txt.join z ys)) ms) : MtD X "str.join" (.str z) [d] ms kd := .of mt_join fun F v vs H Q rx rv S V => by
  obtain ⟨u, rfl, r1⟩ := rv.inv1
  obtain ⟨p, us, rfl, h1, h2⟩ := h.at r1 S
  rw [h2.strs] at h1
  exact ⟨z, p, ys, rx, rfl, .inl (SqL.of h1), hl, V.val (d := .str _) S rfl q⟩

/-! ### f-strings -/
def DJ (X : Cx) (xw : DX) : List Expr → DEnv → MS → Str → (Str → MS → Prop) → Prop
  | [], _, ms, acc, k => k acc ms
  | e :: es, ds, ms, acc, k => DE X xw e ds ms fun x ms1 => ∃ y : Str, x = .str y ∧ (acc ++ y).length ≤ sizeLine ∧ DJ X xw es ds ms1 (acc ++ y) k
theorem dj_nil {ds : DEnv} {ms : MS} {acc : Str} {k : Str → MS → Prop} (q : k acc ms) : DJ X xw [] ds ms acc k := q
theorem dj_cons {es : List Expr} {ds : DEnv} {ms : MS} {acc : Str} {k : Str → MS → Prop} (h : DE X xw e ds ms fun x ms1 => ∃ y : Str, x = .str y ∧ (acc ++ y).length ≤ sizeLine ∧ DJ X xw es ds ms1 (acc ++ y) k) : DJ X xw (e :: es) ds ms acc k := h
theorem pj_w : ∀ es : List Expr, PJ X es (es.map (wE X))
  | [] => .nil
  | _ :: es => .cons pe_w (pj_w es)
theorem DJ.run : ∀ {es : List Expr} {ms : MS} {acc : Str} {k : Str → MS → Prop} {F : Hp} {σ : L2.St} {H : Hp} {W : WX} {Q : Str → Hp → Prop}, DJ X xw es ds ms acc k → At X xw F ds σ ms H W →
    (∀ F' out ms' H', Le F F' → Sep X.K F' ms' H' → k out ms' → Q out H') → tJs (es.map (wE X)) acc σ H Q
  | [], ms, acc, k, F, σ, H, W, Q, h, A, V => V F acc ms H (Le.refl F) A.sep h
  | e :: es, ms, acc, k, F, σ, H, W, Q, h, A, V => h F σ H _ W A fun F1 x d ms1 H1 e1 r1 S1 ⟨y, ey, hl, q⟩ => by
    subst ey
    exact ⟨y, r1, hl, DJ.run q (A.mv e1 S1) fun F2 out ms2 H2 e2 S2 q2 => V F2 out ms2 H2 (e1.trans e2) S2 q2⟩
theorem de_joined {v1 v2 : Expr} {rest : List Expr} (h : DJ X xw (v1 :: v2 :: rest) ds ms Str.empty fun out ms1 => kd (.str out) ms1) : DE X xw (.JoinedStr (v1 :: v2 :: rest) pos) ds ms kd :=
  .of (pe_joined (pj_w _)) fun F σ H Q W A V => h.run A fun F1 out ms1 H1 e1 S1 q => V F1 (.str out) (.str out) ms1 H1 e1 rfl S1 q
theorem de_fmtI (h : DE X xw e ds ms fun x ms1 => (∃ i : Int, x = .int i ∧ i.natAbs.log2 < 1920 ∧ kd (.str (toString i)) ms1) ∨ ∃ y : Str, x = .str y ∧ y.length ≤ sizeLine ∧ kd (.str y) ms1) : DE X xw (.FormattedValue e (-1) none pos) ds ms kd :=
  .of (pe_fmt pe_w) fun F σ H Q W A V => h F σ H _ W A fun F1 x d ms1 H1 e1 r1 S1 q => by
    rcases q with ⟨i, rfl, hi, q⟩ | ⟨y, rfl, hy, q⟩
    · exact .inr ⟨i, r1, hi, V F1 (.str _) (.str _) ms1 H1 e1 rfl S1 q⟩
    · exact .inl ⟨y, r1, hy, V F1 (.str _) (.str _) ms1 H1 e1 rfl S1 q⟩
end
theorem atI_nat {α : Type} {xs : List α} {i : Nat} {x : α} (h : xs[i]? = some x) : atI xs (i : Int) = some x := by
  have hi : i < xs.length := (List.getElem?_eq_some_iff.mp h).1
  unfold atI ixN
  rw [if_pos (Int.natCast_nonneg i), if_pos (by omega)]
  exact h
theorem atI_0 {α : Type} {x : α} {xs : List α} : atI (x :: xs) 0 = some x := atI_nat (i := 0) rfl
theorem atI_int {α : Type} {xs : List α} {i : Int} {x : α} (h0 : 0 ≤ i) (h : xs[i.toNat]? = some x) : atI xs i = some x := by
  have := atI_nat h
  rwa [Int.toNat_of_nonneg h0] at this
theorem ixd_strI {X : Cx} {a b : Expr} {ms : MS} {kd : DK} {z : Str} {j : Int} (hz : z.length ≤ sizeLine) (h0 : 0 ≤ j) (h1 : j < z.length) (hs : PlainIx b) (q : ∀ c, z.cps.toList[j.toNat]? = some c → kd (.str ⟨#[c]⟩) ms) : IxD X a b (.str z) (.int j) ms kd := by
  have hl : j.toNat < z.cps.toList.length := by
    rw [Array.length_toList]
    have : (j.toNat : Int) < z.length := by rw [Int.toNat_of_nonneg h0]; exact h1
    exact Int.ofNat_lt.mp this
  exact ixd_str (c := z.cps.toList[j.toNat]) hz (atI_int h0 (List.getElem?_eq_getElem hl)) hs (q _ (List.getElem?_eq_getElem hl))
theorem ixN_pos {n : Nat} {j : Int} (h0 : 0 ≤ j) (h1 : j < n) : ixN n j = some j.toNat := by
  unfold ixN
  rw [if_pos h0, if_pos (by omega)]
end DL

/-! DL3: targets, statements, loops, comprehensions, calls of defs. -/
namespace DL
open PySem PySem.Spec PyProof.Rows L2

/-! ### targets -/
def Agree (sl : List Nat) (σ σ' : L2.St) : Prop := σ'.length = σ.length ∧ ∀ j, j ∉ sl → σ'[j]? = σ[j]?
theorem Agree.refl {σ : L2.St} : Agree [] σ σ := ⟨rfl, fun _ _ => rfl⟩
def wG (X : Cx) (tg : Expr) : TG := fun v σ H Q => ∀ pins s u, Inv X pins σ H s → RelV v u → wpAny (model X.prog X.w) X.A (assign tg X.env u) (fun _ s' => ∃ σ' H', Inv X pins σ' H' s' ∧ Q σ' H') X.xe s
theorem pg_w {X : Cx} {tg : Expr} : PG X tg (wG X tg) := ⟨fun pins s σ H v u Q I r h => h pins s u I r⟩
def wGs (X : Cx) (ts : List Expr) : TGs := fun vs σ H Q => ∀ pins s us, Inv X pins σ H s → Vals vs us → wpAny (model X.prog X.w) X.A (assignInOrder ((assignEach ts X.env).map (·.2)) us) (fun _ s' => ∃ σ' H', Inv X pins σ' H' s' ∧ Q σ' H') X.xe s
theorem pgs_w {X : Cx} {ts : List Expr} : PGs X ts (wGs X ts) := ⟨fun pins s σ H v u Q I r h => h pins s u I r⟩
/-- the slots sl are set, nothing else -/
def VG (K : PySem.W.Frag) (F : Hp) (sl : List Nat) (σ : L2.St) (ke : DEnv → MS → Prop) (Q : L2.St → Hp → Prop) : Prop := ∀ F' ds' σ' ms' H', Le F F' → Agree sl σ σ' → SR K F' ds' σ' → Sep K F' ms' H' → ke ds' ms' → Q σ' H'
def DG (X : Cx) (xw : DX) (sl : List Nat) (tg : Expr) (d : D) (ds : DEnv) (ms : MS) (ke : DEnv → MS → Prop) : Prop := ∀ F σ H v Q W, At X xw F ds σ ms H W → Rep X.K F d v → VG X.K F sl σ ke Q → wG X tg v σ H Q
def DGs (X : Cx) (xw : DX) (sl : List Nat) (ts : List Expr) (xs : List D) (ds : DEnv) (ms : MS) (ke : DEnv → MS → Prop) : Prop := ∀ F σ H vs Q W, At X xw F ds σ ms H W → RepL X.K F xs vs → VG X.K F sl σ ke Q → wGs X ts vs σ H Q
section
variable {X : Cx} {xw : DX} {N : List Str} {k : Nat} {ds : DEnv} {ms : MS} {ke : DEnv → MS → Prop} {e a b c o : Expr} {es : List Expr} {pos p pos' apos cpos : Pos} {d : D} {sl sl' : List Nat}
theorem DG.of {tg : Expr} {t : TG} (h : PG X tg t) (q : ∀ F σ H v Q W, At X xw F ds σ ms H W → Rep X.K F d v → VG X.K F sl σ ke Q → t v σ H Q) : DG X xw sl tg d ds ms ke :=
  fun F σ H v Q W A r V pins s u I ru => h.run pins s σ H v u Q I ru (q F σ H v Q W A r V)
theorem dg_name (C : Ctx X N k) {x : Str} {i : Nat} {ds' : DEnv} (hi : Ix N x i) (hp : Put ds i (some d) ds') (q : ke ds' ms) (hx : Loc X.env.scope x) (hf : X.fn x = true ∨ X.env.scope.names.lookup x = some .local) : DG X xw [i] (.Name x pos) d ds ms ke :=
  .of (pg_name C.ndX (C.ix hi) hx hf) fun F σ H v Q W A r V => V F _ _ ms H (Le.refl F) ⟨List.length_set .., fun j hj => List.getElem?_set_ne (fun z => hj (by rw [z]; exact List.mem_cons_self))⟩ (by rw [hp.eq]; exact A.sr.set i r) A.sep q
theorem dgs_nil (q : ke ds ms) : DGs X xw [] [] [] ds ms ke := fun F σ H vs Q W A r V pins s us I ru => pgs_nil.run pins s σ H vs us Q I ru ⟨r, V F ds σ ms H (Le.refl F) .refl A.sr A.sep q⟩
theorem dgs_cons {ts : List Expr} {tg : Expr} {xs : List D} (h : DG X xw sl tg d ds ms fun ds1 ms1 => DGs X xw sl' ts xs ds1 ms1 ke)
    (hs : (assignEach (tg :: ts) X.env).map (·.2) = assign tg X.env :: (assignEach ts X.env).map (·.2)) : DGs X xw (sl ++ sl') (tg :: ts) (d :: xs) ds ms ke := fun F σ H vs Q W A r V pins s us I ru => by
  obtain ⟨v, r', e, h1, h2⟩ := r
  subst e
  refine (pgs_cons pg_w pgs_w hs).run pins s σ H _ us Q I ru ⟨v, r', rfl, h F σ H v _ W A h1 fun F1 ds1 σ1 ms1 H1 e1 a1 sr1 S1 k1 => ?_⟩
  refine k1 F1 σ1 H1 r' Q W (A.mvE e1 sr1 S1) (h2.mono e1) fun F2 ds2 σ2 ms2 H2 e2 a2 sr2 S2 k2 => V F2 ds2 σ2 ms2 H2 (e1.trans e2) ⟨a2.1.trans a1.1, fun j hj => ?_⟩ sr2 S2 k2
  rw [a2.2 j fun z => hj (List.mem_append_right _ z), a1.2 j fun z => hj (List.mem_append_left _ z)]
theorem dg_tup (C : Ctx X N k) {kt : Nat} {n : Nat} {xs : List D} (h : DGs X xw sl es xs ds ms ke) (hl : xs.length = n) (hn : (assignEach es X.env).length = n) (hst : (assignEach es X.env).findIdx? (·.1) = none) : DG X xw sl (.Tuple es kt pos) (.tup xs) ds ms ke :=
  .of (pg_tup C.calm pgs_w hn hst) fun F σ H v Q W A r V => by
    obtain ⟨a, vs, rfl, h1, h2⟩ := r
    exact ⟨a, vs, rfl, A.sep.sqT h1, by rw [h2.length, hl], h F σ H vs Q W A h2 V⟩
/-! stores by values -/
def wSt (X : Cx) : V → V → V → Hp → (Hp → Prop) → Prop := fun o i v H Q => ∀ pins s σ ov iv u, Inv X pins σ H s → RelV o ov → RelV i iv → RelV v u → wpAny (model X.prog X.w) X.A (setItem ov iv u) (fun _ s' => ∃ H', Inv X pins σ H' s' ∧ Q H') X.xe s
theorem pset_w : PSet X (wSt X) := fun pins s σ H o i v ov iv u Q I r1 r2 r3 h => h pins s σ ov iv u I r1 r2 r3
def StD (X : Cx) (o i v : D) (ms : MS) (km : MS → Prop) : Prop := ∀ F vo vi vv H Q, Rep X.K F o vo → Rep X.K F i vi → Rep X.K F v vv → Sep X.K F ms H → (∀ F' ms' H', Le F F' → Sep X.K F' ms' H' → km ms' → Q H') → wSt X vo vi vv H Q
theorem dg_sub (h : DE X xw o ds ms fun x ms1 => DE X xw c ds ms1 fun y ms2 => StD X x y d ms2 fun ms3 => ke ds ms3)
    (ha : ∀ v, assign (.Subscript o c pos) X.env v = (do
      let ov ← holding [v] (eval o X.env)
      let iv ← holding [v, ov] (eval c X.env)
      standAt pos
      holding [v, ov, iv] (setItem ov iv v)
      release [v, ov, iv] [])) : DG X xw [] (.Subscript o c pos) d ds ms ke :=
  .of (pg_sub pe_w pe_w pset_w ha) fun F σ H v Q W A r V => h F σ H _ W A fun F1 x d1 ms1 H1 e1 r1 S1 k1 => k1 F1 σ H1 _ W (A.mv e1 S1) fun F2 y d2 ms2 H2 e2 r2 S2 k2 =>
    k2 F2 x y v H2 _ (r1.mono e2) r2 (r.mono (e1.trans e2)) S2 fun F3 ms3 H3 e3 S3 q => V F3 ds σ ms3 H3 ((e1.trans e2).trans e3) .refl (A.sr.mono ((e1.trans e2).trans e3)) S3 q
theorem std_list {p : Addr} {i : Nat} {j : Int} {n : Nat} {xs : List D} {v : D} {ms' : MS} {km : MS → Prop} (hm : Ms ms i p (.lst xs)) (hj : ixN xs.length j = some n) (hp : MPut ms i (.lst (xs.set n v)) ms') (q : km ms') : StD X (.adr p) (.int j) v ms km := fun F vo vi vv H Q r1 r2 r3 S V pins s σ ov iv u I q1 q2 q3 => by
  obtain ⟨_, w, h1, us, rfl, h2⟩ := S.get hm.at
  obtain ⟨a, o, h3, rfl⟩ := hp.eq
  rw [hm.at] at h3
  cases h3
  exact set_list pins s σ H vo vi vv ov iv u Q I q1 q2 q3 ⟨p, us, j, n, r1, r2, h1, by rw [h2.length]; exact hj, V F _ _ (Le.refl F) (S.set (o' := .lst _) hm.at ⟨us.set n vv, rfl, h2.set n r3⟩) q⟩
/-- a dict with k put -/
def putD (kvs : List (Key × D)) (k : Key) (v : D) : List (Key × D) := if (kvs.any fun kv => decide (kv.1 = k)) = true then kvs.map (fun kv => if kv.1 = k then (kv.1, v) else kv) else kvs ++ [(k, v)]
theorem RepK.length {K : PySem.W.Frag} {F : Hp} : ∀ {ds : List (Key × D)} {vs : List (Key × V)}, RepK K F ds vs → vs.length = ds.length
  | [], _, h => by cases h; rfl
  | (_, _) :: _, _, ⟨v, r, h1, _, h3⟩ => by cases h1; rw [List.length_cons, List.length_cons, RepK.length h3]
theorem RepK.any {K : PySem.W.Frag} {F : Hp} (k : Key) : ∀ {ds : List (Key × D)} {vs : List (Key × V)}, RepK K F ds vs → (vs.any fun kv => decide (kv.1 = k)) = (ds.any fun kv => decide (kv.1 = k))
  | [], _, h => by cases h; rfl
  | (_, _) :: _, _, ⟨v, r, h1, _, h3⟩ => by cases h1; rw [List.any_cons, List.any_cons, RepK.any k h3]
theorem RepK.repl {K : PySem.W.Frag} {F : Hp} (k : Key) {d : D} {v : V} (g : Rep K F d v) : ∀ {ds : List (Key × D)} {vs : List (Key × V)}, RepK K F ds vs → RepK K F (ds.map fun kv => if kv.1 = k then (kv.1, d) else kv) (vs.map fun kv => if kv.1 = k then (kv.1, v) else kv)
  | [], _, h => by cases h; rfl
  | (k', _) :: _, _, ⟨w, r, h1, h2, h3⟩ => by
    cases h1
    rw [List.map_cons, List.map_cons]
    by_cases hk : k' = k
    · rw [if_pos hk, if_pos hk]; exact ⟨_, _, rfl, g, RepK.repl k g h3⟩
    · rw [if_neg hk, if_neg hk]; exact ⟨_, _, rfl, h2, RepK.repl k g h3⟩
theorem RepK.snoc {K : PySem.W.Frag} {F : Hp} (k : Key) {d : D} {v : V} (g : Rep K F d v) : ∀ {ds : List (Key × D)} {vs : List (Key × V)}, RepK K F ds vs → RepK K F (ds ++ [(k, d)]) (vs ++ [(k, v)])
  | [], _, h => by cases h; exact ⟨_, _, rfl, g, rfl⟩
  | (k', _) :: _, _, ⟨w, r, h1, h2, h3⟩ => by cases h1; exact ⟨_, _, rfl, h2, RepK.snoc k g h3⟩
theorem RepK.put {K : PySem.W.Frag} {F : Hp} (k : Key) {d : D} {v : V} (g : Rep K F d v) {ds : List (Key × D)} {vs : List (Key × V)} (h : RepK K F ds vs) : RepK K F (putD ds k d) (putK vs k v) := by
  unfold putD putK
  have e := h.any k
  rw [e]
  split
  · exact h.repl k g
  · exact h.snoc k g
theorem std_dic (C : Ctx X N k) {p : Addr} {i : Nat} {ky : Key} {kvs : List (Key × D)} {v y : D} {ms' : MS} {km : MS → Prop} (hm : Ms ms i p (.dic kvs)) (hy : y = keyD ky) (hl : kvs.length < sizeLine) (hp : MPut ms i (.dic (putD kvs ky v)) ms') (q : km ms') : StD X (.adr p) y v ms km := fun F vo vi vv H Q r1 r2 r3 S V pins s σ ov iv u I q1 q2 q3 => by
  obtain ⟨_, w, h1, us, rfl, h2⟩ := S.get hm.at
  obtain ⟨a, o, h3, rfl⟩ := hp.eq
  rw [hm.at] at h3
  cases h3
  subst hy
  have e := key_rep r2
  subst e
  obtain rfl : vo = .ref p := r1
  obtain rfl : ov = .ref p := q1
  exact d_setItem C.hu I (DPut.k (v := vv) h1 (by rw [h2.length]; exact hl)) q2 q3 fun s' I' => ⟨_, I', V F _ _ (Le.refl F) (S.set (o' := .dic _) hm.at ⟨putK us ky vv, rfl, h2.put ky r3⟩) q⟩

/-! ### statements -/
variable {E : DEnds} {st : Stmt} {rest body orelse : List Stmt}
theorem DS.of {t : TS} (h : PS X st t) (q : ∀ F σ H D W, At X xw F ds σ ms H W → EC X.K F E D → t D σ H) : DS X xw st ds ms E := fun F σ H D W A V pins s I => h.run pins s σ H D I (q F σ H D W A V)
theorem dss_nil (q : E.nx ds ms) : DSs X xw [] ds ms E := fun F σ H D W A V pins s I => pss_nil.run pins s σ H D I (V.nx F ds σ ms H (Le.refl F) A.sr A.sep q)
theorem dss_cons (h : DS X xw st ds ms { E with nx := fun ds1 ms1 => DSs X xw rest ds1 ms1 E }) : DSs X xw (st :: rest) ds ms E := fun F σ H D W A V pins s I =>
  (pss_cons ps_w pss_w).run pins s σ H D I (h F σ H { D with nx := wSs X rest D } W A ⟨fun F1 ds1 σ1 ms1 H1 e1 sr1 S1 k1 => k1 F1 σ1 H1 D W (A.mvE e1 sr1 S1) (V.mono e1), V.rt, V.bk, V.ct⟩)
/-- a statement, what holds behind it, the rest -/
theorem dss_cut (I : DEnv → MS → Prop) (h : DS X xw st ds ms { E with nx := I }) (r : ∀ ds' ms', I ds' ms' → DSs X xw rest ds' ms' E) : DSs X xw (st :: rest) ds ms E := dss_cons fun F σ H D W A V =>
  h F σ H D W A ⟨fun F1 ds1 σ1 ms1 H1 e1 sr1 S1 k1 => V.nx F1 ds1 σ1 ms1 H1 e1 sr1 S1 (r ds1 ms1 k1), V.rt, V.bk, V.ct⟩
theorem ds_asg {tg : Expr} (h : DE X xw e ds ms fun d ms1 => DG X xw sl tg d ds ms1 E.nx) (hs : swapsWithSole [tg] e pos.line X.env = pure false) (hw : swappedStores [tg] e X.env = pure none)
    (h1 : (assignEach [tg] X.env).map (·.2) = [assign tg X.env]) : DS X xw (.Assign [tg] e pos) ds ms E :=
  .of (ps_asg pe_w pg_w hs hw h1) fun F σ H D W A V => h F σ H _ W A fun F1 x d ms1 H1 e1 r1 S1 k1 => k1 F1 σ H1 x D.nx W (A.mv e1 S1) r1 fun F2 ds2 σ2 ms2 H2 e2 a2 sr2 S2 k2 => V.nx F2 ds2 σ2 ms2 H2 (e1.trans e2) sr2 S2 k2
theorem ds_set (C : Ctx X N k) {x : Str} {i : Nat} (hi : Ix N x i) (h : DE X xw e ds ms fun d ms1 => ∃ ds', Put ds i (some d) ds' ∧ E.nx ds' ms1) (hx : Loc X.env.scope x) (hs : swapsWith e (some (.Name x pos')) pos.line X.env = pure false)
    (hf : X.fn x = true ∨ X.env.scope.names.lookup x = some .local) : DS X xw (.Assign [.Name x pos'] e pos) ds ms E :=
  .of (ps_set C.ndX (C.ix hi) hx pe_w hs hf) fun F σ H D W A V => h F σ H _ W A fun F1 v d ms1 H1 e1 r1 S1 ⟨ds', hp, q⟩ => V.nx F1 ds' _ ms1 H1 e1 (by rw [hp.eq]; exact (A.sr.mono e1).set i r1) S1 q
theorem ds_par (C : Ctx X N k) {x y : Str} {i j : Nat} {px py pt : Pos} {kt k2 pt2} (hi : Ix N x i) (hj : Ix N y j) (h : DA X xw [a, b] ds ms fun vs ms1 => ∃ v w ds' ds'', vs = [v, w] ∧ Put ds i (some v) ds' ∧ Put ds' j (some w) ds'' ∧ E.nx ds'' ms1) (hij : i ≠ j)
    (hx : X.env.scope.names.lookup x = some .local) (hy : X.env.scope.names.lookup y = some .local)
    (hw : swappedStores [.Tuple [.Name x px, .Name y py] kt pt] (.Tuple [a, b] k2 pt2) X.env = pure (some [x, y]))
    (hs : swapsWithSole [.Tuple [.Name x px, .Name y py] kt pt] (.Tuple [a, b] k2 pt2) pos.line X.env = pure false) :
    DS X xw (.Assign [.Tuple [.Name x px, .Name y py] kt pt] (.Tuple [a, b] k2 pt2) pos) ds ms E :=
  .of (ps_par C.calm C.ndX (C.ix hi) (C.ix hj) hij hx hy pa_w hw hs) fun F σ H D W A V => h F σ H _ W A fun F1 vs d ms1 H1 e1 r1 S1 q => by
    obtain ⟨v, w, ds', ds'', e, p1, p2, q⟩ := q
    subst e
    obtain ⟨v', w', rfl, g1, g2⟩ := r1.inv2
    exact ⟨v', w', rfl, V.nx F1 ds'' _ ms1 H1 e1 (by rw [p2.eq, p1.eq]; exact ((A.sr.mono e1).set i g1).set j g2) S1 q⟩
theorem ex_par {v w : D} {ds ds1 ds2 : DEnv} {i j : Nat} {Q : DEnv → Prop} (h1 : Put ds i (some v) ds1) (h2 : Put ds1 j (some w) ds2) (q : Q ds2) : ∃ v' w' ds' ds'', [v, w] = [v', w'] ∧ Put ds i (some v') ds' ∧ Put ds' j (some w') ds'' ∧ Q ds'' := ⟨v, w, ds1, ds2, rfl, h1, h2, q⟩
theorem ds_aug (C : Ctx X N k) {x : Str} {i : Nat} {d0 : D} {op : Operator} (hi : Nm N ds x i d0) (h : DE X xw e ds ms fun d ms1 => OpD X (inplaceOp op) d0 d ms1 fun z ms2 => ∃ ds', Put ds i (some z) ds' ∧ E.nx ds' ms2) (hx : Loc X.env.scope x)
    (hf : X.fn x = true ∨ X.env.scope.names.lookup x = some .local) : DS X xw (.AugAssign (.Name x pos') op e pos) ds ms E :=
  .of (ps_aug (ti := wOp X (inplaceOp op)) C.ndX (by rw [C.names]; exact hi.at.1) hx pe_w opr_w hf) fun F σ H D W A V => by
    obtain ⟨v, h1, h2⟩ := A.sr.at_ i d0 hi.at.2
    exact ⟨v, h1, h F σ H _ W A fun F1 u d ms1 H1 e1 r1 S1 k1 => k1 F1 v u H1 _ (h2.mono e1) r1 S1 fun F2 z dz ms2 H2 e2 r2 S2 ⟨ds', hp, q⟩ => V.nx F2 ds' _ ms2 H2 (e1.trans e2) (by rw [hp.eq]; exact (A.sr.mono (e1.trans e2)).set i r2) S2 q⟩
theorem opd_iadd {i j : Int} {kd : DK} (q : kd (.int (i + j)) ms) : OpD X (inplaceOp .Add) (.int i) (.int j) ms kd := .of iop_add fun F v u H Q rv ru S V => ⟨i, j, rv, ru, V.val (d := .int _) S rfl q⟩
theorem opd_isub {i j : Int} {kd : DK} (q : kd (.int (i - j)) ms) : OpD X (inplaceOp .Sub) (.int i) (.int j) ms kd := .of iop_sub fun F v u H Q rv ru S V => ⟨i, j, rv, ru, V.val (d := .int _) S rfl q⟩
theorem opd_imul {i j : Int} {kd : DK} (hc : CMul i j) (q : kd (.int (i * j)) ms) : OpD X (inplaceOp .Mult) (.int i) (.int j) ms kd := .of iop_mul fun F v u H Q rv ru S V => ⟨i, j, rv, ru, hc, V.val (d := .int _) S rfl q⟩
theorem ds_expr (h : DE X xw e ds ms fun _ ms1 => E.nx ds ms1) (hs : swapsWith e none pos.line X.env = pure false) : DS X xw (.Expr e pos) ds ms E :=
  .of (ps_expr pe_w hs) fun F σ H D W A V => h F σ H _ W A fun F1 v d ms1 H1 e1 r1 S1 q => V.nx F1 ds σ ms1 H1 e1 (A.sr.mono e1) S1 q
theorem ds_ret (h : DE X xw e ds ms E.rt) : DS X xw (.Return (some e) pos) ds ms E := .of (ps_ret pe_w) fun F σ H D W A V => h F σ H _ W A V.rt
theorem ds_retN (h : E.rt .non ms) : DS X xw (.Return none pos) ds ms E := .of ps_retN fun F σ H D W A V => V.rt F .non .non ms H (Le.refl F) rfl A.sep h
theorem ds_break (h : E.bk ds ms) : DS X xw (.Break pos) ds ms E := .of ps_break fun F σ H D W A V => V.bk F ds σ ms H (Le.refl F) A.sr A.sep h
theorem ds_cont (h : E.ct ds ms) : DS X xw (.Continue pos) ds ms E := .of ps_continue fun F σ H D W A V => V.ct F ds σ ms H (Le.refl F) A.sr A.sep h
theorem ds_pass (h : E.nx ds ms) : DS X xw (.Pass pos) ds ms E := .of ps_pass fun F σ H D W A V => V.nx F ds σ ms H (Le.refl F) A.sr A.sep h
theorem ds_if {t : Expr} (h : DT X xw t ds ms fun b ms1 => (b = true → DSs X xw body ds ms1 E) ∧ (b = false → DSs X xw orelse ds ms1 E)) : DS X xw (.If t body orelse pos) ds ms E :=
  .of (ps_if pt_w pss_w pss_w) fun F σ H D W A V => h F σ H _ W A fun F1 b ms1 H1 e1 S1 ⟨q1, q0⟩ => by
    cases b with
    | true => exact q1 rfl F1 σ H1 D W (A.mv e1 S1) (V.mono e1)
    | false => exact q0 rfl F1 σ H1 D W (A.mv e1 S1) (V.mono e1)

theorem len_ok {n : Nat} (h : n ≤ 100000) : n ≤ sizeLine := Nat.le_trans h (by decide)
theorem len_lt {n : Nat} (h : n < 100000) : n < sizeLine := Nat.lt_of_lt_of_le h (by decide)
/-! ### what is walked -/
def wI (X : Cx) (tg iter : Expr) : TI := fun σ H R => ∀ pins s, Inv X pins σ H s → wpAny (model X.prog X.w) X.A (eval iter X.env) (fun v s1 => wpAny (model X.prog X.w) X.A (pyIter v) (PIE X pins σ tg R) X.xe s1) X.xe s
theorem pi_w {tg iter : Expr} : PI X tg iter (wI X tg iter) := ⟨fun pins s σ H R I h => h pins s I⟩
def ItOk (K : PySem.W.Frag) (F : Hp) (J : It) (xs : List D) (keep : MS → Prop) : Prop := ∀ F' ms' H', Le F F' → Sep K F' ms' H' → keep ms' → J.stop xs.length H' ∧ ∀ i x, xs[i]? = some x → J.go i H' ∧ ∀ v H2, J.yld i H' v H2 → ∃ F2, Le F' F2 ∧ Sep K F2 ms' H2 ∧ Rep K F2 x v
def DIt (X : Cx) (xw : DX) (tg iter : Expr) (ds : DEnv) (ms : MS) (KK : List D → (MS → Prop) → MS → Prop) : Prop := ∀ F σ H R W, At X xw F ds σ ms H W →
  (∀ F' xs keep ms' H' J, Le F F' → Sep X.K F' ms' H' → ItOk X.K F' J xs keep → KK xs keep ms' → R J H') → wI X tg iter σ H R
variable {tg iter : Expr} {KK : List D → (MS → Prop) → MS → Prop}
theorem DIt.of {wi : TI} (h : PI X tg iter wi) (q : ∀ F σ H R W, At X xw F ds σ ms H W → (∀ F' xs keep ms' H' J, Le F F' → Sep X.K F' ms' H' → ItOk X.K F' J xs keep → KK xs keep ms' → R J H') → wi σ H R) : DIt X xw tg iter ds ms KK :=
  fun F σ H R W A V pins s I => h.run pins s σ H R I (q F σ H R W A V)
theorem dit_ls (h : DE X xw iter ds ms fun d ms1 => ∃ xs, LsOf ms1 d xs ∧ KK xs (fun ms' => LsOf ms' d xs) ms1) : DIt X xw tg iter ds ms KK :=
  .of (pi_list pe_w) fun F σ H R W A V => h F σ H _ W A fun F1 v d ms1 H1 e1 r1 S1 ⟨xs, hl, q⟩ => by
    obtain ⟨p, vs, rfl, h1, h2⟩ := hl.at r1 S1
    refine ⟨p, rfl, ⟨vs, SqL.of h1⟩, V F1 xs _ ms1 H1 (Itl X.K p) e1 S1 (fun F' ms' H' e' S' hk => ?_) q⟩
    obtain ⟨p', us, z, g1, g2⟩ := hk.at (r1.mono e') S'
    cases z
    refine ⟨⟨us, SqL.of g1, by rw [g2.length]; exact Nat.le_refl _⟩, fun i x hx => ?_⟩
    obtain ⟨w, w1, w2⟩ := g2.get hx
    exact ⟨⟨us, w, SqL.of g1, w1⟩, fun v H2 ⟨hH, y⟩ => ⟨F', Le.refl F', by rw [hH]; exact S', by have e := (y us (SqL.of g1)).symm.trans w1; cases e; exact w2⟩⟩
theorem dit_tup (h : DE X xw iter ds ms fun d ms1 => ∃ xs, d = .tup xs ∧ KK xs (fun _ => True) ms1) : DIt X xw tg iter ds ms KK :=
  .of (pi_tup pe_w) fun F σ H R W A V => h F σ H _ W A fun F1 v d ms1 H1 e1 r1 S1 ⟨xs, ed, q⟩ => by
    subst ed
    obtain ⟨p, vs, rfl, h1, h2⟩ := r1
    refine ⟨p, rfl, ⟨vs, S1.sqT h1⟩, V F1 xs _ ms1 H1 (Itt X.K p) e1 S1 (fun F' ms' H' e' S' hk => ?_) q⟩
    have g1 := S'.sqT (e'.sqT h1)
    refine ⟨⟨vs, g1, by rw [h2.length]; exact Nat.le_refl _⟩, fun i x hx => ?_⟩
    obtain ⟨w, w1, w2⟩ := h2.get hx
    exact ⟨⟨vs, w, g1, w1⟩, fun v H2 ⟨hH, y⟩ => ⟨F', Le.refl F', by rw [hH]; exact S', by have e := (y vs g1).symm.trans w1; cases e; exact w2.mono e'⟩⟩
/-- 0, 1, .. -/
def rangeD (lo : Int) (n : Nat) : List D := (List.range n).map fun (i : Nat) => D.int (lo + (i : Int))
theorem rangeD_get {lo : Int} {n i : Nat} {x : D} (h : (rangeD lo n)[i]? = some x) : i < n ∧ x = .int (lo + (i : Int)) := by
  unfold rangeD at h
  rw [List.getElem?_map] at h
  by_cases hi : i < n
  · rw [List.getElem?_range hi] at h
    cases h
    exact ⟨hi, rfl⟩
  · rw [List.getElem?_eq_none (by rw [List.length_range]; omega)] at h
    cases h
theorem rangeD_len (lo : Int) (n : Nat) : (rangeD lo n).length = n := by unfold rangeD; rw [List.length_map, List.length_range]
theorem itr_ok {K : PySem.W.Frag} {F : Hp} {lo : Int} {n : Nat} : ItOk K F (Itr lo n) (rangeD lo n) fun _ => True := fun F' ms' H' e' S' hk => by
  refine ⟨by rw [rangeD_len]; exact Nat.le_refl _, fun i x hx => ?_⟩
  obtain ⟨hi, rfl⟩ := rangeD_get hx
  exact ⟨hi, fun v H2 ⟨hH, y⟩ => ⟨F', Le.refl F', by rw [hH]; exact S', y⟩⟩
theorem dit_range1 (hm : X.mg "range" = none) (h : DE X xw a ds ms fun d ms1 => ∃ n : Int, d = .int n ∧ -(2 ^ 62) ≤ n ∧ n < 2 ^ 62 ∧ KK (rangeD 0 n.toNat) (fun _ => True) ms1) (hg : Gl X "range")
    (hs : starEach [a] X.env = [(false, eval a X.env)]) (hs1 : starEach [a] X.env = (false, eval a X.env) :: starEach [] X.env) : DIt X xw tg (.Call (.Name "range" p) [a] [] pos) ds ms KK :=
  .of (pi_range1 hg hm pa_w hs) fun F σ H R W A V => (da_cons (kd := fun vs ms1 => ∃ d, vs = [d] ∧ ∃ n : Int, d = .int n ∧ -(2 ^ 62) ≤ n ∧ n < 2 ^ 62 ∧ KK (rangeD 0 n.toNat) (fun _ => True) ms1) (h.imp fun d ms1 q => da_nil ⟨d, rfl, q⟩) hs1) F σ H _ W A
    fun F1 vs xs ms1 H1 e1 r1 S1 ⟨d, ev, n, ed, h1, h2, q⟩ => by
      subst ev ed
      obtain ⟨v, rfl, g⟩ := r1.inv1
      exact ⟨n, by rw [show v = .int n from g], h1, h2, V F1 _ _ ms1 H1 _ e1 S1 itr_ok q⟩
theorem dit_range2 (hm : X.mg "range" = none) (h : DE X xw a ds ms fun d ms1 => DE X xw b ds ms1 fun d' ms2 => ∃ n m : Int, d = .int n ∧ d' = .int m ∧ (-(2 ^ 62) ≤ n ∧ n < 2 ^ 62 ∧ -(2 ^ 62) ≤ m ∧ m < 2 ^ 62) ∧ KK (rangeD n (m - n).toNat) (fun _ => True) ms2) (hg : Gl X "range")
    (hs : starEach [a, b] X.env = [(false, eval a X.env), (false, eval b X.env)]) (hs2 : starEach [b] X.env = [(false, eval b X.env)])
    (hs1 : starEach [a, b] X.env = (false, eval a X.env) :: starEach [b] X.env) (hs3 : starEach [b] X.env = (false, eval b X.env) :: starEach [] X.env) : DIt X xw tg (.Call (.Name "range" p) [a, b] [] pos) ds ms KK :=
  .of (pi_range2 hg hm pa_w hs hs2) fun F σ H R W A V => (da_cons (kd := fun vs ms1 => ∃ d d', vs = [d, d'] ∧ ∃ n m : Int, d = .int n ∧ d' = .int m ∧ (-(2 ^ 62) ≤ n ∧ n < 2 ^ 62 ∧ -(2 ^ 62) ≤ m ∧ m < 2 ^ 62) ∧ KK (rangeD n (m - n).toNat) (fun _ => True) ms1)
    (h.imp fun d ms1 q => da_cons (q.imp fun d' ms2 q2 => da_nil ⟨d, d', rfl, q2⟩) hs3) hs1) F σ H _ W A
    fun F1 vs xs ms1 H1 e1 r1 S1 ⟨d, d', ev, n, m, ed, ed', hb, q⟩ => by
      subst ev ed ed'
      obtain ⟨v, u, rfl, g, g'⟩ := r1.inv2
      exact ⟨n, m, by rw [show v = .int n from g, show u = .int m from g'], hb, V F1 _ _ ms1 H1 _ e1 S1 itr_ok q⟩
def signD (z : Str) : List D := z.cps.toList.map fun c => D.str ⟨#[c]⟩
theorem dit_str (h : DE X xw iter ds ms fun d ms1 => ∃ z, d = .str z ∧ KK (signD z) (fun _ => True) ms1) : DIt X xw tg iter ds ms KK :=
  .of (pi_str pe_w) fun F σ H R W A V => h F σ H _ W A fun F1 v d ms1 H1 e1 r1 S1 ⟨z, ed, q⟩ => by
    subst ed
    refine ⟨z, r1, V F1 _ _ ms1 H1 (Its z) e1 S1 (fun F' ms' H' e' S' hk => ?_) q⟩
    refine ⟨by unfold signD; rw [List.length_map, Array.length_toList]; exact Nat.le_refl _, fun i x hx => ?_⟩
    unfold signD at hx
    rw [List.getElem?_map, Array.getElem?_toList] at hx
    cases hc : z.cps[i]? with
    | none => rw [hc] at hx; cases hx
    | some c =>
      rw [hc] at hx
      cases hx
      exact ⟨(Array.getElem?_eq_some_iff.mp hc).1, fun v H2 ⟨hH, c', y1, y2⟩ => ⟨F', Le.refl F', by rw [hH]; exact S', by rw [hc] at y1; cases y1; exact y2⟩⟩
/-- the pairs (i, x) -/
def enumD (xs : List D) : List D := (List.range xs.length).zipWith (fun (i : Nat) x => D.tup [.int (i : Int), x]) xs
theorem enumD_get {xs : List D} {i : Nat} {x : D} (h : (enumD xs)[i]? = some x) : ∃ y, xs[i]? = some y ∧ x = .tup [.int (i : Int), y] := by
  unfold enumD at h
  rw [List.getElem?_zipWith] at h
  by_cases hi : i < xs.length
  · rw [List.getElem?_range hi, List.getElem?_eq_getElem hi] at h
    cases h
    exact ⟨_, List.getElem?_eq_getElem hi, rfl⟩
  · rw [List.getElem?_eq_none (l := List.range xs.length) (by rw [List.length_range]; omega)] at h
    cases h
theorem enumD_len (xs : List D) : (enumD xs).length = xs.length := by unfold enumD; rw [List.length_zipWith, List.length_range, Nat.min_self]
theorem dit_enum {elts : List Expr} {kk : Nat} {tpos : Pos} (hm : X.mg "enumerate" = none) (h : DE X xw a ds ms fun d ms1 => ∃ xs, LsOf ms1 d xs ∧ KK (enumD xs) (fun ms' => LsOf ms' d xs) ms1) (hg : Gl X "enumerate")
    (hs : starEach [a] X.env = [(false, eval a X.env)]) (hs1 : starEach [a] X.env = (false, eval a X.env) :: starEach [] X.env) : DIt X xw (.Tuple elts kk tpos) (.Call (.Name "enumerate" p) [a] [] pos) ds ms KK :=
  .of (pi_enum hg hm pa_w hs) fun F σ H R W A V => (da_cons (kd := fun vs ms1 => ∃ d, vs = [d] ∧ ∃ xs, LsOf ms1 d xs ∧ KK (enumD xs) (fun ms' => LsOf ms' d xs) ms1) (h.imp fun d ms1 q => da_nil ⟨d, rfl, q⟩) hs1) F σ H _ W A
    fun F1 vs xs ms1 H1 e1 r1 S1 ⟨d, ev, xs, hl, q⟩ => by
      subst ev
      obtain ⟨v, rfl, g0⟩ := r1.inv1
      obtain ⟨p, vs, rfl, h1, h2⟩ := hl.at g0 S1
      refine ⟨p, vs, rfl, SqL.of h1, V F1 _ _ ms1 H1 (Ite X.K p) e1 S1 (fun F' ms' H' e' S' hk => ?_) q⟩
      obtain ⟨p', us, z, g1, g2⟩ := hk.at (g0.mono e') S'
      cases z
      refine ⟨⟨us, SqL.of g1, by rw [g2.length, enumD_len]; exact Nat.le_refl _⟩, fun i x hx => ?_⟩
      obtain ⟨y, hy, rfl⟩ := enumD_get hx
      obtain ⟨w, w1, w2⟩ := g2.get hy
      refine ⟨⟨us, w, SqL.of g1, w1⟩, fun v H2 ⟨T, x', ev, hT, eH, hx'⟩ => ?_⟩
      have e := (hx' us (SqL.of g1)).symm.trans w1
      cases e
      have l := Le.new (F := F') (o := .tup [.int (i : Nat), w]) (S'.free hT)
      exact ⟨_, l, by rw [eH]; exact S'.newF hT, T, _, ev, SqT.of upd_same, _, _, rfl, rfl, _, _, rfl, w2.mono l, rfl⟩
/-- the pairs (x, y) -/
def zipD (xs ys : List D) : List D := List.zipWith (fun x y => D.tup [x, y]) xs ys
theorem zipD_get {xs ys : List D} {i : Nat} {x : D} (h : (zipD xs ys)[i]? = some x) : ∃ y z, xs[i]? = some y ∧ ys[i]? = some z ∧ x = .tup [y, z] := by
  unfold zipD at h
  rw [List.getElem?_zipWith] at h
  cases hx : xs[i]? with
  | none => rw [hx] at h; cases h
  | some y =>
    cases hy : ys[i]? with
    | none => rw [hx, hy] at h; cases h
    | some z => rw [hx, hy] at h; cases h; exact ⟨y, z, rfl, rfl, rfl⟩
theorem dit_zip {elts : List Expr} {kk : Nat} {tpos : Pos} (hm : X.mg "zip" = none) (h : DE X xw a ds ms fun d ms1 => DE X xw b ds ms1 fun d' ms2 => ∃ xs ys, LsOf ms2 d xs ∧ LsOf ms2 d' ys ∧ KK (zipD xs ys) (fun ms' => LsOf ms' d xs ∧ LsOf ms' d' ys) ms2) (hg : Gl X "zip")
    (hs : starEach [a, b] X.env = (false, eval a X.env) :: starEach [b] X.env) (hpl : (backTo pos (starEach [b] X.env)).any (·.1) = false) (hs3 : starEach [b] X.env = (false, eval b X.env) :: starEach [] X.env) : DIt X xw (.Tuple elts kk tpos) (.Call (.Name "zip" p) [a, b] [] pos) ds ms KK :=
  .of (pi_zip hg hm pa_w hs hpl) fun F σ H R W A V => (da_cons (kd := fun vs ms1 => ∃ d d', vs = [d, d'] ∧ ∃ xs ys, LsOf ms1 d xs ∧ LsOf ms1 d' ys ∧ KK (zipD xs ys) (fun ms' => LsOf ms' d xs ∧ LsOf ms' d' ys) ms1)
    (h.imp fun d ms1 q => da_cons (q.imp fun d' ms2 q2 => da_nil ⟨d, d', rfl, q2⟩) hs3) hs) F σ H _ W A
    fun F1 vs xs ms1 H1 e1 r1 S1 ⟨d, d', ev, xs, ys, hx, hy, q⟩ => by
      subst ev
      obtain ⟨v, u, rfl, g0, r2⟩ := r1.inv2
      obtain ⟨p, vs, rfl, h1, h2⟩ := hx.at g0 S1
      obtain ⟨p2, vs2, rfl, h3, h4⟩ := hy.at r2 S1
      refine ⟨p, p2, vs, vs2, rfl, SqL.of h1, SqL.of h3, V F1 _ _ ms1 H1 (Itz X.K p p2) e1 S1 (fun F' ms' H' e' S' hk => ?_) q⟩
      obtain ⟨p', us, z, g1, g2⟩ := hk.1.at (g0.mono e') S'
      cases z
      obtain ⟨p', us2, z, g3, g4⟩ := hk.2.at (r2.mono e') S'
      cases z
      have hl : (zipD xs ys).length = min xs.length ys.length := List.length_zipWith ..
      refine ⟨⟨us, us2, SqL.of g1, SqL.of g3, by rw [g2.length, g4.length, hl]; omega⟩, fun i x hx => ?_⟩
      obtain ⟨y, z, hy, hz, rfl⟩ := zipD_get hx
      obtain ⟨w, w1, w2⟩ := g2.get hy
      obtain ⟨w', w3, w4⟩ := g4.get hz
      refine ⟨⟨us, us2, w, w', SqL.of g1, SqL.of g3, w1, w3⟩, fun v H2 ⟨T, x', y', ev, hT, eH, hx', hy'⟩ => ?_⟩
      have e := (hx' us (SqL.of g1)).symm.trans w1
      cases e
      have e := (hy' us2 (SqL.of g3)).symm.trans w3
      cases e
      have l := Le.new (F := F') (o := .tup [w, w']) (S'.free hT)
      exact ⟨_, l, by rw [eH]; exact S'.newF hT, T, _, ev, SqT.of upd_same, _, _, rfl, w2.mono l, _, _, rfl, w4.mono l, rfl⟩

/-! ### for, while -/
theorem ds_for (C : Ctx X N k) (own : PassesOwn (model X.prog X.w) X.A X.env X.xe)
    (h : DIt X xw tg iter ds ms fun xs keep ms1 => ∃ I : Nat → DEnv → MS → Prop, I 0 ds ms1 ∧ (∀ i ds' ms', i ≤ xs.length → I i ds' ms' → keep ms') ∧
      (∀ i x ds' ms', xs[i]? = some x → I i ds' ms' → DG X xw sl tg x ds' ms' fun ds2 ms2 => DSs X xw body ds2 ms2 { E with nx := fun ds3 ms3 => ∃ ms0, MLe X.K ms3 ms0 ∧ I (i + 1) ds3 ms0, ct := fun ds3 ms3 => ∃ ms0, MLe X.K ms3 ms0 ∧ I (i + 1) ds3 ms0, bk := E.nx }) ∧ ∀ ds' ms', I xs.length ds' ms' → E.nx ds' ms')
    (hs : ∀ x, foldedSetIterable iter X.env x = pure x) : DS X xw (.For tg iter body [] pos) ds ms E :=
  .of (ps_for own C.calm pi_w pg_w pss_w hs) fun F σ H D W A V => h F σ H _ W A fun F1 xs keep ms1 H1 J e1 S1 ok ⟨I, i0, ik, is, ie⟩ => by
    refine ⟨fun i m σ' H' => ∃ F' ds' ms', Le F1 F' ∧ SR X.K F' ds' σ' ∧ Sep X.K F' ms' H' ∧ I i ds' ms' ∧ i + m = xs.length, ⟨xs.length, F1, ds, ms1, Le.refl F1, A.sr.mono e1, S1, i0, by omega⟩, fun i m σ' H' ⟨F2, ds2, ms2, e2, sr2, S2, i2, hm⟩ => ?_⟩
    obtain ⟨stop, go⟩ := ok F2 ms2 H' e2 S2 (ik i ds2 ms2 (by omega) i2)
    by_cases hi : i < xs.length
    · obtain ⟨g, y⟩ := go i _ (List.getElem?_eq_getElem hi)
      refine .inr ⟨g, fun σ' H' => ∃ F' ds' ms', Le F1 F' ∧ SR X.K F' ds' σ' ∧ Sep X.K F' ms' H' ∧ I (i + 1) ds' ms', fun σ3 H3 ⟨F3, ds3, ms3, e3, sr3, S3, i3⟩ => ⟨m - 1, by omega, F3, ds3, ms3, e3, sr3, S3, i3, by omega⟩, fun v H2 hy => ?_⟩
      obtain ⟨F3, e3, S3, r3⟩ := y v H2 hy
      have A3 : At X xw F3 ds2 σ' ms2 H2 W := ⟨sr2.mono e3, S3, A.tk, A.xc.mono ((e1.trans e2).trans e3)⟩
      refine is i _ ds2 ms2 (List.getElem?_eq_getElem hi) i2 F3 σ' H2 v _ W A3 r3 fun F4 ds4 σ4 ms4 H4 e4 a4 sr4 S4 k4 => ?_
      have l4 := (e2.trans e3).trans e4
      exact k4 F4 σ4 H4 _ W (A3.mvE e4 sr4 S4) ⟨fun F5 ds5 σ5 ms5 H5 e5 sr5 S5 ⟨ms0, m0, i5⟩ => ⟨F5, ds5, ms0, l4.trans e5, sr5, m0 _ _ S5, i5⟩, V.rt.mono (e1.trans l4), V.nx.mono (e1.trans l4), fun F5 ds5 σ5 ms5 H5 e5 sr5 S5 ⟨ms0, m0, i5⟩ => ⟨F5, ds5, ms0, l4.trans e5, sr5, m0 _ _ S5, i5⟩⟩
    · have e : i = xs.length := by omega
      subst e
      exact .inl ⟨stop, V.nx F2 ds2 σ' ms2 H' (e1.trans e2) sr2 S2 (ie ds2 ms2 i2)⟩
theorem ds_while (own : PassesOwn (model X.prog X.w) X.A X.env X.xe) {t : Expr} (I : Nat → DEnv → MS → Prop) (m0 : Nat) (i0 : I m0 ds ms)
    (h : ∀ m ds' ms', I m ds' ms' → DT X xw t ds' ms' fun b ms2 => (b = true → DSs X xw body ds' ms2 { E with nx := fun ds3 ms3 => ∃ m', m' < m ∧ I m' ds3 ms3, ct := fun ds3 ms3 => ∃ m', m' < m ∧ I m' ds3 ms3, bk := E.nx }) ∧ (b = false → E.nx ds' ms2)) :
    DS X xw (.While t body [] pos) ds ms E :=
  .of (ps_while own pt_w pss_w) fun F σ H D W A V => by
    refine ⟨fun m σ' H' => ∃ F' ds' ms', Le F F' ∧ SR X.K F' ds' σ' ∧ Sep X.K F' ms' H' ∧ I m ds' ms', ⟨m0, F, ds, ms, Le.refl F, A.sr, A.sep, i0⟩, fun m σ' H' ⟨F2, ds2, ms2, e2, sr2, S2, i2⟩ => ?_⟩
    refine h m ds2 ms2 i2 F2 σ' H' _ W (A.mvE e2 sr2 S2) fun F3 b ms3 H3 e3 S3 ⟨q1, q0⟩ => ?_
    cases b with
    | true =>
      rw [if_pos rfl]
      have l3 := e2.trans e3
      refine ⟨fun σ' H' => ∃ m', m' < m ∧ ∃ F' ds' ms', Le F F' ∧ SR X.K F' ds' σ' ∧ Sep X.K F' ms' H' ∧ I m' ds' ms', fun σ' H' q => q, ?_⟩
      exact q1 rfl F3 σ' H3 _ W (A.mvE l3 (sr2.mono e3) S3) ⟨fun F5 ds5 σ5 ms5 H5 e5 sr5 S5 ⟨m', hm, i5⟩ => ⟨m', hm, F5, ds5, ms5, l3.trans e5, sr5, S5, i5⟩, V.rt.mono l3, V.nx.mono l3, fun F5 ds5 σ5 ms5 H5 e5 sr5 S5 ⟨m', hm, i5⟩ => ⟨m', hm, F5, ds5, ms5, l3.trans e5, sr5, S5, i5⟩⟩
    | false =>
      rw [if_neg Bool.false_ne_true]
      exact V.nx F3 ds2 σ' ms3 H3 (e2.trans e3) (sr2.mono e3) S3 (q0 rfl)

/-! ### list comprehensions -/
def wipeD (ds : DEnv) : List Nat → DEnv
  | [] => ds
  | v :: vs => (wipeD ds vs).set v none
theorem SR.wipe {K : PySem.W.Frag} {F : Hp} {ds : DEnv} {σ : L2.St} (h : SR K F ds σ) : ∀ vs : List Nat, SR K F (wipeD ds vs) (wipe σ vs)
  | [] => h
  | v :: vs => (SR.wipe h vs).setN v none
theorem wipe_get {σ : L2.St} : ∀ {vs : List Nat} {j : Nat}, j ∉ vs → (wipe σ vs)[j]? = σ[j]?
  | [], _, _ => rfl
  | v :: vs, j, h => by
    show ((wipe σ vs).set v none)[j]? = _
    rw [List.getElem?_set_ne (fun z => h (by rw [z]; exact List.mem_cons_self)), wipe_get fun z => h (List.mem_cons_of_mem _ z)]
theorem wipe_in {σ : L2.St} : ∀ {vs : List Nat} {j : Nat}, j ∈ vs → j < σ.length → (wipe σ vs)[j]? = some none
  | v :: vs, j, h, hl => by
    show ((wipe σ vs).set v none)[j]? = _
    by_cases e : v = j
    · subst e
      rw [List.getElem?_set_self (by rw [wipe_length]; exact hl)]
    · rw [List.getElem?_set_ne e]
      rcases List.mem_cons.mp h with z | z
      · exact absurd z.symm e
      · exact wipe_in z hl
theorem wipe_agree {σ σ' : L2.St} {sl vs : List Nat} (h : Agree sl (wipe σ vs) σ') (hs : ∀ j ∈ sl, j ∈ vs) : wipe σ' vs = wipe σ vs := by
  apply List.ext_getElem?
  intro j
  have hl : σ'.length = σ.length := by rw [h.1, wipe_length]
  by_cases hj : j ∈ vs
  · by_cases hlt : j < σ.length
    · rw [wipe_in hj hlt, wipe_in hj (by rw [hl]; exact hlt)]
    · rw [List.getElem?_eq_none (by rw [wipe_length]; omega), List.getElem?_eq_none (by rw [wipe_length]; omega)]
  · rw [wipe_get hj, h.2 j fun z => hj (hs j z)]
/-- the clause's tests -/
def DTs (X : Cx) (xw : DX) : List Expr → DEnv → MS → (Bool → MS → Prop) → Prop
  | [], _, ms, kb => kb true ms
  | [c], ds, ms, kb => DT X xw c ds ms kb
  | _, _, _, _ => False
/-- a context of the block -/
abbrev Blk (X : Cx) (scope : Scope) := ∀ (s : Shared) (H : Hp) (C : Addr) (cl : List (Str × Addr)) (fp : List Addr), Prop
def xNo : DX := fun _ _ _ _ => False
theorem tNo {X : Cx} : Takes X fun _ _ _ _ => False := takes0
theorem xcNo {K : PySem.W.Frag} {F : Hp} {W : WX} : XC K F xNo W := fun _ _ _ _ _ _ _ _ _ _ _ _ _ _ z => z.elim
def wTs (X : Cx) (ifs : List Expr) : TT := fun σ H Q => ∀ pins s, Inv X pins σ H s →
    wpAny (model X.prog X.w) X.A (forIn ifs true fun c r => if r = true then do let ok ← isTrue c X.env (eval c X.env); pure (ForInStep.yield ok) else pure (ForInStep.yield r)) (TP X pins σ Q) X.xe s
theorem DTs.run {ifs : List Expr} {kb : Bool → MS → Prop} (h : DTs X xw ifs ds ms kb) {F : Hp} {σ : L2.St} {H : Hp} {Q : Bool → Hp → Prop} {W : WX} (A : At X xw F ds σ ms H W) (V : VCb X.K F kb Q) : wTs X ifs σ H Q := by
  match ifs, h with
  | [], h => exact fun pins s I => pts_nil.run pins s σ H Q I (V F true ms H (Le.refl F) A.sep h)
  | [c], h => exact fun pins s I => (pts_one pt_w).run pins s σ H Q I (h F σ H Q W A V)
  | _ :: _ :: _, h => exact h.elim
theorem Ctx.blk (C : Ctx X N k) (s : Shared) (H : Hp) (scope : Scope) (cenv : Env) (fp : List Addr) : Ctx (X.blk s H scope cenv fp) N k := ⟨C.names, C.nd, C.calm, C.room⟩
/-- the turns of a comprehension: I by the turn, what is made so far, the store -/
def LcT (X : Cx) (scope : Scope) (own : List (Str × Nat)) (tg elt : Expr) (ifs : List Expr) (ds : DEnv) (xs : List D) (keep : MS → Prop) (ms : MS) (fin : List D → MS → Prop) : Prop :=
  ∃ (sl : List Nat) (I : Nat → List D → MS → Prop), (∀ j ∈ sl, j ∈ own.map (·.2)) ∧ I 0 [] ms ∧ (∀ i acc ms' (L : Addr), i ≤ xs.length → I i acc ms' → keep ((L, .lst acc) :: ms')) ∧
    (∀ i x acc ms' (L : Addr), xs[i]? = some x → I i acc ms' → ∀ (s : Shared) (H : Hp) (C : Addr) (cl : List (Str × Addr)) (fp : List Addr),
      DG (X.blk s H scope (compEnvC scope cl C X.env) fp) xNo sl tg x (wipeD ds (own.map (·.2))) ((L, .lst acc) :: ms') fun ds2 ms2 => ∀ (s : Shared) (H : Hp) (C : Addr) (cl : List (Str × Addr)) (fp : List Addr),
        DTs (X.blk s H scope (compEnvC scope cl C X.env) fp) xNo ifs ds2 ms2 fun b ms3 =>
        (b = true → ∀ (s : Shared) (H : Hp) (C : Addr) (cl : List (Str × Addr)) (fp : List Addr), DE (X.blk s H scope (compEnvC scope cl C X.env) fp) xNo elt ds2 ms3 fun d ms4 => acc.length < sizeLine ∧ ∃ ms5, ms4 = (L, .lst acc) :: ms5 ∧ I (i + 1) (acc ++ [d]) ms5) ∧
        (b = false → ∃ ms5, ms3 = (L, .lst acc) :: ms5 ∧ I (i + 1) acc ms5)) ∧
    ∀ acc ms', I xs.length acc ms' → fin acc ms'
/-- the readings of a block's parts -/
abbrev bG (X : Cx) (scope : Scope) (tg : Expr) : TG := fun v σ H Q => ∀ (s : Shared) (H0 : Hp) (C : Addr) (cl : List (Str × Addr)) (fp : List Addr), wG (X.blk s H0 scope (compEnvC scope cl C X.env) fp) tg v σ H Q
abbrev bT (X : Cx) (scope : Scope) (ifs : List Expr) : TT := fun σ H Q => ∀ (s : Shared) (H0 : Hp) (C : Addr) (cl : List (Str × Addr)) (fp : List Addr), wTs (X.blk s H0 scope (compEnvC scope cl C X.env) fp) ifs σ H Q
abbrev bE (X : Cx) (scope : Scope) (elt : Expr) : TE := fun σ H Q => ∀ (s : Shared) (H0 : Hp) (C : Addr) (cl : List (Str × Addr)) (fp : List Addr), wE (X.blk s H0 scope (compEnvC scope cl C X.env) fp) elt σ H Q
theorem bg_ok {scope : Scope} {tg : Expr} (s : Shared) (H : Hp) (C : Addr) (cl : List (Str × Addr)) (fp : List Addr) : PG (X.blk s H scope (compEnvC scope cl C X.env) fp) tg (bG X scope tg) := ⟨fun pins s' σ H' v u Q I r h => h s H C cl fp pins s' u I r⟩
theorem bt_ok {scope : Scope} {ifs : List Expr} (s : Shared) (H : Hp) (C : Addr) (cl : List (Str × Addr)) (fp : List Addr) : PTs (X.blk s H scope (compEnvC scope cl C X.env) fp) ifs (bT X scope ifs) := ⟨fun pins s' σ H' Q I h => h s H C cl fp pins s' I⟩
theorem be_ok {scope : Scope} {elt : Expr} (s : Shared) (H : Hp) (C : Addr) (cl : List (Str × Addr)) (fp : List Addr) : PE (X.blk s H scope (compEnvC scope cl C X.env) fp) elt (bE X scope elt) := ⟨fun pins s' σ H' Q I h => h s H C cl fp pins s' I⟩
theorem lc_read {scope : Scope} {own : List (Str × Nat)} {elt : Expr} {ifs : List Expr} {F : Hp} {σ : L2.St} {H : Hp} {Q : VK} {W : WX} (A : At X xw F ds σ ms H W) {fin : List D → MS → Prop}
    (h : DIt X xw tg iter ds ms fun xs keep ms1 => LcT X scope own tg elt ifs ds xs keep ms1 fin) (V : ∀ F' acc vs L ms' H', Le F F' → RepL X.K F' acc vs → Sep X.K F' ((L, .lst acc) :: ms') H' → H' L = some (.lst vs) → fin acc ms' → Q (.ref L) H') :
    tLc (wI X tg iter) (bG X scope tg) (bT X scope ifs) (bE X scope elt) (own.map (·.2)) σ H Q := by
  refine h F σ H _ W A fun F1 xs keep ms1 H1 J e1 S1 ok ⟨sl, I, hsl, i0, ik, is, ie⟩ L hL => ?_
  refine ⟨fun i m H' => ∃ F' acc ms', Le F1 F' ∧ Sep X.K F' ((L, .lst acc) :: ms') H' ∧ I i acc ms' ∧ i + m = xs.length, ⟨xs.length, F1, [], ms1, Le.refl F1, S1.new (o := .lst []) hL ⟨[], rfl, rfl⟩, i0, by omega⟩, fun i m H' ⟨F2, acc, ms2, e2, S2, i2, hm⟩ => ?_⟩
  obtain ⟨stop, go⟩ := ok F2 _ H' e2 S2 (ik i acc ms2 L (by omega) i2)
  by_cases hi : i < xs.length
  · obtain ⟨g, y⟩ := go i _ (List.getElem?_eq_getElem hi)
    refine .inr ⟨g, fun H' => ∃ F' acc ms', Le F1 F' ∧ Sep X.K F' ((L, .lst acc) :: ms') H' ∧ I (i + 1) acc ms', fun H3 ⟨F3, acc3, ms3, e3, S3, i3⟩ => ⟨m - 1, by omega, F3, acc3, ms3, e3, S3, i3, by omega⟩, fun v H2 hy => ?_⟩
    obtain ⟨F3, e3, S3, r3⟩ := y v H2 hy
    have l3 := (e1.trans e2).trans e3
    have srw := (A.sr.mono l3).wipe (own.map (·.2))
    intro s H0 Cc cl fp
    have AB : ∀ (s : Shared) (H0 : Hp) (Cc : Addr) (cl : List (Str × Addr)) (fp : List Addr) {F' : Hp} {ds' : DEnv} {σ' : L2.St} {ms' : MS} {H' : Hp}, SR X.K F' ds' σ' → Sep X.K F' ms' H' →
        At (X.blk s H0 scope (compEnvC scope cl Cc X.env) fp) xNo F' ds' σ' ms' H' (fun _ _ _ _ => False) := fun s H0 Cc cl fp F' ds' σ' ms' H' r S => ⟨r, S, tNo, xcNo⟩
    refine is i _ acc ms2 L (List.getElem?_eq_getElem hi) i2 s H0 Cc cl fp F3 _ H2 v _ _ (AB s H0 Cc cl fp srw S3) r3 fun F4 ds4 σ4 ms4 H4 e4 a4 sr4 S4 k4 => ⟨wipe_agree a4 hsl, ?_⟩
    intro s H0 Cc cl fp
    refine (k4 s H0 Cc cl fp).run (AB s H0 Cc cl fp sr4 S4) fun F5 b ms5 H5 e5 S5 ⟨q1, q0⟩ => ?_
    cases b with
    | true =>
      rw [if_pos rfl]
      intro s H0 Cc cl fp
      refine q1 rfl s H0 Cc cl fp F5 σ4 H5 _ _ (AB s H0 Cc cl fp (sr4.mono e5) S5) fun F6 d vd ms6 H6 e6 r6 S6 ⟨hz, ms7, em, i7⟩ => ?_
      subst em
      obtain ⟨_, u, hu, us, eu, hr⟩ := S6.get (i := 0) (p := L) (o := .lst acc) rfl
      subst eu
      refine ⟨us, hu, by rw [hr.length]; exact hz, F6, _, ms7, (((e2.trans e3).trans e4).trans e5).trans e6, S6.set (i := 0) (p := L) (o := .lst acc) (o' := .lst (acc ++ [vd])) rfl ⟨_, rfl, hr.append (RepL.one r6)⟩, i7⟩
    | false =>
      rw [if_neg Bool.false_ne_true]
      obtain ⟨ms7, em, i7⟩ := q0 rfl
      subst em
      exact ⟨F5, acc, ms7, ((e2.trans e3).trans e4).trans e5, S5, i7⟩
  · have e : i = xs.length := by omega
    subst e
    obtain ⟨h0, u, hu, vs, rfl, hr⟩ := S2.get (i := 0) rfl
    exact .inl ⟨stop, V F2 acc vs L ms2 H' (e1.trans e2) hr S2 hu (ie acc ms2 i2)⟩
variable {kd : DK}
/-- [..] that stays as it is made -/
theorem de_lc (C : Ctx X N k) {scope sc : Scope} (own : List (Str × Nat)) {elt : Expr} {ifs : List Expr} (hsc : X.env.scope = sc) (hb : blkC N sc scope own = true)
    (h : DIt X xw tg iter ds ms fun xs keep ms1 => LcT X scope own tg elt ifs ds xs keep ms1 fun acc ms2 => kd (.lst acc) ms2) (hs : ∀ x, foldedSetIterable iter X.env x = pure x) : DE X xw (.ListComp elt [⟨tg, iter, ifs, 0⟩] scope pos) ds ms kd :=
  .of (pe_lc C.calm C.ndX pi_w (blkOk_by (by rw [C.names, hsc]; exact hb)) bg_ok bt_ok be_ok hs) fun F σ H Q W A V => lc_read A h fun F' acc vs L ms' H' e r S hL q => by
    obtain ⟨u, l, S2, r2⟩ := S.freeze (i := 0) rfl
    obtain ⟨vs', rfl, r3⟩ := r2
    exact V _ (.ref L) (.lst acc) ms' H' (e.trans l) ⟨L, vs', rfl, upd_same, r3.mono l⟩ S2 q
/-- .. that may change -/
theorem de_lcM (C : Ctx X N k) {scope sc : Scope} (own : List (Str × Nat)) {elt : Expr} {ifs : List Expr} (hsc : X.env.scope = sc) (hb : blkC N sc scope own = true)
    (h : DIt X xw tg iter ds ms fun xs keep ms1 => LcT X scope own tg elt ifs ds xs keep ms1 fun acc ms2 => ∀ L, kd (.adr L) ((L, .lst acc) :: ms2)) (hs : ∀ x, foldedSetIterable iter X.env x = pure x) : DE X xw (.ListComp elt [⟨tg, iter, ifs, 0⟩] scope pos) ds ms kd :=
  .of (pe_lc C.calm C.ndX pi_w (blkOk_by (by rw [C.names, hsc]; exact hb)) bg_ok bt_ok be_ok hs) fun F σ H Q W A V => lc_read A h fun F' acc vs L ms' H' e r S hL q =>
    V F' (.ref L) (.adr L) _ H' e rfl S (q L)
/-- y = [..] -/
theorem ds_setLc (C : Ctx X N k) {scope sc : Scope} (own : List (Str × Nat)) {y : Str} {py spos : Pos} {i : Nat} {elt : Expr} {ifs : List Expr} (hi : Ix N y i) (hyl : X.env.scope.names.lookup y = some .local) (hsc : X.env.scope = sc) (hb : blkC N sc scope own = true)
    (h : DIt X xw tg iter ds ms fun xs keep ms1 => LcT X scope own tg elt ifs ds xs keep ms1 fun acc ms2 => ∃ ds', Put ds i (some (.lst acc)) ds' ∧ E.nx ds' ms2)
    (hsw : swapsWith (.ListComp elt [⟨tg, iter, ifs, 0⟩] scope pos) (some (.Name y py)) spos.line X.env = pure true) (hs : ∀ x, foldedSetIterable iter X.env x = pure x) : DS X xw (.Assign [.Name y py] (.ListComp elt [⟨tg, iter, ifs, 0⟩] scope pos) spos) ds ms E :=
  .of (ps_setLc C.calm C.ndX (C.ix hi) hyl hsw pi_w (blkOk_by (by rw [C.names, hsc]; exact hb)) bg_ok bt_ok be_ok hs) fun F σ H D W A V => lc_read A h fun F' acc vs L ms' H' e r S hL ⟨ds', hp, q⟩ => by
    obtain ⟨u, l, S2, r2⟩ := S.freeze (i := 0) rfl
    obtain ⟨vs', rfl, r3⟩ := r2
    exact V.nx _ ds' _ ms' H' (e.trans l) (by rw [hp.eq]; exact (A.sr.mono (e.trans l)).set i (d := .lst acc) ⟨L, vs', rfl, upd_same, r3.mono l⟩) S2 q
theorem ds_setLcM (C : Ctx X N k) {scope sc : Scope} (own : List (Str × Nat)) {y : Str} {py spos : Pos} {i : Nat} {elt : Expr} {ifs : List Expr} (hi : Ix N y i) (hyl : X.env.scope.names.lookup y = some .local) (hsc : X.env.scope = sc) (hb : blkC N sc scope own = true)
    (h : DIt X xw tg iter ds ms fun xs keep ms1 => LcT X scope own tg elt ifs ds xs keep ms1 fun acc ms2 => ∀ L, ∃ ds', Put ds i (some (.adr L)) ds' ∧ E.nx ds' ((L, .lst acc) :: ms2))
    (hsw : swapsWith (.ListComp elt [⟨tg, iter, ifs, 0⟩] scope pos) (some (.Name y py)) spos.line X.env = pure true) (hs : ∀ x, foldedSetIterable iter X.env x = pure x) : DS X xw (.Assign [.Name y py] (.ListComp elt [⟨tg, iter, ifs, 0⟩] scope pos) spos) ds ms E :=
  .of (ps_setLc C.calm C.ndX (C.ix hi) hyl hsw pi_w (blkOk_by (by rw [C.names, hsc]; exact hb)) bg_ok bt_ok be_ok hs) fun F σ H D W A V => lc_read A h fun F' acc vs L ms' H' e r S hL q => by
    obtain ⟨ds', hp, q⟩ := q L
    exact V.nx _ ds' _ _ H' e (by rw [hp.eq]; exact (A.sr.mono e).set i (d := .adr L) rfl) S q

/-! comprehensions of one item an item -/
theorem lct_map {scope : Scope} {own : List (Str × Nat)} {elt : Expr} {xs : List D} {keep : MS → Prop} {fin : List D → MS → Prop} (g : Nat → D → D) (hsl : ∀ j ∈ sl, j ∈ own.map (·.2)) (hl : xs.length ≤ 100000) (hk : ∀ acc (L : Addr), keep ((L, .lst acc) :: ms))
    (ht : ∀ (i : Nat) (x : D) (acc : List D) (L : Addr), xs[i]? = some x → ∀ (s : Shared) (H : Hp) (C : Addr) (cl : List (Str × Addr)) (fp : List Addr), DG (X.blk s H scope (compEnvC scope cl C X.env) fp) xNo sl tg x (wipeD ds (own.map (·.2))) ((L, .lst acc) :: ms) fun ds2 ms2 => ms2 = (L, .lst acc) :: ms ∧
      ∀ (s : Shared) (H : Hp) (C : Addr) (cl : List (Str × Addr)) (fp : List Addr), DE (X.blk s H scope (compEnvC scope cl C X.env) fp) xNo elt ds2 ((L, .lst acc) :: ms) fun d ms4 => d = g i x ∧ ms4 = (L, .lst acc) :: ms)
    (hf : fin (xs.zipIdx.map fun p => g p.2 p.1) ms) : LcT X scope own tg elt [] ds xs keep ms fin := by
  refine ⟨sl, fun i acc ms' => acc = ((xs.take i).zipIdx.map fun p => g p.2 p.1) ∧ ms' = ms, hsl, ⟨by simp, rfl⟩, fun i acc ms' L hi ⟨_, e⟩ => by rw [e]; exact hk acc L, fun i x acc ms' L hx ⟨ea, em⟩ s H C cl fp => ?_, fun acc ms' ⟨ea, em⟩ => by rw [ea, em, List.take_length]; exact hf⟩
  subst em
  intro F σ H2 v Q W A r V
  refine ht i x acc L hx s H C cl fp F σ H2 v Q W A r fun F' ds' σ' ms2 H' e a sr S ⟨em, q⟩ => V F' ds' σ' ms2 H' e a sr S fun s H C cl fp => ?_
  show _ ∧ _
  subst em
  refine ⟨fun _ s H C cl fp => (q s H C cl fp).imp fun d ms4 ⟨ed, e4⟩ => ⟨?_, ms', e4, ?_, rfl⟩, fun h => absurd h (by decide)⟩
  · rw [ea, List.length_map, List.length_zipIdx, List.length_take]
    exact Nat.lt_of_lt_of_le (Nat.lt_of_le_of_lt (Nat.min_le_right _ _) (Nat.lt_succ_of_le hl)) (by decide)
  · rw [ea, List.take_add_one, hx, ed]
    show _ = List.map _ ((xs.take i ++ [x]).zipIdx)
    rw [List.zipIdx_append, List.map_append]
    have hi : i < xs.length := (List.getElem?_eq_some_iff.mp hx).1
    rw [List.length_take, Nat.min_eq_left (Nat.le_of_lt hi), Nat.zero_add]
    rfl
theorem lct_map1 {scope : Scope} {own : List (Str × Nat)} {elt : Expr} {xs : List D} {keep : MS → Prop} {fin : List D → MS → Prop} (g : D → D) (hsl : ∀ j ∈ sl, j ∈ own.map (·.2)) (hl : xs.length ≤ 100000) (hk : ∀ acc (L : Addr), keep ((L, .lst acc) :: ms))
    (ht : ∀ (i : Nat) (x : D) (acc : List D) (L : Addr), xs[i]? = some x → ∀ (s : Shared) (H : Hp) (C : Addr) (cl : List (Str × Addr)) (fp : List Addr), DG (X.blk s H scope (compEnvC scope cl C X.env) fp) xNo sl tg x (wipeD ds (own.map (·.2))) ((L, .lst acc) :: ms) fun ds2 ms2 => ms2 = (L, .lst acc) :: ms ∧
      ∀ (s : Shared) (H : Hp) (C : Addr) (cl : List (Str × Addr)) (fp : List Addr), DE (X.blk s H scope (compEnvC scope cl C X.env) fp) xNo elt ds2 ((L, .lst acc) :: ms) fun d ms4 => d = g x ∧ ms4 = (L, .lst acc) :: ms)
    (hf : fin (xs.map g) ms) : LcT X scope own tg elt [] ds xs keep ms fin := by
  refine lct_map (fun _ => g) hsl hl hk ht ?_
  have e : (xs.zipIdx.map fun p => g p.1) = xs.map g := by
    rw [show (fun p : D × Nat => g p.1) = g ∘ Prod.fst from rfl, ← List.map_map, List.zipIdx_map_fst]
  rw [e]
  exact hf
/-- with a test -/
theorem lct_filter {scope : Scope} {own : List (Str × Nat)} {elt : Expr} {tst : Expr} {xs : List D} {keep : MS → Prop} {fin : List D → MS → Prop} (p : D → Bool) (g : D → D) (hsl : ∀ j ∈ sl, j ∈ own.map (·.2)) (hl : xs.length ≤ 100000) (hk : ∀ acc (L : Addr), keep ((L, .lst acc) :: ms))
    (ht : ∀ (i : Nat) (x : D) (acc : List D) (L : Addr), xs[i]? = some x → ∀ (s : Shared) (H : Hp) (C : Addr) (cl : List (Str × Addr)) (fp : List Addr), DG (X.blk s H scope (compEnvC scope cl C X.env) fp) xNo sl tg x (wipeD ds (own.map (·.2))) ((L, .lst acc) :: ms) fun ds2 ms2 => ms2 = (L, .lst acc) :: ms ∧
      ∀ (s : Shared) (H : Hp) (C : Addr) (cl : List (Str × Addr)) (fp : List Addr), DT (X.blk s H scope (compEnvC scope cl C X.env) fp) xNo tst ds2 ((L, .lst acc) :: ms) fun b ms3 => b = p x ∧ ms3 = (L, .lst acc) :: ms ∧ (p x = true →
      ∀ (s : Shared) (H : Hp) (C : Addr) (cl : List (Str × Addr)) (fp : List Addr), DE (X.blk s H scope (compEnvC scope cl C X.env) fp) xNo elt ds2 ((L, .lst acc) :: ms) fun d ms4 => d = g x ∧ ms4 = (L, .lst acc) :: ms))
    (hf : fin ((xs.filter p).map g) ms) : LcT X scope own tg elt [tst] ds xs keep ms fin := by
  refine ⟨sl, fun i acc ms' => acc = ((xs.take i).filter p).map g ∧ ms' = ms, hsl, ⟨by simp, rfl⟩, fun i acc ms' L hi ⟨_, e⟩ => by rw [e]; exact hk acc L, fun i x acc ms' L hx ⟨ea, em⟩ s H C cl fp => ?_, fun acc ms' ⟨ea, em⟩ => by rw [ea, em, List.take_length]; exact hf⟩
  subst em
  intro F σ H2 v Q W A r V
  refine ht i x acc L hx s H C cl fp F σ H2 v Q W A r fun F' ds' σ' ms2 H' e a sr S ⟨em, q⟩ => V F' ds' σ' ms2 H' e a sr S fun s H C cl fp => ?_
  subst em
  have hlen : acc.length < sizeLine := by
    rw [ea, List.length_map]
    refine Nat.lt_of_le_of_lt (List.length_filter_le _ _) ?_
    rw [List.length_take]
    exact Nat.lt_of_lt_of_le (Nat.lt_of_le_of_lt (Nat.min_le_right _ _) (Nat.lt_succ_of_le hl)) (by decide)
  have et : (xs.take (i + 1)).filter p = (xs.take i).filter p ++ if p x = true then [x] else [] := by
    rw [List.take_add_one, hx]
    show List.filter p (xs.take i ++ [x]) = _
    rw [List.filter_append]
    congr 1
    by_cases hp : p x = true
    · rw [if_pos hp, List.filter_cons, if_pos hp]; rfl
    · rw [if_neg hp, List.filter_cons, if_neg hp]; rfl
  show DT _ _ _ _ _ _
  intro F2 σ2 H3 Q2 W2 A2 V2
  refine q s H C cl fp F2 σ2 H3 Q2 W2 A2 fun F' b ms3 H' e S ⟨eb, e3, q2⟩ => V2 F' b ms3 H' e S ⟨fun hb s H C cl fp => ?_, fun hb => ?_⟩
  · subst e3
    rw [eb] at hb
    refine (q2 hb s H C cl fp).imp fun d ms4 ⟨ed, e4⟩ => ⟨hlen, ms', e4, ?_, rfl⟩
    rw [et, if_pos hb, List.map_append, ea, ed]
    rfl
  · rw [eb] at hb
    refine ⟨ms', e3, ?_, rfl⟩
    rw [et, hb, ea]
    simp

/-- over the signs of a text -/
theorem lct_str {scope : Scope} {own : List (Str × Nat)} {elt : Expr} {z : Str} {keep : MS → Prop} {fin : List D → MS → Prop} (g : Nat → D) (hsl : ∀ j ∈ sl, j ∈ own.map (·.2)) (hl : z.length ≤ 100000) (hk : ∀ acc (L : Addr), keep ((L, .lst acc) :: ms))
    (ht : ∀ (c : Nat) (acc : List D) (L : Addr), c ∈ z.cps.toList → ∀ (s : Shared) (H : Hp) (C : Addr) (cl : List (Str × Addr)) (fp : List Addr), DG (X.blk s H scope (compEnvC scope cl C X.env) fp) xNo sl tg (.str ⟨#[c]⟩) (wipeD ds (own.map (·.2))) ((L, .lst acc) :: ms) fun ds2 ms2 => ms2 = (L, .lst acc) :: ms ∧
      ∀ (s : Shared) (H : Hp) (C : Addr) (cl : List (Str × Addr)) (fp : List Addr), DE (X.blk s H scope (compEnvC scope cl C X.env) fp) xNo elt ds2 ((L, .lst acc) :: ms) fun d ms4 => d = g c ∧ ms4 = (L, .lst acc) :: ms)
    (hf : fin (z.cps.toList.map g) ms) : LcT X scope own tg elt [] ds (signD z) keep ms fin := by
  refine lct_map1 (fun d => match d with | .str y => g (y.cps.toList.headD 0) | _ => .non) hsl (by unfold signD; rw [List.length_map]; simpa [Str.length] using hl) hk (fun i x acc L hx s H C cl fp => ?_) ?_
  · unfold signD at hx
    rw [List.getElem?_map] at hx
    cases hc : z.cps.toList[i]? with
    | none => rw [hc] at hx; cases hx
    | some c =>
      rw [hc] at hx
      cases hx
      exact ht c acc L (List.mem_of_getElem? hc) s H C cl fp
  · unfold signD
    rw [List.map_map]
    exact hf
theorem lct_strF {scope : Scope} {own : List (Str × Nat)} {elt tst : Expr} {z : Str} {keep : MS → Prop} {fin : List D → MS → Prop} (p : Nat → Bool) (hsl : ∀ j ∈ sl, j ∈ own.map (·.2)) (hl : z.length ≤ 100000) (hk : ∀ acc (L : Addr), keep ((L, .lst acc) :: ms))
    (ht : ∀ (c : Nat) (acc : List D) (L : Addr), c ∈ z.cps.toList → ∀ (s : Shared) (H : Hp) (C : Addr) (cl : List (Str × Addr)) (fp : List Addr), DG (X.blk s H scope (compEnvC scope cl C X.env) fp) xNo sl tg (.str ⟨#[c]⟩) (wipeD ds (own.map (·.2))) ((L, .lst acc) :: ms) fun ds2 ms2 => ms2 = (L, .lst acc) :: ms ∧
      ∀ (s : Shared) (H : Hp) (C : Addr) (cl : List (Str × Addr)) (fp : List Addr), DT (X.blk s H scope (compEnvC scope cl C X.env) fp) xNo tst ds2 ((L, .lst acc) :: ms) fun b ms3 => b = p c ∧ ms3 = (L, .lst acc) :: ms ∧ (p c = true →
      ∀ (s : Shared) (H : Hp) (C : Addr) (cl : List (Str × Addr)) (fp : List Addr), DE (X.blk s H scope (compEnvC scope cl C X.env) fp) xNo elt ds2 ((L, .lst acc) :: ms) fun d ms4 => d = .str ⟨#[c]⟩ ∧ ms4 = (L, .lst acc) :: ms))
    (hf : fin ((z.cps.toList.filter p).map fun c => D.str ⟨#[c]⟩) ms) : LcT X scope own tg elt [tst] ds (signD z) keep ms fin := by
  refine lct_filter (fun d => match d with | .str y => p (y.cps.toList.headD 0) | _ => false) (fun d => d) hsl (by unfold signD; rw [List.length_map]; simpa [Str.length] using hl) hk (fun i x acc L hx s H C cl fp => ?_) ?_
  · unfold signD at hx
    rw [List.getElem?_map] at hx
    cases hc : z.cps.toList[i]? with
    | none => rw [hc] at hx; cases hx
    | some c =>
      rw [hc] at hx
      cases hx
      exact ht c acc L (List.mem_of_getElem? hc) s H C cl fp
  · unfold signD
    rw [List.filter_map, List.map_map]
    exact hf

/-! ### defs -/
/-- a def's promise on data: the arguments, the store, what is wanted of its value, of an exception -/
abbrev DSp := List D → MS → DK → (Addr → D → MS → Prop) → Prop
def XCf (K : PySem.W.Frag) (F : Hp) (xk : Addr → D → MS → Prop) (E : XK) : Prop := ∀ F' C dx dv v ms' H', Le F F' → Rep K F' dv v → Sep K F' ms' H' → F' dx = some (.xd [("value", v)]) → xk C dv ms' → E (.ref C) (some dx) H'
def toSp (K : PySem.W.Frag) (S : DSp) : Sp := fun vs H Q E => ∃ F ds ms kd xk, RepL K F ds vs ∧ Sep K F ms H ∧ S ds ms kd xk ∧ VC K F kd Q ∧ XCf K F xk E
structure DefAt (P : Program) (w : World) (K : PySem.W.Frag) (mg : Str → Option Value) (base : Heap) (k : Nat) (x : Str) (f : Addr) (fd : FuncData) (ps : List Str) (S : DSp) : Prop where
  fn : FnOk P w K mg base (L2.CX P w) k f fd ps (toSp K S)
  gl : mg x = some (.ref f)
  kp : PySem.W.keepIn K (.ref f) = true
  bn : Binds K fd ps []
theorem DefAt.mono {P : Program} {w : World} {K : PySem.W.Frag} {mg : Str → Option Value} {base : Heap} {j k : Nat} {x : Str} {f : Addr} {fd : FuncData} {ps : List Str} {S : DSp} (G : DefAt P w K mg base j x f fd ps S) (h : j ≤ k) : DefAt P w K mg base k x f fd ps S := ⟨G.fn.mono h, G.gl, G.kp, G.bn⟩
theorem DefAt.imp {P : Program} {w : World} {K : PySem.W.Frag} {mg : Str → Option Value} {base : Heap} {j : Nat} {x : Str} {f : Addr} {fd : FuncData} {ps : List Str} {S S' : DSp} (G : DefAt P w K mg base j x f fd ps S) (h : ∀ vs ms kd xk, S' vs ms kd xk → S vs ms kd xk) : DefAt P w K mg base j x f fd ps S' :=
  ⟨G.fn.imp fun vs H Q E ⟨F, ds, ms, kd, xk, r, s, q, v, x⟩ => ⟨F, ds, ms, kd, xk, r, s, h _ _ _ _ q, v, x⟩, G.gl, G.kp, G.bn⟩
theorem to_sp {K : PySem.W.Frag} {S : DSp} {F : Hp} {vs : List V} {xs : List D} {H : Hp} {Q : VK} {W : WX} {σ : L2.St} (A : At X xw F ds σ ms H W) (hK : X.K = K) (r : RepL X.K F xs vs) (V : VC X.K F kd Q) (q : S xs ms kd fun Cx d ms2 => xw Cx d ds ms2) : toSp K S vs H Q (WE W σ) := by
  subst hK
  exact ⟨F, xs, ms, kd, _, r, A.sep, q, V, fun F' Cx dx dv v ms' H' e rv S' hd q' => A.xc F' Cx dx dv v ds σ ms' H' e (A.sr.mono e) rv S' hd q'⟩
theorem de_call (C : Ctx X N k) {x : Str} {f : Addr} {fd : FuncData} {ps : List Str} {S : DSp} {j : Nat} (G : DefAt X.prog X.w X.K X.mg X.base j x f fd ps S) (hj : j ≤ k) (h : DA X xw (e :: es) ds ms fun vs ms1 => ∃ ms2, MLe X.K ms1 ms2 ∧ S vs ms2 kd fun Cx d ms2 => xw Cx d ds ms2) (hg : Gl X x)
    (hdb : (x == ("__debug__" : Str)) = false) (he : starEach (e :: es) X.env = (false, eval e X.env) :: starEach es X.env) (hpl : (backTo pos (starEach es X.env)).any (·.1) = false) : DE X xw (.Call (.Name x p) (e :: es) [] pos) ds ms kd := fun F σ H Q W A V pins s I => by
  refine wpAny_Call_Name_kw (ld_glob I hg G.gl ?_ hdb)
  refine PySem.W.callWith_K (h₀ := X.base) I.ok.mod.kin G.kp (thn (h F σ H (fun vs H1 => toSp X.K S vs H1 Q (WE W σ)) W A (fun F1 vs xs ms1 H1 e1 r1 S1 ⟨ms2, l, k1⟩ => to_sp (A.mv e1 (l _ _ S1)) rfl r1 (V.mono e1) k1) pos pins s I) fun us s1 ⟨vs, H1, I1, r, q⟩ => ⟨I1.kIn, ?_⟩) he hpl
  exact run_fnSD (dvs := []) (ds := []) (E := WE W) G.fn (C.room.mono hj) G.bn .nil (passAt A.tk σ) I1 r (by rw [List.append_nil]; exact q)
theorem de_call0 (C : Ctx X N k) {x : Str} {f : Addr} {fd : FuncData} {ps : List Str} {S : DSp} {j : Nat} (G : DefAt X.prog X.w X.K X.mg X.base j x f fd ps S) (hj : j ≤ k) (h : S [] ms kd fun Cx d ms2 => xw Cx d ds ms2) (hg : Gl X x)
    (hdb : (x == ("__debug__" : Str)) = false) : DE X xw (.Call (.Name x p) [] [] pos) ds ms kd := fun F σ H Q W A V pins s I => by
  refine wpAny_Call_Name_kw (ld_glob I hg G.gl ?_ hdb)
  exact PySem.W.callWith_K0 I.kIn G.kp (run_fnSD (us := []) (vs := []) (dvs := []) (ds := []) (E := WE W) G.fn (C.room.mono hj) G.bn .nil (passAt A.tk σ) I .nil (to_sp (xs := []) A rfl rfl V h))
/-- the slots at a def's entry -/
def startD (N : List Str) (vs : List D) : DEnv := vs.map some ++ List.replicate (N.length - vs.length) none
theorem sr_start {K : PySem.W.Frag} {F : Hp} {ds : List D} {vs : List V} (N : List Str) (r : RepL K F ds vs) : SR K F (startD N ds) (L2.start N vs) := by
  have hl := r.length
  refine ⟨by unfold startD L2.start; simp [hl], fun i d h => ?_⟩
  unfold startD at h
  unfold L2.start
  by_cases hi : i < ds.length
  · rw [List.getElem?_append_left (by rw [List.length_map]; exact hi), List.getElem?_map] at h
    rw [List.getElem?_append_left (by rw [List.length_map]; omega), List.getElem?_map]
    rw [List.getElem?_eq_getElem hi] at h
    cases h
    obtain ⟨v, h1, h2⟩ := r.get (List.getElem?_eq_getElem hi)
    exact ⟨v, by rw [h1]; rfl, h2⟩
  · rw [List.getElem?_append_right (by rw [List.length_map]; omega), List.getElem?_replicate] at h
    split at h <;> cases h
theorem def_ok {P : Program} {w : World} {K : PySem.W.Frag} {mg : Str → Option Value} {base : Heap} {x qual : Str} {st : Stmt} {f : Addr} {fd : FuncData} {N ps : List Str} {k : Nat} {S : DSp} (F : Fun K x qual st f fd) (Sc : FnScope N ps (defScope st)) (gl : mg x = some (.ref f)) (bn : Binds K fd ps [])
    (len : ∀ vs ms kd xk, S vs ms kd xk → vs.length = ps.length)
    (body : ∀ (cdv : Value) (A : Around) (outer : List Env) (s : Shared) (H : Hp) (E : XK), Ctx (cxOf (L2.CX P w) P w K mg base N qual (defScope st) f cdv A outer s H E) N k →
      PassesOwn (model P w) (cxOf (L2.CX P w) P w K mg base N qual (defScope st) f cdv A outer s H E).A (cxOf (L2.CX P w) P w K mg base N qual (defScope st) f cdv A outer s H E).env (cxOf (L2.CX P w) P w K mg base N qual (defScope st) f cdv A outer s H E).xe →
      ∀ vs ms kd xk, S vs ms kd xk → DSs (cxOf (L2.CX P w) P w K mg base N qual (defScope st) f cdv A outer s H E) (fun Cx d _ ms2 => ∃ ms3, MLe K ms2 ms3 ∧ xk Cx d ms3) (defBody st) (startD N vs) ms { nx := fun _ ms2 => ∃ ms3, MLe K ms2 ms3 ∧ kd .non ms3, rt := fun d ms2 => ∃ ms3, MLe K ms2 ms3 ∧ kd d ms3 }) :
    DefAt P w K mg base (k + 1) x f fd ps S := by
  refine ⟨?_, gl, F.kp, bn⟩
  refine F.okX Sc (fun vs H Q E ⟨F', ds, ms, kd, xk, r, s, q, v, xx⟩ => by rw [r.length]; exact len _ _ _ _ q) fun cdv A outer s H vs Q E hr ⟨F', ds, ms, kd, xk, r, sp, q, v, xx⟩ => ?_
  refine ⟨wSs _ (defBody st), pss_w, ?_⟩
  refine body cdv A outer s H E ⟨rfl, Sc.nd, rfl, hr⟩ (passes_of (X := cxOf (L2.CX P w) P w K mg base N qual (defScope st) f cdv A outer s H E) rfl) ds ms kd xk q F' (L2.start N vs) H _ (fun cls d _ H => E cls d H)
    ⟨sr_start N r, sp, takes_of (X := cxOf (L2.CX P w) P w K mg base N qual (defScope st) f cdv A outer s H E) rfl rfl rfl rfl, fun F2 Cx dx dv v2 ds' σ' ms' H' e sr rv S2 hd ⟨ms3, l, q2⟩ => xx F2 Cx dx dv v2 ms3 H' e rv (l _ _ S2) hd q2⟩
    ⟨fun F2 ds' σ' ms' H' e sr S2 ⟨ms3, l, q2⟩ => v F2 .non .non ms3 H' e rfl (l _ _ S2) q2, fun F2 v2 d2 ms' H' e r2 S2 ⟨ms3, l, q2⟩ => v F2 v2 d2 ms3 H' e r2 (l _ _ S2) q2, fun _ _ _ _ _ _ _ _ z => z.elim, fun _ _ _ _ _ _ _ _ z => z.elim⟩
end
end DL

/-! DL4: the pool of draws. -/
namespace DL
open PySem PySem.Spec PyProof.Rows L2
/-- the pool: a great number's digits, a mixed number, how many were mixed, at most n -/
structure PoolOk (a b c : Int) (n : Nat) : Prop where
  a0 : 0 ≤ a
  b0 : 0 ≤ b
  b1 : b < 2 ^ 62
  c0 : 0 ≤ c
  c1 : c ≤ n
def poolM (n : Nat) : MO := .sm fun u => ∃ a b c : Int, u = .lst [.int a, .int b, .int c] ∧ PoolOk a b c n
theorem dss_pool {X : Cx} {xw : DX} {ds : DEnv} {ms : MS} {p : Addr} {n : Nat} {st : List Stmt} {E : DEnds} (h : ∀ a b c, PoolOk a b c n → DSs X xw st ds ((p, .lst [.int a, .int b, .int c]) :: ms) E) : DSs X xw st ds ((p, poolM n) :: ms) E :=
  dss_open fun u ⟨a, b, c, e, ok⟩ => dss_st (MLe.head (o := .oth u) (o' := .lst [.int a, .int b, .int c]) fun F v (r : v = u) => ⟨_, r.trans e, _, _, rfl, rfl, _, _, rfl, rfl, _, _, rfl, rfl, rfl⟩) (h a b c ok)
theorem mle_pool {K : PySem.W.Frag} {ms : MS} {p : Addr} {a b c : Int} {n : Nat} (ok : PoolOk a b c n) : MLe K ((p, .lst [.int a, .int b, .int c]) :: ms) ((p, poolM n) :: ms) := MLe.head (o := .lst [.int a, .int b, .int c]) (o' := poolM n) fun F u ⟨vs, e, r⟩ => by
  have r' : RepL K F (([a, b, c] : List Int).map D.int) vs := r
  exact ⟨a, b, c, by rw [e, r'.ints]; rfl, ok⟩
def spDraw : DSp := fun vs ms kd xk => ∃ p m n ms0, vs = [.adr p, .int m] ∧ ms = (p, poolM n) :: ms0 ∧ n < 2 ^ 30 ∧ 0 < m ∧ m.natAbs < 2 ^ 200 ∧ ∀ r, 0 ≤ r → r < m → kd (.int r) ((p, poolM (n + 1)) :: ms0)
end DL

/-! DL5: == and != of data, any depth. -/
namespace DL
open PySem PySem.Spec PyProof.Rows L2 PySem.SeqAt
/-- x == y is b, at most n deep -/
inductive EqS : Nat → D → D → Bool → Prop
  | non {n : Nat} : EqS n .non .non true
  | bl {n : Nat} {a b : Bool} : EqS n (.bl a) (.bl b) (a == b)
  | int {n : Nat} {a b : Int} : EqS n (.int a) (.int b) (a == b)
  | str {n : Nat} {a b : Str} : EqS n (.str a) (.str b) (a == b)
  | nonInt {n : Nat} {a : Int} : EqS n .non (.int a) false
  | intNon {n : Nat} {a : Int} : EqS n (.int a) .non false
  | nonTup {n : Nat} {xs : List D} : EqS (n + 1) .non (.tup xs) false
  | tupNon {n : Nat} {xs : List D} : EqS (n + 1) (.tup xs) .non false
  | lst {n : Nat} {xs ys : List D} {e : Nat → Bool} : xs.length = ys.length → (∀ i x y, xs[i]? = some x → ys[i]? = some y → EqS n x y (e i)) → EqS (n + 1) (.lst xs) (.lst ys) ((List.range xs.length).all e)
  | lstL {n : Nat} {xs ys : List D} : xs.length ≠ ys.length → EqS (n + 1) (.lst xs) (.lst ys) false
  | tup {n : Nat} {xs ys : List D} {e : Nat → Bool} : (∀ i x y, xs[i]? = some x → ys[i]? = some y → EqS n x y (e i)) → EqS (n + 1) (.tup xs) (.tup ys) ((List.range (min xs.length ys.length)).all e && xs.length == ys.length)
section
variable {K : PySem.W.Frag} {F H : Hp} {ms : MS}
theorem sqT_inj {a : Addr} {vs us : List V} {X : Cx} {pins : List (Addr × Obj)} {σ : L2.St} {s : Shared} (I : Inv X pins σ H s) (h : SqT X.K H a vs) (g : SqT X.K H a us) : ∃ its : List Value, Vals vs its ∧ Vals us its := by
  obtain ⟨i1, r1, ⟨o1, e1, _, n1, d1⟩, _⟩ := I.tuple h
  obtain ⟨i2, r2, ⟨o2, e2, _, n2, d2⟩, _⟩ := I.tuple g
  rw [e1] at e2
  cases e2
  rw [d1] at d2
  have : i1.toArray = i2.toArray := by injection d2
  have e : i1 = i2 := by simpa using this
  subst e
  exact ⟨i1, r1, r2⟩
end
section
variable {X : Cx} {pins : List (Addr × Obj)} {σ : L2.St} {s : Shared} {F H : Hp} {ms : MS}
/-- one value stands for equal data -/
theorem eqs_same (I : Inv X pins σ H s) (S : Sep X.K F ms H) {n : Nat} {x y : D} {b : Bool} (h : EqS n x y b) : ∀ {v v' : V} {u : Value}, Rep X.K F x v → Rep X.K F y v' → RelV v u → RelV v' u → b = true := by
  induction h with
  | non => intros; rfl
  | bl => intro v v' u r r' g g'; cases r; cases r'; cases g; cases g'; simp
  | int => intro v v' u r r' g g'; cases r; cases r'; obtain ⟨_, rfl⟩ := g; obtain ⟨_, e⟩ := g'; cases e; simp
  | str => intro v v' u r r' g g'; cases r; cases r'; obtain ⟨_, rfl⟩ := g; obtain ⟨_, e⟩ := g'; cases e; simp
  | nonInt => intro v v' u r r' g g'; cases r; cases r'; cases g; obtain ⟨_, e⟩ := g'; cases e
  | intNon => intro v v' u r r' g g'; cases r; cases r'; cases g'; obtain ⟨_, e⟩ := g; cases e
  | nonTup => intro v v' u r r' g g'; obtain ⟨_, _, rfl, _⟩ := r'; cases r; cases g; cases g'
  | tupNon => intro v v' u r r' g g'; obtain ⟨_, _, rfl, _⟩ := r; cases r'; cases g; cases g'
  | lst hl he ih =>
    intro v v' u r r' g g'
    obtain ⟨a, vs, rfl, h1, h2⟩ := r
    obtain ⟨a', vs', rfl, h1', h2'⟩ := r'
    cases g
    cases g'
    rw [h1] at h1'
    cases h1'
    obtain ⟨its, rv, _, _⟩ := I.list (SqL.of (S.ex _ _ h1))
    rw [List.all_eq_true]
    intro i hi
    rw [List.mem_range] at hi
    obtain ⟨w, w1, w2⟩ := h2.get (List.getElem?_eq_getElem hi)
    obtain ⟨w', w3, w4⟩ := h2'.get (List.getElem?_eq_getElem (by rw [← hl]; exact hi))
    rw [w1] at w3
    cases w3
    obtain ⟨t, _, t2⟩ := rv.get w1
    exact ih i _ _ (List.getElem?_eq_getElem hi) (List.getElem?_eq_getElem (by rw [← hl]; exact hi)) w2 w4 t2 t2
  | lstL hl =>
    intro v v' u r r' g g'
    obtain ⟨a, vs, rfl, h1, h2⟩ := r
    obtain ⟨a', vs', rfl, h1', h2'⟩ := r'
    cases g
    cases g'
    rw [h1] at h1'
    cases h1'
    exact absurd (h2.length.symm.trans h2'.length) hl
  | tup he ih =>
    intro v v' u r r' g g'
    obtain ⟨a, vs, rfl, h1, h2⟩ := r
    obtain ⟨a', vs', rfl, h1', h2'⟩ := r'
    cases g
    cases g'
    obtain ⟨its, r1, r2⟩ := sqT_inj I (S.sqT h1) (S.sqT h1')
    have hl := h2.length.symm.trans ((r1.length.trans r2.length.symm).trans h2'.length)
    rw [Bool.and_eq_true]
    refine ⟨?_, by rw [hl]; exact beq_self_eq_true _⟩
    rw [List.all_eq_true]
    intro i hi
    rw [List.mem_range, hl, Nat.min_self] at hi
    obtain ⟨w, w1, w2⟩ := h2.get (List.getElem?_eq_getElem (by rw [hl]; exact hi))
    obtain ⟨w', w3, w4⟩ := h2'.get (List.getElem?_eq_getElem hi)
    obtain ⟨t, t1, t2⟩ := r1.get w1
    obtain ⟨t', t3, t4⟩ := r2.get w3
    rw [t1] at t3
    cases t3
    exact ih i _ _ (List.getElem?_eq_getElem (by rw [hl]; exact hi)) (List.getElem?_eq_getElem hi) w2 w4 t2 t4
theorem all_range {n : Nat} {e e' : Nat → Bool} (h : ∀ i, i < n → e i = e' i) : (List.range n).all e = (List.range n).all e' := by
  rw [Bool.eq_iff_iff, List.all_eq_true, List.all_eq_true]
  constructor
  · intro g i hi
    rw [← h i (List.mem_range.mp hi)]; exact g i hi
  · intro g i hi
    rw [h i (List.mem_range.mp hi)]; exact g i hi
/-- the items' answers -/
theorem eqs_items {A : Around} {xs ys : List D} {vs vs' : List V} {us us' : List Value} {e : Nat → Bool} (r : RepL X.K F xs vs) (r' : RepL X.K F ys vs') (g : Vals vs us) (g' : Vals vs' us')
    (ih : ∀ i x y, xs[i]? = some x → ys[i]? = some y → ∀ {v v' : V} {u u' : Value}, Rep X.K F x v → Rep X.K F y v' → RelV v u → RelV v' u' → EqAt A s u u' (e i)) :
    ∀ j (h1 : j < us.toArray.size) (h2 : j < us'.toArray.size), EqAt A s us.toArray[j] us'.toArray[j] (e j) := by
  intro j h1 h2
  have l1 : j < us.length := by simpa using h1
  have l2 : j < us'.length := by simpa using h2
  have l3 : j < xs.length := by rw [← r.length, g.length]; exact l1
  have l4 : j < ys.length := by rw [← r'.length, g'.length]; exact l2
  obtain ⟨w, w1, w2⟩ := r.get (List.getElem?_eq_getElem l3)
  obtain ⟨w', w3, w4⟩ := r'.get (List.getElem?_eq_getElem l4)
  obtain ⟨t, t1, t2⟩ := g.get w1
  obtain ⟨t', t3, t4⟩ := g'.get w3
  have e1 : us.toArray[j] = t := by
    have := List.getElem?_eq_getElem l1
    rw [t1] at this
    simp at this ⊢
    exact this.symm
  have e2 : us'.toArray[j] = t' := by
    have := List.getElem?_eq_getElem l2
    rw [t3] at this
    simp at this ⊢
    exact this.symm
  rw [e1, e2]
  exact ih j _ _ (List.getElem?_eq_getElem l3) (List.getElem?_eq_getElem l4) w2 w4 t2 t4
theorem eqs_at (I : Inv X pins σ H s) (S : Sep X.K F ms H) {n : Nat} {x y : D} {b : Bool} (h : EqS n x y b) : ∀ {A : Around} {v v' : V} {u u' : Value}, A.units + n < cLine → Rep X.K F x v → Rep X.K F y v' → RelV v u → RelV v' u' → EqAt A s u u' b := by
  induction h with
  | non => intro A v v' u u' hu r r' g g'; cases r; cases r'; cases g; cases g'; exact EqAt.same _
  | bl => intro A v v' u u' hu r r' g g'; cases r; cases r'; cases g; cases g'; exact EqAt.bool_bool _ _
  | int => intro A v v' u u' hu r r' g g'; cases r; cases r'; obtain ⟨_, rfl⟩ := g; obtain ⟨_, rfl⟩ := g'; exact EqAt.int_int _ _ _ _
  | str => intro A v v' u u' hu r r' g g'; cases r; cases r'; obtain ⟨_, rfl⟩ := g; obtain ⟨_, rfl⟩ := g'; exact EqAt.str_str _ _ _ _
  | nonInt => intro A v v' u u' hu r r' g g'; cases r; cases r'; cases g; obtain ⟨_, rfl⟩ := g'; exact EqAt.none_int _ _
  | intNon => intro A v v' u u' hu r r' g g'; cases r; cases r'; cases g'; obtain ⟨_, rfl⟩ := g; exact EqAt.int_none _ _
  | nonTup =>
    intro A v v' u u' hu r r' g g'
    obtain ⟨_, _, rfl, h1, h2⟩ := r'
    cases r; cases g; cases g'
    obtain ⟨its, _, p, _⟩ := I.tuple (S.sqT h1)
    exact EqAt.none_tuple p (by omega)
  | tupNon =>
    intro A v v' u u' hu r r' g g'
    obtain ⟨_, _, rfl, h1, h2⟩ := r
    cases r'; cases g; cases g'
    obtain ⟨its, _, p, _⟩ := I.tuple (S.sqT h1)
    exact EqAt.tuple_none p (by omega)
  | @lst n xs ys e hl he ih =>
    intro A v v' u u' hu r r' g g'
    have hs := @eqs_same X pins σ s F H ms I S (n + 1) (.lst xs) (.lst ys) _ (.lst hl he) v v' u r r' g
    obtain ⟨a, vs, rfl, h1, h2⟩ := id r
    obtain ⟨a', vs', rfl, h1', h2'⟩ := id r'
    obtain rfl : u = .ref a := g
    obtain rfl : u' = .ref a' := g'
    by_cases ea : a = a'
    · subst ea
      rw [hs rfl]
      exact EqAt.same _
    obtain ⟨its, rv, p, _⟩ := I.list (SqL.of (S.ex _ _ h1))
    obtain ⟨its', rv', p', _⟩ := I.list (SqL.of (S.ex _ _ h1'))
    have l1 : its.toArray.size = xs.length := by rw [List.size_toArray, ← rv.length, h2.length]
    have l2 : its'.toArray.size = ys.length := by rw [List.size_toArray, ← rv'.length, h2'.length]
    have z := RcAt.lists (A := A) (e := e) p.isList p'.isList (by rw [l1, l2, hl]) (by omega) (eqs_items h2 h2' rv rv' fun i x y hx hy => ih i x y hx hy (by show A.units + 1 + n < cLine; omega))
    rw [l1] at z
    exact EqAt.of_refs ea z
  | @lstL n xs ys hl =>
    intro A v v' u u' hu r r' g g'
    have hs := @eqs_same X pins σ s F H ms I S (n + 1) (.lst xs) (.lst ys) _ (.lstL hl) v v' u r r' g
    obtain ⟨a, vs, rfl, h1, h2⟩ := id r
    obtain ⟨a', vs', rfl, h1', h2'⟩ := id r'
    obtain rfl : u = .ref a := g
    obtain rfl : u' = .ref a' := g'
    by_cases ea : a = a'
    · subst ea
      exact absurd (hs rfl) Bool.false_ne_true
    obtain ⟨its, rv, p, _⟩ := I.list (SqL.of (S.ex _ _ h1))
    obtain ⟨its', rv', p', _⟩ := I.list (SqL.of (S.ex _ _ h1'))
    have l1 : its.toArray.size = xs.length := by rw [List.size_toArray, ← rv.length, h2.length]
    have l2 : its'.toArray.size = ys.length := by rw [List.size_toArray, ← rv'.length, h2'.length]
    exact EqAt.of_refs ea (RcAt.lists_lengths p.isList p'.isList (by rw [l1, l2]; simpa using hl) (by omega))
  | @tup n xs ys e he ih =>
    intro A v v' u u' hu r r' g g'
    have hs := @eqs_same X pins σ s F H ms I S (n + 1) (.tup xs) (.tup ys) _ (.tup he) v v' u r r' g
    obtain ⟨a, vs, rfl, h1, h2⟩ := id r
    obtain ⟨a', vs', rfl, h1', h2'⟩ := id r'
    obtain rfl : u = .ref a := g
    obtain rfl : u' = .ref a' := g'
    by_cases ea : a = a'
    · subst ea
      rw [hs rfl]
      exact EqAt.same _
    obtain ⟨its, rv, p, _⟩ := I.tuple (S.sqT h1)
    obtain ⟨its', rv', p', _⟩ := I.tuple (S.sqT h1')
    have l1 : its.toArray.size = xs.length := by rw [List.size_toArray, ← rv.length, h2.length]
    have l2 : its'.toArray.size = ys.length := by rw [List.size_toArray, ← rv'.length, h2'.length]
    have z := RcAt.tuples (A := A) (e := e) p p' (by omega) (eqs_items h2 h2' rv rv' fun i x y hx hy => ih i x y hx hy (by show A.units + 1 + n < cLine; omega))
    rw [l1, l2] at z
    exact EqAt.of_refs ea z
/-- d is x: data that stays, or a list of the store -/
def EqOf (ms : MS) (d x : D) : Prop := d = x ∨ ∃ xs, x = .lst xs ∧ LsOf ms d xs
theorem EqOf.f {ms : MS} {x : D} : EqOf ms x x := .inl rfl
theorem EqOf.m {ms : MS} {d : D} {xs : List D} (l : LsOf ms d xs) : EqOf ms d (.lst xs) := .inr ⟨xs, rfl, l⟩
theorem EqOf.ls {ms : MS} {d : D} {xs : List D} (h : EqOf ms d (.lst xs)) : LsOf ms d xs := by
  rcases h with rfl | ⟨ys, e, l⟩
  · exact LsOf.f
  · cases e; exact l
theorem EqOf.no {ms : MS} {d x : D} (h : EqOf ms d x) (n : ∀ xs, x ≠ .lst xs) : d = x := by
  rcases h with rfl | ⟨ys, e, l⟩
  · rfl
  · exact absurd e (n ys)
theorem eqs_rc (I : Inv X pins σ H s) (S : Sep X.K F ms H) {n : Nat} {x y d d' : D} {b : Bool} (h : EqS n x y b) (ho : EqOf ms d x) (ho' : EqOf ms d' y) {A : Around} {v v' : V} {u u' : Value} (hu : A.units + n < cLine) (r : Rep X.K F d v) (r' : Rep X.K F d' v') (g : RelV v u) (g' : RelV v' u') :
    RcAt A s u u' b ∧ RcNeAt A s u u' (!b) := by
  cases h with
  | non => cases ho.no (fun _ z => by cases z); cases ho'.no (fun _ z => by cases z); cases r; cases r'; cases g; cases g'; exact ⟨RcAt.none_none, RcNeAt.none_none⟩
  | bl => cases ho.no (fun _ z => by cases z); cases ho'.no (fun _ z => by cases z); cases r; cases r'; cases g; cases g'; exact ⟨RcAt.bool_bool _ _, RcNeAt.bool_bool _ _⟩
  | int => cases ho.no (fun _ z => by cases z); cases ho'.no (fun _ z => by cases z); cases r; cases r'; obtain ⟨_, rfl⟩ := g; obtain ⟨_, rfl⟩ := g'; exact ⟨RcAt.int_int _ _ _ _, RcNeAt.int_int _ _ _ _⟩
  | str => cases ho.no (fun _ z => by cases z); cases ho'.no (fun _ z => by cases z); cases r; cases r'; obtain ⟨_, rfl⟩ := g; obtain ⟨_, rfl⟩ := g'; exact ⟨RcAt.str_str _ _ _ _, RcNeAt.str_str _ _ _ _⟩
  | nonInt => cases ho.no (fun _ z => by cases z); cases ho'.no (fun _ z => by cases z); cases r; cases r'; cases g; obtain ⟨_, rfl⟩ := g'; exact ⟨RcAt.none_int _ _, RcNeAt.none_int _ _⟩
  | intNon => cases ho.no (fun _ z => by cases z); cases ho'.no (fun _ z => by cases z); cases r; cases r'; cases g'; obtain ⟨_, rfl⟩ := g; exact ⟨RcAt.int_none _ _, RcNeAt.int_none _ _⟩
  | nonTup =>
    cases ho.no (fun _ z => by cases z)
    cases ho'.no (fun _ z => by cases z)
    obtain ⟨_, _, rfl, h1, h2⟩ := r'
    cases r; cases g; cases g'
    obtain ⟨its, _, p, _⟩ := I.tuple (S.sqT h1)
    exact ⟨RcAt.none_tuple p (by omega), RcNeAt.none_tuple p (by omega)⟩
  | tupNon =>
    cases ho.no (fun _ z => by cases z)
    cases ho'.no (fun _ z => by cases z)
    obtain ⟨_, _, rfl, h1, h2⟩ := r
    cases r'; cases g; cases g'
    obtain ⟨its, _, p, _⟩ := I.tuple (S.sqT h1)
    exact ⟨RcAt.tuple_none p (by omega), RcNeAt.tuple_none p (by omega)⟩
  | @lst n xs ys e hl he =>
    obtain ⟨a, vs, rfl, h1, h2⟩ := ho.ls.at r S
    obtain ⟨a', vs', rfl, h1', h2'⟩ := ho'.ls.at r' S
    obtain rfl : u = .ref a := g
    obtain rfl : u' = .ref a' := g'
    obtain ⟨its, rv, p, _⟩ := I.list (SqL.of h1)
    obtain ⟨its', rv', p', _⟩ := I.list (SqL.of h1')
    have l1 : its.toArray.size = xs.length := by rw [List.size_toArray, ← rv.length, h2.length]
    have l2 : its'.toArray.size = ys.length := by rw [List.size_toArray, ← rv'.length, h2'.length]
    have z := eqs_items (A := A.in1) (s := s) (e := e) h2 h2' rv rv' fun i x y hx hy => eqs_at I S (he i x y hx hy) (by show A.units + 1 + n < cLine; omega)
    have z1 := RcAt.lists (A := A) (e := e) p.isList p'.isList (by rw [l1, l2, hl]) (by omega) z
    have z2 := RcNeAt.lists (A := A) (e := e) p.isList p'.isList (by rw [l1, l2, hl]) (by omega) z
    rw [l1] at z1 z2
    exact ⟨z1, z2⟩
  | @lstL n xs ys hl =>
    obtain ⟨a, vs, rfl, h1, h2⟩ := ho.ls.at r S
    obtain ⟨a', vs', rfl, h1', h2'⟩ := ho'.ls.at r' S
    obtain rfl : u = .ref a := g
    obtain rfl : u' = .ref a' := g'
    obtain ⟨its, rv, p, _⟩ := I.list (SqL.of h1)
    obtain ⟨its', rv', p', _⟩ := I.list (SqL.of h1')
    have l1 : its.toArray.size = xs.length := by rw [List.size_toArray, ← rv.length, h2.length]
    have l2 : its'.toArray.size = ys.length := by rw [List.size_toArray, ← rv'.length, h2'.length]
    exact ⟨RcAt.lists_lengths p.isList p'.isList (by rw [l1, l2]; simpa using hl) (by omega), RcNeAt.lists_lengths p.isList p'.isList (by rw [l1, l2]; simpa using hl) (by omega)⟩
  | @tup n xs ys e he =>
    cases ho.no (fun _ z => by cases z)
    cases ho'.no (fun _ z => by cases z)
    obtain ⟨a, vs, rfl, h1, h2⟩ := r
    obtain ⟨a', vs', rfl, h1', h2'⟩ := r'
    obtain rfl : u = .ref a := g
    obtain rfl : u' = .ref a' := g'
    obtain ⟨its, rv, p, _⟩ := I.tuple (S.sqT h1)
    obtain ⟨its', rv', p', _⟩ := I.tuple (S.sqT h1')
    have l1 : its.toArray.size = xs.length := by rw [List.size_toArray, ← rv.length, h2.length]
    have l2 : its'.toArray.size = ys.length := by rw [List.size_toArray, ← rv'.length, h2'.length]
    have z := eqs_items (A := A.in1) (s := s) (e := e) h2 h2' rv rv' fun i x y hx hy => eqs_at I S (he i x y hx hy) (by show A.units + 1 + n < cLine; omega)
    have z1 := RcAt.tuples (A := A) (e := e) p p' (by omega) z
    have z2 := RcNeAt.tuples (A := A) (e := e) p p' (by omega) z
    rw [l1, l2] at z1 z2
    exact ⟨z1, z2⟩
end
section
variable {X : Cx} {N : List Str} {k : Nat} {ms : MS} {kd : DK}
theorem opd_eqX (C : Ctx X N k) {n : Nat} {d e x y : D} {b : Bool} (h : EqS n x y b) (h1 : EqOf ms d x) (h2 : EqOf ms e y) (hn : n ≤ 60) (q : kd (.bl b) ms) : OpD X (compareOp .Eq) d e ms kd := fun F v u H Q rv ru S V pins s σ v' u' I r1 r2 =>
  (eqs_rc (A := X.A) I S h h1 h2 (by have := C.room.units; omega) rv ru r1 r2).1 _ _ _ _ ⟨.bl b, H, I, rfl, V.val (d := .bl b) S rfl q⟩
theorem opd_neX (C : Ctx X N k) {n : Nat} {d e x y : D} {b : Bool} (h : EqS n x y b) (h1 : EqOf ms d x) (h2 : EqOf ms e y) (hn : n ≤ 60) (q : kd (.bl (!b)) ms) : OpD X (compareOp .NotEq) d e ms kd := fun F v u H Q rv ru S V pins s σ v' u' I r1 r2 =>
  (eqs_rc (A := X.A) I S h h1 h2 (by have := C.room.units; omega) rv ru r1 r2).2 _ _ _ _ ⟨.bl (!b), H, I, rfl, V.val (d := .bl (!b)) S rfl q⟩
/-! families -/
theorem EqS.cast {n : Nat} {x y : D} {b b' : Bool} (h : EqS n x y b) (e : b = b') : EqS n x y b' := e ▸ h
theorem EqS.intD {n : Nat} {a b : Int} : EqS n (.int a) (.int b) (decide (a = b)) := EqS.int.cast (by rw [Bool.eq_iff_iff]; simp)
theorem EqS.strD {n : Nat} {a b : Str} : EqS n (.str a) (.str b) (decide (a = b)) := EqS.str.cast (by rw [Bool.eq_iff_iff]; simp)
theorem EqS.map {α : Type} [DecidableEq α] {n : Nat} {f : α → D} (h : ∀ a b, EqS n (f a) (f b) (decide (a = b))) (as bs : List α) : EqS (n + 1) (.lst (as.map f)) (.lst (bs.map f)) (decide (as = bs)) := by
  by_cases hl : as.length = bs.length
  · refine (EqS.lst (e := fun i => decide (as[i]? = bs[i]?)) (by simpa using hl) fun i x y hx hy => ?_).cast ?_
    · rw [List.getElem?_map] at hx hy
      cases ha : as[i]? with
      | none => rw [ha] at hx; cases hx
      | some a =>
        cases hb : bs[i]? with
        | none => rw [hb] at hy; cases hy
        | some b =>
          rw [ha] at hx
          rw [hb] at hy
          cases hx
          cases hy
          exact (h a b).cast (by rw [Bool.eq_iff_iff]; simp)
    · rw [Bool.eq_iff_iff, List.all_eq_true, decide_eq_true_iff]
      constructor
      · intro g
        apply List.ext_getElem?
        intro i
        by_cases hi : i < as.length
        · have := g i (List.mem_range.mpr (by rw [List.length_map]; exact hi))
          simpa using this
        · rw [List.getElem?_eq_none (by omega), List.getElem?_eq_none (by omega)]
      · rintro rfl
        intro i _
        simp
  · exact (EqS.lstL (by simpa using hl)).cast (by symm; rw [decide_eq_false_iff_not]; intro e; exact hl (by rw [e]))
theorem EqS.two {n : Nat} {a b c d : D} {p q : Bool} (h1 : EqS n a c p) (h2 : EqS n b d q) : EqS (n + 1) (.tup [a, b]) (.tup [c, d]) (p && q) := by
  refine (EqS.tup (e := fun i => if i = 0 then p else q) fun i x y hx hy => ?_).cast ?_
  · match i, hx, hy with
    | 0, hx, hy => cases hx; cases hy; exact h1
    | 1, hx, hy => cases hx; cases hy; exact h2
    | i + 2, hx, hy => simp at hx
  · show ((List.range 2).all _ && (2 == 2)) = _
    rw [show List.range 2 = [0, 1] from rfl]
    simp
theorem EqS.three {n : Nat} {a b c a' b' c' : D} {p q r : Bool} (h1 : EqS n a a' p) (h2 : EqS n b b' q) (h3 : EqS n c c' r) : EqS (n + 1) (.tup [a, b, c]) (.tup [a', b', c']) (p && q && r) := by
  refine (EqS.tup (e := fun i => if i = 0 then p else if i = 1 then q else r) fun i x y hx hy => ?_).cast ?_
  · match i, hx, hy with
    | 0, hx, hy => cases hx; cases hy; exact h1
    | 1, hx, hy => cases hx; cases hy; exact h2
    | 2, hx, hy => cases hx; cases hy; exact h3
    | i + 3, hx, hy => simp at hx
  · show ((List.range 3).all _ && (3 == 3)) = _
    rw [show List.range 3 = [0, 1, 2] from rfl]
    simp [Bool.and_assoc]
theorem EqS.nil {n : Nat} (xs : List D) : EqS (n + 1) (.lst xs) (.lst []) xs.isEmpty := by
  cases xs with
  | nil => exact (EqS.lst (e := fun _ => true) rfl fun i x y hx hy => by simp at hx).cast (by simp)
  | cons x r => exact EqS.lstL (by simp)
theorem opd_neNil (C : Ctx X N k) {d : D} {xs : List D} (l : LsOf ms d xs) (q : kd (.bl (!xs.isEmpty)) ms) : OpD X (compareOp .NotEq) d (.lst []) ms kd := opd_neX C (n := 1) (EqS.nil xs) (.m l) .f (by decide) q
theorem opd_eqNil (C : Ctx X N k) {d : D} {xs : List D} (l : LsOf ms d xs) (q : kd (.bl xs.isEmpty) ms) : OpD X (compareOp .Eq) d (.lst []) ms kd := opd_eqX C (n := 1) (EqS.nil xs) (.m l) .f (by decide) q
end
end DL

/-! DL6: own errors: class E(ValueError) whose __init__ says super().__init__(value); self.value = value. -/
namespace DL
open PySem PySem.Spec PyProof.Rows L2 PySem.W PySem.HandSPX PySem.Calls
/-! the text of __init__ -/
def xiA (p1 p2 : Pos) : Arguments := { posonlyargs := [], args := [{ arg := "self", annotation := none, pos := p1 }, { arg := "value", annotation := none, pos := p2 }], vararg := none, kwonlyargs := [], kw_defaults := [], kwarg := none, defaults := [] }
def xiB (p0 p1 p2 p3 p4 p5 p6 p7 p8 p9 : Pos) : List Stmt := [.Expr (.Call (.Attribute (.Call (.Name "super" p0) [] [] p1) "__init__" p2) [.Name "value" p3] [] p4) p5, .Assign [.Attribute (.Name "self" p6) "value" p7] (.Name "value" p8) p9]
def xiS : Scope := { kind := .function, names := [(PySem.Str.ofString "self", .local), (PySem.Str.ofString "value", .local), (PySem.Str.ofString "__class__", .free), (PySem.Str.ofString "super", .globalImplicit)], isGenerator := false, isCoroutine := false, more := [] }
/-- what the written part says of the error class x at C, of the class D that has the __init__ at fI -/
structure SupTxt (P : Program) (K : PySem.W.Frag) (mg : Str → Option Value) (x : Str) (C D fI : Addr) : Prop where
  oex : OexC K C
  xf : XfC K C
  gC : mg x = some (.ref C)
  noV : findIn K (.ref C) "value" = some none
  iC : findIn K (.ref C) "__init__" = some (some (.ref fI))
  tI : typeIn K (.ref fI) = some (.type "function")
  hD : ∃ cd, clsIn K D = some cd
  sub : mroIn K C (.ref D) = some true
  subV : subIn K (.ref C) (.type "ValueError") = some true
  sup : ks_superIn K C D "__init__" = some (some (.builtin "ValueError.__init__"))
  opq : nsIn K cStatics "thirdparty.any" = some none
  mgs : mg "super" = none
  top : (P.main.scope.names.lookup ("super" : Str)).isSome = false
  fn : ∃ (oc : Value) (od : Option Addr) (kV doc pm : Value) (an : Option Addr) (cda : Addr) (ct : Value) (osl : Array (Option Value)) (cc : Addr) (file : Str) (tf : Tok) (vs : Array Value) (ccl : Value) (cdd : Option Addr) (ccs : Array (Option Value)) (cl : Value) (cld : Option Addr) (csl : Array (Option Value))
    (p1 p2 q0 q1 q2 q3 q4 q5 q6 q7 q8 q9 : Pos) (qual : Str),
    (q2.endLine == q4.line) = true ∧ K.lookup fI = some ⟨oc, od, .func (ksFn "__init__" qual (xiA p1 p2) (xiB q0 q1 q2 q3 q4 q5 q6 q7 q8 q9) xiS .none kV doc pm an (.ref cda) ct cc), osl⟩ ∧ codeIn K (.ref cda) qual = true ∧
    K.lookup cda = some ⟨ccl, cdd, .fields vs, ccs⟩ ∧ vs[2]? = some (.str file tf) ∧ ((P.main.file : Str) == file) = true ∧ K.lookup cc = some ⟨cl, cld, .cell (some (.ref D)), csl⟩
/-- what __init__ leaves of a fresh error at x -/
structure SupEnd (h h' : Heap) (x C dx : Addr) (v : Value) : Prop where
  keep : ∀ b o, b ≠ x → h.get? b = some o → h'.get? b = some o
  obj : ∃ t1 : Addr, h'.get? x = some { cls := .ref C, dict := some dx, data := .fields #[.ref t1, .none, .none, .none, .bool false, .none] }
  dbig : h.objs.size ≤ dx
  dne : dx ≠ x
  ns : h'.Ns1 dx (fun y => if y = "value" then some v else none)
theorem kept_but' {K : Frag} {h h' : Heap} {x : Addr} (X : K.In h) (hx : K.lookup x = none) (k : ∀ b o, b ≠ x → h.get? b = some o → h'.get? b = some o) : K.In h' := fun a o e =>
  k a o (fun z => by rw [z, hx] at e; cases e) (X a o e)
theorem sup_eval {o : Expr} {name : Str} {apos pos : Pos} {e : Expr} {env : Env} (hl : (apos.endLine == pos.line) = true) (hs : (backTo pos (starEach [e] env)).all (fun x => !x.1) = true := by rfl) :
    eval (.Call (.Attribute o name apos) [e] [] pos) env = (do
      let ov ← attributeBase o name env (eval o env)
      standAt apos.atName
      let (f, first) ← holding [ov] (getMethod ov name (do return (← importBound o env).getD true))
      callWith pos f first (backTo pos (starEach [e] env)) []) := by
  rw [arm_eval_Call]
  have hform : methodCallForm ([e].length + ([] : List Keyword).length) (backTo pos (starEach [e] env)) (backToKw pos (keywordEach [] env)) = true := by
    unfold methodCallForm
    rw [hs]
    rfl
  have hpos : methodCallPos true o env apos pos = pure pos := by unfold methodCallPos; simp [hl]
  unfold methodCall
  rw [hform, hpos]
  rfl
section
variable {prog : Program} {w : World} {A : Around} {E : Value → Shared → Prop} {R : Result → Shared → Prop} {s : Shared} {K : Frag} {mg : Str → Option Value} {C D fI : Addr} {nm : Str}
theorem sup_init (T : SupTxt prog K mg nm C D fI) {base : Heap} (M : Mod K mg base) (bk : ∀ b o, base.get? b = some o → s.heap.get? b = some o) {x t0 : Addr} {v : Value} 
    (hx : s.heap.get? x = some (excO C t0)) (hnx : base.get? x = none) (hroom : A.depth < recursionLimit)
    (hq : ∀ h' tk dx, SupEnd s.heap h' x C dx v → R (.ok (.ret .none)) { s with heap := h', toks := tk }) :
    codeAny (model prog w) A (.call (.ref fI) ⟨[.ref x, v], []⟩) R s := by
  have X : K.In s.heap := M.kin.keeps bk
  have hlim : s.heap.NoLimit := M.nolimit.keeps bk
  obtain ⟨mb, hb1, hb2⟩ := M.blt
  obtain ⟨oc, od, kV, doc, pm, an, cda, ct, osl, cc, file, tf, vs, ccl, cdd, ccs, cl, cld, csl, p1, p2, q0, q1, q2, q3, q4, q5, q6, q7, q8, q9, qual, hln, ho, hcd, hcode, hvs, hfile, hcell⟩ := T.fn
  obtain ⟨nm', q, N, bs, bm, sn, sub, ab, col, dd, k0, k1, k2, k3, k5, hC, hbm⟩ := T.oex.cls
  have hcl : clsIn K C = some { name := nm', bases := bs, mro := .ref C :: bm, ns := N, qualname := q, hasDict := true, slotNames := sn, subclasses := sub, abstract := ab, collection := col, hasDel := false } := by unfold clsIn; rw [hC] <;> rfl
  refine ks_codeAny_call_defAt (body := xiB q0 q1 q2 q3 q4 q5 q6 q7 q8 q9) (binds := [("self", .ref x), ("value", v)]) hroom (X _ _ ho) rfl hlim (codeRec_of X hcd) rfl (BindsTo.of_eq (by first | rfl | with_unfolding_all rfl)) (show ∀ x ∈ xiS.names, x.2 ≠ .cell by decide +kernel) (fun y hy => ?_) (fun h₁ hns k => ?_) rfl rfl rfl
  · have hy : y ∈ ([(("self" : Str), Value.ref x), ("value", v)] : List (Str × Value)) := hy
    show xiS.names.lookup y.1 = _
    rcases List.mem_cons.mp hy with rfl | hy
    · show xiS.names.lookup ("self" : Str) = some .local
      decide +kernel
    · rcases List.mem_cons.mp hy with rfl | hy
      · show xiS.names.lookup ("value" : Str) = some .local
        decide +kernel
      · cases hy
  have X₁ : K.In h₁ := X.keeps k
  have hx₁ := k _ _ hx
  have bk₁ : ∀ b o, base.get? b = some o → h₁.get? b = some o := fun b o e => k b o (bk b o e)
  have hg₁ : h₁.Ns mainGlobals mg := M.glob.keeps bk₁
  have hxL : s.heap.objs.size ≠ x := Nat.ne_of_gt (Heap.lt_size hx)
  have hself : (fun y => ([(("self" : Str), Value.ref x), ("value", v)] : List (Str × Value)).reverse.lookup y) ("self" : Str) = some (.ref x) := by first | rfl | decide +kernel | simp [List.lookup]
  have hval : (fun y => ([(("self" : Str), Value.ref x), ("value", v)] : List (Str × Value)).reverse.lookup y) ("value" : Str) = some v := by first | rfl | simp [List.lookup]
  obtain ⟨oD, hD1, hD2⟩ : ∃ oD, h₁.get? D = some oD ∧ ∃ cdD, oD.data = .cls cdD := by
    obtain ⟨cd, hD⟩ := T.hD
    unfold clsIn at hD
    split at hD
    · rename_i c d cd' sl ho
      cases hD
      exact ⟨_, X₁ _ _ ho, _, rfl⟩
    · cases hD
  obtain ⟨cdD, hD2⟩ := hD2
  obtain ⟨hh, g, d, t, os⟩ := s
  -- super().__init__(value)
  refine ks_wpAt_execs_cons (ks_wpAt_Expr_any (ks_wpAt_MethodCall ?_ (sup_eval hln)))
  refine ks_wpAt_super_base (env := ksEnv qual xiS hh.objs.size fI (.ref cda) cc) (by first | rfl | decide +kernel) (by first | rfl | decide +kernel) (by decide) rfl (X₁ _ _ ho) rfl rfl rfl (X₁ _ _ hcode) rfl hvs hfile T.top ?_
  refine ks_loadName_global rfl (by first | rfl | decide +kernel) (loadGlobal_builtin (env := ksEnv qual xiS hh.objs.size fI (.ref cda) cc) hg₁ T.mgs (hb1.keeps bk₁) ((hb2 "super" (by decide)).trans (by decide +kernel)) ⟨rfl, ?_⟩)
  refine wpAny_loadName_free rfl (by first | rfl | decide +kernel) rfl ⟨_, X₁ _ _ hcell, rfl⟩ ?_
  refine wpAny_loadName_local rfl (by first | rfl | decide +kernel) hns hself ?_
  refine ks_wpAny_isType_cls hD1 hD2 ⟨rfl, ?_⟩
  refine ks_wpAny_call_super hD1 hD2 hx₁ rfl (fun c e => by cases e) (looks_mroIn X₁ T.sub) (fun h₂ e2 k₂ => ?_)
  have X₂ : K.In h₂ := X₁.keeps k₂
  have I2 : InstAt h₂ x (excO C t0) C none := ⟨k₂ _ _ hx₁, rfl, rfl, trivial⟩
  have hsup := T.sup
  unfold ks_superIn at hsup
  rw [hcl] at hsup
  refine kxs_getMethod (B := "ValueError") (i := "ValueError.__init__") kxs_ValueError (C := C) (x := x) (D := D) e2 (looks_opaque X₂ T.opq) (l₀ := .ref C :: bm) ?_ rfl X₂ hsup (I2.type.andThen (looks_subIn X₂ T.subV)) (ks_ne X₂ I2 hcl) (by decide) ?_
  · exact fun A Q E s k q => wpAny_bind ((looks_clsIn X₂ hcl) A _ E s k (wpAny_pure q))
  -- the call
  have km : ∀ b o, h₂.get? b = some o → (h₂.push (kxs_mw "ValueError.__init__" x)).get? b = some o := fun b o e => Heap.get?_push_of_some _ e
  have hmw : (h₂.push (kxs_mw "ValueError.__init__" x)).get? h₂.objs.size = some (kxs_mw "ValueError.__init__" x) := Heap.get?_push_at rfl rfl
  refine kxs_callWith (i := "ValueError.__init__") (x := x) rfl ?_
  refine evalArgs_plain ?_
  have hn₂ : (h₂.push (kxs_mw "ValueError.__init__" x)).Ns hh.objs.size _ := hns.keeps fun b o e => km b o (k₂ b o e)
  refine spliced_more (wpAny_Name (wpAny_loadName_local rfl (by first | rfl | decide +kernel) hn₂ hval ?_) (by decide)) rfl
  refine spliced_none ⟨hmw, ?_⟩
  have X₃ : K.In (h₂.push (kxs_mw "ValueError.__init__" x)) := X₂.keeps km
  have hx₃ := km _ _ (k₂ _ _ hx₁)
  have hnL : ∀ b o, h₁.get? b = some o → (h₂.push (kxs_mw "ValueError.__init__" x)).get? b = some o := fun b o e => km b o (k₂ b o e)
  generalize hmwh : h₂.push (kxs_mw "ValueError.__init__" x) = h₃ at hn₂ X₃ hx₃ hmw hnL ⊢
  refine wpAny_call (codeAny_of_tree ?_)
  show wpAny _ _ (callAny (.ref h₂.objs.size) ⟨[v], []⟩) _ _ _
  simp only [callAny]
  refine wpAny_bind (wpAny_load hmw ?_)
  simp only [kxs_mw, show (Value.type "method-wrapper" == Value.type "method" || Value.type "method-wrapper" == Value.type "builtin_function_or_method" || Value.type "method-wrapper" == Value.type "method-wrapper") = true by decide, if_true]
  refine KFB.if_so (by decide) ?_
  refine wpAny_bind (check_bound_init F.excBase_ValueError.toExcCallFacts (X₃ _ _ hC) hx₃ rfl ?_)
  refine wpAny_bind (wpAny_pure (wpAny_pure ?_))
  refine ⟨plainId_quiet F.excBase_ValueError.init.plain _, codeAny_builtin F.excBase_ValueError.initEntry ?_⟩
  refine exc_init_tree (cls := .ref C) (t0 := t0) (dv := none) (c2 := .none) (c3 := .none) (b4 := .bool false) hx₃ (by rw [sizeLine_eq]; show 1 ≤ 16777216; decide) fun h₄ k₄ hx₄ ht₄ => ?_
  -- self.value = value
  show _root_.PySem.wpAt _ _ _ (execs _ _) _ _ _
  have hxs : hh.objs.size ≠ x := hxL
  have hn₄ : h₄.Ns hh.objs.size (fun y => ([(("self" : Str), Value.ref x), ("value", v)] : List (Str × Value)).reverse.lookup y) := by
    obtain ⟨oL, es, ep, hL, r⟩ := hn₂
    exact ⟨oL, es, ep, k₄ _ _ hxs hL, r⟩
  have nx : K.lookup x = none := by
    cases e : K.lookup x with
    | none => rfl
    | some o => rw [M.kin _ _ e] at hnx; cases hnx
  have X₄ : K.In h₄ := kept_but' X₃ nx k₄
  refine wpAt_of_wpAny (wpAny_execs_cons (plainObj_wpAny_Assign_Attribute ?_))
  refine wpAny_Name (wpAny_loadName_local rfl (by first | rfl | decide +kernel) hn₄ hval (wpAny_Name (wpAny_loadName_local rfl (by first | rfl | decide +kernel) hn₄ hself ?_) (by decide))) (by decide)
  refine set_plain X₄ (ox := excO C h₃.objs.size) (od := none) ⟨hx₄, rfl, rfl, trivial⟩ T.oex.sa ?_
  refine exc_osa X₄ hx₄ hcl (show refsVE (.ref C :: bm) = true from hbm) rfl T.noV (fun h₅ tk₅ dx k₅ dn dne hx₅ hn₅ => ?_)
  show wpAny _ _ (execs _ _) _ _ _
  have z : hh.objs.size < h₄.objs.size := hn₄.lt
  exact wpAny_execs_nil (hq h₅ tk₅ dx ⟨fun b o hb e => k₅ b o hb (k₄ b o hb (hnL b o (k b o e))), ⟨_, hx₅⟩, Nat.le_of_lt (Nat.lt_of_lt_of_le z dn), dne, hn₅⟩)
end

/-- a made error -/
structure SupMade (h h' : Heap) (e C d : Addr) (v : Value) : Prop where
  keep : ∀ b o, h.get? b = some o → h'.get? b = some o
  new : h.objs.size ≤ e
  obj : ∃ oe vs, h'.get? e = some oe ∧ oe.cls = .ref C ∧ oe.dict = some d ∧ oe.data = .fields vs ∧ vs[1]? = some .none
  dbig : h.objs.size ≤ d
  dne : d ≠ e
  ns : h'.Ns1 d (fun y => if y = "value" then some v else none)
section
variable {prog : Program} {w : World} {A : Around} {E : Value → Shared → Prop} {R : Result → Shared → Prop} {s : Shared} {K : Frag} {mg : Str → Option Value} {C D fI : Addr} {nm : Str}
theorem sup_made (T : SupTxt prog K mg nm C D fI) {base : Heap} (M : Mod K mg base) (bk : ∀ b o, base.get? b = some o → s.heap.get? b = some o) {v : Value} (hroom : A.depth + 1 < recursionLimit)
    (hq : ∀ h' tk e d, SupMade s.heap h' e C d v → R (.ok (.ret (.ref e))) { s with heap := h', toks := tk }) :
    codeAny (model prog w) A (.call (.ref C) ⟨[v], []⟩) R s := by
  obtain ⟨nm', q, N, bs, bm, sn, sub, ab, col, dd, k0, k1, k2, k3, k5, hC, hbm⟩ := T.oex.cls
  obtain ⟨hp, g, dr, tk, os⟩ := s
  have X : K.In hp := M.kin.keeps bk
  have k : ∀ b o, hp.get? b = some o → ((hp.push (kdv_tup [v])).push (excO C hp.objs.size)).get? b = some o := fun b o e => Heap.get?_push_of_some _ (Heap.get?_push_of_some _ e)
  have hget : ((hp.push (kdv_tup [v])).push (excO C hp.objs.size)).get? (hp.objs.size + 1) = some (excO C hp.objs.size) := by heap_get
  have hnb : base.get? (hp.objs.size + 1) = none := by
    cases e : base.get? (hp.objs.size + 1) with
    | none => rfl
    | some o =>
      have z : hp.get? (hp.objs.size + 1) = some o := bk _ _ e
      exact absurd (Nat.lt_of_succ_lt (Heap.lt_size z)) (Nat.lt_irrefl _)
  refine call_own F.excBase_ValueError (fun X => refsVE_contains X bm hbm) (X _ _ hC) (looks_findIn X T.iC) (fun self => bind_fn X self T.tI) (by rw [sizeLine_eq]; show 1 ≤ 16777216; decide) ?_
  refine sup_init (s := ⟨(hp.push (kdv_tup [v])).push (excO C hp.objs.size), g, dr, tk, os⟩) T M (fun b o e => k b o (bk b o e)) hget hnb ?_ fun h' tk' dx ⟨k', hx, dn, dne, hns⟩ => ?_
  · show A.depth + 1 < recursionLimit
    exact hroom
  · have old : ∀ b o, hp.get? b = some o → h'.get? b = some o := fun b o e => k' b o (Nat.ne_of_lt (Nat.lt_succ_of_lt (Heap.lt_size e))) (k b o e)
    have z : hp.objs.size + 1 + 1 ≤ dx := by
      first
        | (simpa only [Heap.size_push] using dn)
        | exact dn
        | (have q := dn; rw [Heap.size_push, Heap.size_push] at q; exact q)
    obtain ⟨t1, hx⟩ := hx
    exact ⟨rfl, hq h' tk' (hp.objs.size + 1) dx ⟨old, Nat.le_succ _, ⟨_, _, hx, rfl, rfl, rfl, rfl⟩, Nat.le_trans (Nat.le_trans (Nat.le_succ _) (Nat.le_succ _)) z, dne, hns⟩⟩
end
section
variable {X : Cx} {xw : DX} {N : List Str} {k : Nat} {ds : DEnv} {ms : MS} {E : DEnds} {C D fI : Addr} {nm : Str}
/-- raise nm(e) -/
theorem ds_raise (T : SupTxt X.prog X.K X.mg nm C D fI) (Cc : Ctx X N (k + 1)) {a : Expr} {p pos pos2 : Pos} (h : DA X xw [a] ds ms fun vs ms1 => ∃ v, vs = [v] ∧ xw C v ds ms1) (hg : Gl X nm) (hdb : (nm == ("__debug__" : Str)) = false)
    (he : starEach (a :: []) X.env = (false, eval a X.env) :: starEach [] X.env) (hpl : (backTo pos (starEach [] X.env)).any (·.1) = false) : DS X xw (.Raise (some (.Call (.Name nm p) [a] [] pos)) none pos2) ds ms E := by
  intro F σ H Dd W A V
  refine fun pins s I => (ps_raise (t := fun σ H Q => wA X [a] σ H fun vs H1 => ∃ v, vs = [v] ∧ ∀ d, H1 d = none → Q (.ref C) (some d) (upd H1 d (.xd [(("value" : Str), v)]))) Cc.calm A.tk ?_).run pins s σ H Dd I ?_
  · intro pins s σ H Q I h
    refine wpAny_Call_Name_kw (ld_glob I hg T.gC ?_ hdb)
    refine PySem.W.callWith_K (h₀ := X.base) I.ok.mod.kin T.oex.kC (thn (h pos pins s I) fun us s1 hh => ?_) he hpl
    obtain ⟨vs, H1, I1, r1, v, ev, q1⟩ := hh
    subst ev
    refine ⟨I1.kIn, ?_⟩
    cases r1 with
    | @cons _ u _ _ rv rr =>
      cases rr
      refine wpAny_call (sup_made T I1.ok.mod I1.bk ?_ fun h' tk' e d M => ?_)
      · exact (Cc.room.make C [u] []).depth
      · obtain ⟨hp, g, dr, tk, os⟩ := s1
        show MkP X pins σ Q (.ref e) ⟨h', g, dr, tk', os⟩
        obtain ⟨oe, fv, hoe, hc, hd, hdat, h1⟩ := M.obj
        have hns := M.ns
        obtain ⟨G', g1, g2⟩ := restrict h' fun b => decide (b ≠ e)
        have gk : ∀ b, b ≠ e → G'.get? b = h'.get? b := fun b hb => g1 b (decide_eq_true hb)
        have ge : G'.get? e = none := g2 e (by simp)
        have old : ∀ b o, hp.get? b = some o → G'.get? b = some o := fun b o q => (gk b (Nat.ne_of_lt (Nat.lt_of_lt_of_le (Heap.lt_size q) M.new))).trans (M.keep b o q)
        have ob : ObjOk X.prog X.w (upd H1 d (.xd [(("value" : Str), v)])) G' d (.xd [(("value" : Str), v)]) :=
          ⟨_, hns.at (fun o q => (gk d M.dne).trans q), fun f => relO_put (fs := []) (mA := fun _ => none) rv (fun g => True.intro) f⟩
        have J : Inv X pins σ (upd H1 d (.xd [(("value" : Str), v)])) ⟨G', g, dr, tk', os⟩ := I1.laid (t' := tk') old M.dbig ob
        refine ⟨e, oe, fv, ⟨G', g, dr, tk', os⟩, _, .ref C, some d, rfl, J, fun b o q => ?_, ge, hoe, ⟨hc, hd⟩, hdat, h1, ?_, rfl, I1.bare, raises_own T.oex.exC T.oex.tyC, q1 d (I1.hok.fresh M.dbig)⟩
        · by_cases hb : b = e
          · have q' : G'.get? b = some o := q
            rw [hb, ge] at q'; cases q'
          · exact (gk b hb).symm.trans q
        · rw [upd_ne (Ne.symm M.dne)]
          exact I1.hok.fresh M.new
  · refine h F σ H _ W A fun F1 vs xs ms1 H1 e1 r1 S1 ⟨v, ev, q⟩ => ?_
    subst ev
    obtain ⟨u, rfl, g⟩ := r1.inv1
    refine ⟨u, rfl, fun d hd => ?_⟩
    have l := Le.new (F := F1) (o := .xd [(("value" : Str), u)]) (S1.free hd)
    exact A.xc _ C d v u ds σ ms1 _ (e1.trans l) (A.sr.mono (e1.trans l)) (g.mono l) (S1.newF hd) upd_same q
end

/-! ### try .. except x as n -/
theorem findObj_dataO {K : Frag} {C : Addr} {od : Option Obj} {name : Str} {a g : Value} (hc : (clsIn K C).isSome = true) (ha : findIn K (.ref C) name = some (some a)) (hg : specialIn K a "__get__" = some (some g)) (ht : takesIn K a = some true) : findObj K C od name = some (.bind g a) := by
  obtain ⟨cd, hc⟩ := Option.isSome_iff_exists.mp hc
  unfold findObj
  rw [hc, Option.bind_some, ha, Option.bind_some]
  simp [hg, ht]
section
variable {prog : Program} {w : World} {A : Around} {E : Value → Shared → Prop} {s : Shared} {K : Frag} {x C : Addr} {ox : Obj} {od : Option Obj}
/-- the class of an error with a dict -/
theorem err_class {Q : Option Value → Shared → Prop} (T : ExcC K C) (X : K.In s.heap) (I : InstAt s.heap x ox C od) (h : Q (some (.ref C)) { s with toks := s.toks + 1 }) : wpAny (model prog w) A (getAttr? (.ref x) "__class__") Q E s := by
  have hf : findObj K C od "__class__" = some (.bind (.builtin "getset_descriptor.__get__") (.builtin "object.__class__")) := findObj_dataO (by obtain ⟨cd, hc, _⟩ := any_some T.hd; rw [hc]; rfl) T.ha T.hn T.ht
  obtain ⟨hp, g, d, t, os⟩ := s
  have L0 := I.type (M := model prog w)
  have L1 := looks_findIn (M := model prog w) X T.hg
  have L2 := looks_findIn (M := model prog w) X T.hk
  have L3 := looks_find (M := model prog w) X I hf
  have sub : Looks (model prog w) hp (isInstance (.ref x) (.type "BaseException")) true := L0.andThen (looks_subIn X T.hs)
  have hx0 : (false && onTheHeap (Value.builtin "BaseException.__getattribute__")) = false := rfl
  have hx2 : (Value.builtin "BaseException.__getattribute__" == Value.builtin "object.__getattribute__") = false := by decide +kernel
  have hx1 : (onTheHeap (Value.ref C) && Value.builtin "BaseException.__getattribute__" == Value.builtin "object.__getattribute__") = false := by rw [hx2]; rfl
  unfold getAttr? getAttrBy? getAttrBy
  refine wpAny_bind (wpAny_mkText (wpAny_bind (wpAny_attempt (wpAny_holding (wpAny_bind (L0.at (wpAny_bind (L1.at ?_))))))))
  show wpAny _ _ (if (onTheHeap (Value.ref C) && Value.builtin "BaseException.__getattribute__" == Value.builtin "object.__getattribute__") = true then _ else _) _ _ _
  rw [hx1, if_neg Bool.false_ne_true]
  unfold getAttrByItsOwn hookBefore
  refine wpAny_bind ?_
  rw [if_pos (show onTheHeap (Value.ref C) = true from rfl)]
  refine L2.at ?_
  refine wpAny_bind (wpAny_attempt (wpAny_holding ?_))
  unfold callGetattribute
  rw [hx0, if_neg Bool.false_ne_true]
  unfold boundAndCalled
  rw [PySem.F.excAttr_ValueError.ga.bind (.ref x)]
  refine wpAny_bind (wpAny_pure ?_)
  show wpAny _ _ (call (.builtin "BaseException.__getattribute__") [.ref x, .str "__class__" t]) _ _ _
  refine wpAny_call (codeAny_call_builtin PySem.F.excAttr_ValueError.ga.plain PySem.F.entry_bexc_ga ?_)
  refine @check_slot (model prog w) _ _ ⟨hp, g, d, t + 1, os⟩ "BaseException.__getattribute__" "BaseException" "__getattribute__" (.ref x) [.str "__class__" t] [] _ (by decide +kernel) (by decide +kernel) sub (PySem.F.args_bexc_ga (.ref x) (.str "__class__" t)) ?_
  unfold Builtin.«object.__getattribute__»
  refine wpAny_bind (wpAny_of_eq (a := ((Value.ref x : Value), [Value.str "__class__" t])) (by first | rfl | (simp only [slotArgs]; rfl)) ?_)
  refine wpAny_bind (wpAny_pure (wpAny_bind (L0.at (wpAny_bind (L3.at ?_)))))
  show wpAny _ _ (holding [Value.builtin "object.__class__"] (call (.builtin "getset_descriptor.__get__") [.builtin "object.__class__", .ref x, .ref C]) >>= ret) _ _ _
  refine wpAny_bind (wpAny_holding (wpAny_call (class_get (s := ⟨hp, g, d, t + 1, os⟩) (ox := ox) (od := od) X I T.hm ?_)))
  refine wpAny_pure ?_
  show wpAny _ _ (handedOut (.ref C)) _ _ _
  rw [handedOut_of (v := .ref C) rfl]
  first
    | exact wpAny_pure (wpAny_pure h)
    | exact wpAny_pure h
    | exact wpAny_pure (wpAny_bind (wpAny_pure (wpAny_pure h)))
theorem err_kit (T : ExcC K C) : KitX K (.ref x) (.ref C) (fun h => InstAt h x ox C od) where
  ty := fun _ _ _ I => I.type
  it := fun _ _ X _ => by
    obtain ⟨cdD, hcD, _⟩ := any_some T.hd
    unfold clsIn at hcD
    split at hcD
    · rename_i c' d' cd' sl' ho
      intro A' Q' E' s' k q
      unfold isType loadHead
      exact wpAny_bind (wpAny_loadPart (k _ _ (X _ _ ho)) (wpAny_pure q))
    · cases hcD
  ne := (handS_kitx_exc (x := x) (ox := ox) T.hg T.hk T.hs T.hd T.ha T.hn T.ht T.hm).ne
  ca := fun X I k => err_class T X I k
end
section
variable {X : Cx} {xw : DX} {N : List Str} {k : Nat} {ds : DEnv} {ms : MS} {E : DEnds} {kd : DK}
/-- an except suite that holds an error of the class at C -/
structure Suite (X : Cx) (a dx C : Addr) : Prop where
  ex : ∃ (X0 : Cx) (oe : Obj) (pn : List (Addr × Obj)), X = X0.suite a ((a, oe) :: pn) ∧ Zc (.ref C) (some dx) oe ∧ ∃ vs, oe.data = .fields vs
theorem de_errVal {a dx C : Addr} (U : Suite X a dx C) (T : XfC X.K C) (hno : findIn X.K (.ref C) "value" = some none) {e : Expr} {pos : Pos} (h : DE X xw e ds ms fun d ms1 => ∃ v, d = .err a dx v ∧ kd v ms1)
    (hb : attributeBase e "value" X.env (eval e X.env) = eval e X.env) : DE X xw (.Attribute e "value" pos) ds ms kd := by
  obtain ⟨X0, oe, pn, rfl, hz, hf⟩ := U.ex
  refine .of (pe_xf (te := wE _ e) T hno hz hf pe_w hb) fun F σ H Q W A V => h F σ H _ W A fun F1 x d ms1 H1 e1 r1 S1 ⟨v, ed, q⟩ => ?_
  subst ed
  obtain ⟨rfl, u, hu, ru⟩ := r1
  exact ⟨rfl, rfl, dx, _, u, rfl, S1.ex _ _ hu, rfl, V F1 u v ms1 H1 e1 ru S1 q⟩
/-- isinstance(e, c) of the error that the suite holds -/
theorem cad_isErr {a dx C B : Addr} {v : D} {b : Bool} (U : Suite X a dx C) (T : ExcC X.K C) (hk : kitOne X.K (.ref C) (.ref B) = some b) (q : kd (.bl b) ms) : CaD X (.builtin "isinstance") [.err a dx v, .adr B] ms kd := by
  intro F vs H Q r S V pins s σ us I rv
  obtain ⟨X0, oe, pn, rfl, hz, hf⟩ := U.ex
  obtain ⟨x, y, rfl, rx, ry⟩ := r.inv2
  obtain ⟨rfl, u, hu, ru⟩ := rx
  cases ry
  cases rv with
  | cons g1 rr =>
    cases rr with
    | cons g2 rr =>
      cases rr
      cases g1
      cases g2
      obtain ⟨hget, _⟩ := I.pin (a, oe) (List.mem_append.mpr (.inl List.mem_cons_self))
      obtain ⟨fv, hv⟩ := hf
      obtain ⟨mA, hns, hr⟩ := (show ObjOk _ _ H s.heap dx (.xd [("value", u)]) from I.hok dx _ (S.ex _ _ hu))
      obtain ⟨od, ho, hl⟩ := lookIn_ns hns
      have J : InstAt s.heap a oe C (some od) := ⟨hget, hz.1, by unfold notCls; rw [hv] <;> rfl, by rw [hz.2]; exact ho⟩
      exact kia_one (err_kit T) I.kIn J hk (fun z => nomatch z) fun tk => ⟨.bl b, H, I.kept (t' := tk) fun _ _ z => z, rfl, V.val (d := .bl b) S rfl q⟩
theorem EC.set {K : Frag} {F : Hp} {Dd : Ends} {i : Nat} (V : EC K F E Dd) : EC K F { nx := fun ds' ms' => E.nx (ds'.set i none) ms', rt := E.rt, bk := fun ds' ms' => E.bk (ds'.set i none) ms', ct := fun ds' ms' => E.ct (ds'.set i none) ms' }
    { nx := fun σ' H' => Dd.nx (σ'.set i none) H', rt := Dd.rt, bk := fun σ' H' => Dd.bk (σ'.set i none) H', ct := fun σ' H' => Dd.ct (σ'.set i none) H' } :=
  ⟨fun F1 ds1 σ1 ms1 H1 e1 sr1 S1 k1 => V.nx F1 _ _ ms1 H1 e1 (sr1.setN i none) S1 k1, V.rt, fun F1 ds1 σ1 ms1 H1 e1 sr1 S1 k1 => V.bk F1 _ _ ms1 H1 e1 (sr1.setN i none) S1 k1, fun F1 ds1 σ1 ms1 H1 e1 sr1 S1 k1 => V.ct F1 _ _ ms1 H1 e1 (sr1.setN i none) S1 k1⟩
/-- try: body, except x as n: suite -/
theorem ds_tryAs (Cc : Ctx X N k) {x n : Str} {c : Addr} {i : Nat} {body suite : List Stmt} {b₀ : Stmt} {np pos pos' : Pos} (hs : X.stack = X.env :: X.outer) (hf : X.env.frame = some X.env.locals) (hi : Ix N n i) (hln : X.env.kindOf n = some .local) (hc : Names X x (.ref c))
    (h : ∀ (pn0 : List (Addr × Obj)) (xe0 : Value → Shared → Prop), Ctx (X.tr pn0 xe0) N k → PassesOwn (model X.prog X.w) X.A X.env xe0 →
      DSs (X.tr pn0 xe0) (fun C dv ds1 ms1 => ∃ b, exmOne X.K (.ref C) (.ref c) = some b ∧ (b = true → ∀ (a dx : Addr) (oe : Obj) (pn : List (Addr × Obj)), Suite (X.suite a ((a, oe) :: pn)) a dx C →
        DSs (X.suite a ((a, oe) :: pn)) xNo (b₀ :: suite) (ds1.set i (some (.err a dx dv))) ms1 { nx := fun ds' ms' => E.nx (ds'.set i none) ms', rt := E.rt, bk := fun ds' ms' => E.bk (ds'.set i none) ms', ct := fun ds' ms' => E.ct (ds'.set i none) ms' }) ∧
        (b = false → xw C dv ds1 ms1)) body ds ms E) :
    DS X xw (.Try body [.ExceptHandler (some (.Name x np)) (some n) (b₀ :: suite) pos'] [] [] pos) ds ms E := by
  intro F σ H Dd W A V pins s I
  refine (ps_try_as (Wout := W) (tb := fun W' => fun D' σ' H' => ∀ (pn : List (Addr × Obj)) (xe : Value → Shared → Prop), Takes (X.tr pn xe) W' → PassesOwn (model X.prog X.w) X.A X.env xe → wSs (X.tr pn xe) body D' σ' H')
    (ts := fun a cls d => fun D' σ' H' => ∀ (oe : Obj) (pn : List (Addr × Obj)), Zc cls d oe → (∃ vs, oe.data = .fields vs) → wSs (X.suite a ((a, oe) :: pn)) (b₀ :: suite) D' σ' H')
    hs hf Cc.ndX (Cc.ix hi) hln hc A.tk (fun W' pn xe tk po => ⟨fun pins s σ H D I h => h pn xe tk po pins s I⟩) (fun a oe cls d pn hz hf => ⟨fun pins s σ H D I h => h oe pn hz hf pins s I⟩)).run pins s σ H Dd I ?_
  intro pn xe tk po
  refine h pn xe ⟨Cc.names, Cc.nd, Cc.calm, Cc.room⟩ po F σ H Dd _ ⟨A.sr, A.sep, tk, ?_⟩ V
  intro F' C dx dv v ds' σ' ms' H' e sr rv S hd ⟨b, hb, h1, h0⟩
  refine ⟨b, hb, fun ht a ha => ?_, fun hf => A.xc F' C dx dv v ds' σ' ms' H' e sr rv S hd (h0 hf)⟩
  intro oe pn2 hz hfv
  exact h1 ht a dx oe pn2 ⟨X, oe, pn2, rfl, hz, hfv⟩ F' _ H' _ (fun _ _ _ _ => False) ⟨sr.set i (d := .err a dx dv) ⟨rfl, v, hd, rv⟩, S, takes0, xcNo⟩ (V.mono e).set
/-- names in a suite -/
theorem de_nameS (hN : X.N = N) {x : Str} {i : Nat} {d : D} {pos : Pos} (h : Nm N ds x i d) (hv : Vis X.env.scope x) (hd : (x == ("__debug__" : Str)) = false) (hcd : (x == ("__classdict__" : Str)) = false) (q : kd d ms) : DE X xw (.Name x pos) ds ms kd :=
  .of (pe_var (i := i) (by rw [hN]; exact h.at.1) hv hd hcd) fun F σ H Q W A V => by
    obtain ⟨v, h1, h2⟩ := A.sr.at_ i d h.at.2
    exact ⟨v, h1, V.val A.sep h2 q⟩
end
end DL

/-! DL7: star items, keywords, a def that shows data (guards told), repr. -/
namespace DL
open PySem PySem.Spec PyProof.Rows L2
section
variable {X : Cx} {xw : DX} {N : List Str} {k : Nat} {ds : DEnv} {ms : MS} {kd : DK} {e : Expr} {es : List Expr} {pos p sp_ : Pos}
/-- d holds the items xs: a tuple, or a list -/
def SqOf (ms : MS) (d : D) (xs : List D) : Prop := d = .tup xs ∨ LsOf ms d xs
theorem SqOf.at {K : PySem.W.Frag} {F H : Hp} {d : D} {xs : List D} {v : V} (h : SqOf ms d xs) (r : Rep K F d v) (S : Sep K F ms H) : ∃ p vs, v = .ref p ∧ (SqT K H p vs ∨ SqL K H p vs) ∧ RepL K F xs vs := by
  rcases h with rfl | h
  · obtain ⟨p, vs, rfl, h1, h2⟩ := r
    exact ⟨p, vs, rfl, .inl (S.sqT h1), h2⟩
  · obtain ⟨p, vs, rfl, h1, h2⟩ := h.at r S
    exact ⟨p, vs, rfl, .inr (SqL.of h1), h2⟩
theorem da_star {kd : List D → MS → Prop} (h : DE X xw e ds ms fun x ms1 => ∃ xs, SqOf ms1 x xs ∧ DA X xw es ds ms1 fun ys ms2 => kd (xs ++ ys) ms2) (hs : starEach (.Starred e p :: es) X.env = (true, eval e X.env) :: starEach es X.env) : DA X xw (.Starred e p :: es) ds ms kd :=
  fun F σ H Q W A V pos pins s I => (StX.pa_star pe_w pa_w hs).run pos pins s σ H Q I (h F σ H _ W A fun F1 x d ms1 H1 e1 r1 S1 ⟨xs, hx, k1⟩ => by
    obtain ⟨q, vs, rfl, h1, h2⟩ := hx.at r1 S1
    exact ⟨q, vs, rfl, h1, k1 F1 σ H1 _ W (A.mv e1 S1) fun F2 ys d2 ms2 H2 e2 r2 S2 k2 => V F2 (vs ++ ys) (xs ++ d2) ms2 H2 (e1.trans e2) ((h2.mono e2).append r2) S2 k2⟩)

/-! ### keywords -/
def wK (X : Cx) (kws : List Keyword) : TA := fun σ H Q => ∀ (pos : Pos) pins s, Inv X pins σ H s → wpAny (model X.prog X.w) X.A (evalAll ((backToKw pos (keywordEach kws X.env)).map (·.2))) (AP X pins σ Q) X.xe s
theorem pk_w {kws : List Keyword} : PK X kws (wK X kws) := ⟨fun pos pins s σ H Q I h => h pos pins s I⟩
def DKw (X : Cx) (xw : DX) (kws : List Keyword) (ds : DEnv) (ms : MS) (kd : List D → MS → Prop) : Prop := ∀ F σ H Q W, At X xw F ds σ ms H W → VCs X.K F kd Q → wK X kws σ H Q
theorem dk_nil {kd : List D → MS → Prop} (q : kd [] ms) : DKw X xw [] ds ms kd := fun F σ H Q W A V pos pins s I => pk_nil.run pos pins s σ H Q I (V F [] [] ms H (Le.refl F) rfl A.sep q)
theorem dk_cons {kd : List D → MS → Prop} {nm : Option Str} {kpos : Pos} {kws : List Keyword} (h : DE X xw e ds ms fun x ms1 => DKw X xw kws ds ms1 fun xs ms2 => kd (x :: xs) ms2) : DKw X xw (⟨nm, e, kpos⟩ :: kws) ds ms kd :=
  fun F σ H Q W A V pos pins s I => (pk_cons pe_w pk_w).run pos pins s σ H Q I (h F σ H _ W A fun F1 x d ms1 H1 e1 r1 S1 k1 => k1 F1 σ H1 _ W (A.mv e1 S1) fun F2 xs d2 ms2 H2 e2 r2 S2 k2 =>
    V F2 (x :: xs) (d :: d2) ms2 H2 (e1.trans e2) ⟨x, xs, rfl, r1.mono e2, r2⟩ S2 k2)
/-- the last parameters by keywords, in order -/
def KwB (K : PySem.W.Frag) (fd : FuncData) (ps ks : List Str) : Prop := ∀ (s : Shared) (us ws : List Value), K.In s.heap → ws.length = ks.length → us.length + ws.length = ps.length → BindsTo s fd ⟨us, ks.zip ws⟩ (ps.zip (us ++ ws))
theorem run_kw {pins : List (Addr × Obj)} {σ : L2.St} {H : Hp} {s : Shared} {Q : VK} {us ws : List Value} {vs zs : List V} {CX : CXT} {f : Addr} {fd : FuncData} {ps ks : List Str} {sp : Sp} {E : L2.St → XK} (F : FnOk X.prog X.w X.K X.mg X.base CX k f fd ps sp) (hr : Room k X.A) (hb : KwB X.K fd ps ks) (hx : PassesAt CX X σ (E σ))
    (I : Inv X pins σ H s) (r : Vals vs us) (rz : Vals zs ws) (hl : ws.length = ks.length) (h : sp (vs ++ zs) H Q (E σ)) : wpAny (model X.prog X.w) X.A (call (.ref f) us (ks.zip ws)) (EP X pins σ Q) X.xe s := by
  have r2 := r.append rz
  have l2 : us.length + ws.length = ps.length := by
    have := F.len _ _ _ _ h
    rw [List.length_append, r.length, rz.length] at this
    exact this
  refine wpAny_call (codeAny_mono (F.run X.A X.stack s H ⟨us, ks.zip ws⟩ (us ++ ws) (vs ++ zs) Q (E σ) hr I.env0 (hb s us ws I.kIn hl l2) r2 h) fun r s' hq => ?_)
  cases r with
  | error e => exact hx pins H s e s' I hq
  | ok fl =>
    cases fl with
    | ret u => exact I.after hq
    | next => exact False.elim hq
    | brk => exact False.elim hq
    | cont => exact False.elim hq
/-- f(k = v, ..) -/
theorem de_callKw0 (C : Ctx X N k) {x : Str} {f : Addr} {fd : FuncData} {ps ks : List Str} {S : DSp} {j : Nat} {kws : List Keyword} (G : DefAt X.prog X.w X.K X.mg X.base j x f fd ps S) (hb : KwB X.K fd ps ks) (hj : j ≤ k) (h : DKw X xw kws ds ms fun vs ms1 => vs.length = ks.length ∧ ∃ ms2, MLe X.K ms1 ms2 ∧ S vs ms2 kd fun Cx d ms2 => xw Cx d ds ms2) (hg : Gl X x)
    (hdb : (x == ("__debug__" : Str)) = false) (hall : (backToKw pos (keywordEach kws X.env)).all (·.1.isSome) = true) (hks : (backToKw pos (keywordEach kws X.env)).filterMap (·.1) = ks)
    (hpl : ((backTo pos (starEach [] X.env)).any (·.1) || (backToKw pos (keywordEach kws X.env)).any (·.1.isNone)) = false) : DE X xw (.Call (.Name x p) [] kws pos) ds ms kd := fun F σ H Q W A V pins s I => by
  refine wpAny_Call_Name_kw (ld_glob I hg G.gl ?_ hdb)
  refine PySem.W.callWith_KW0 (h₀ := X.base) I.ok.mod.kin G.kp hall (thn (h F σ H (fun zs H1 => zs.length = ks.length ∧ toSp X.K S zs H1 Q (WE W σ)) W A (fun F1 zs xs ms1 H1 e1 r1 S1 ⟨hl, ms2, l, k1⟩ => ⟨by rw [r1.length]; exact hl, to_sp (A.mv e1 (l _ _ S1)) rfl r1 (V.mono e1) k1⟩) pos pins s I) fun ws s2 ⟨zs, H2, I2, rz, hl, q⟩ => ⟨I2.kIn, ?_⟩) hpl
  rw [hks]
  exact run_kw (us := []) (vs := []) (E := WE W) G.fn (C.room.mono hj) hb (passAt A.tk σ) I2 .nil rz (by rw [← rz.length]; exact hl) q
/-- f(e, .., k = v, ..) -/
theorem de_callKw (C : Ctx X N k) {x : Str} {f : Addr} {fd : FuncData} {ps ks : List Str} {S : DSp} {j : Nat} {kws : List Keyword} (G : DefAt X.prog X.w X.K X.mg X.base j x f fd ps S) (hb : KwB X.K fd ps ks) (hj : j ≤ k) (h : DA X xw (e :: es) ds ms fun us ms0 => DKw X xw kws ds ms0 fun vs ms1 => vs.length = ks.length ∧ ∃ ms2, MLe X.K ms1 ms2 ∧ S (us ++ vs) ms2 kd fun Cx d ms2 => xw Cx d ds ms2) (hg : Gl X x)
    (hdb : (x == ("__debug__" : Str)) = false) (hall : (backToKw pos (keywordEach kws X.env)).all (·.1.isSome) = true) (hks : (backToKw pos (keywordEach kws X.env)).filterMap (·.1) = ks)
    (hpl : ((backTo pos (starEach (e :: es) X.env)).any (·.1) || (backToKw pos (keywordEach kws X.env)).any (·.1.isNone)) = false) (he : starEach (e :: es) X.env = (false, eval e X.env) :: starEach es X.env) : DE X xw (.Call (.Name x p) (e :: es) kws pos) ds ms kd := fun F σ H Q W A V pins s I => by
  refine wpAny_Call_Name_kw (ld_glob I hg G.gl ?_ hdb)
  refine PySem.W.callWith_KW (h₀ := X.base) I.ok.mod.kin G.kp hall (thn (h F σ H (fun vs H1 => wK X kws σ H1 fun zs H2 => zs.length = ks.length ∧ toSp X.K S (vs ++ zs) H2 Q (WE W σ)) W A (fun F1 vs xs ms1 H1 e1 r1 S1 k1 => ?_) pos pins s I) fun us s1 ⟨vs, H1, I1, r, q⟩ => ?_) hpl he
  · exact k1 F1 σ H1 _ W (A.mv e1 S1) fun F2 zs ys ms2 H2 e2 r2 S2 ⟨hl, ms3, l, k2⟩ => ⟨by rw [r2.length]; exact hl, to_sp ((A.mv e1 S1).mv e2 (l _ _ S2)) rfl ((r1.mono e2).append r2) ((V.mono e1).mono e2) k2⟩
  · refine thn (q pos pins s1 I1) fun ws s2 ⟨zs, H2, I2, rz, hl, q2⟩ => ⟨I2.kIn, ?_⟩
    rw [hks]
    exact run_kw (E := WE W) G.fn (C.room.mono hj) hb (passAt A.tk σ) I2 r rz (by rw [← rz.length]; exact hl) q2
end
end DL

/-! DL8: defs of which it is told that nothing is being shown around them; repr. -/
namespace DL
open PySem PySem.Spec PyProof.Rows L2
/-- as FnOk, where no repr runs around -/
structure FnOkG (P : Program) (w : World) (K : PySem.W.Frag) (mg : Str → Option Value) (base : Heap) (CX : CXT) (k : Nat) (f : Addr) (fd : FuncData) (ps : List Str) (sp : Sp) : Prop where
  len : ∀ vs H Q E, sp vs H Q E → vs.length = ps.length
  run : ∀ (A : Around) (outer : List Env) (s : Shared) (H : Hp) (args : Args) (us : List Value) (vs : List V) (Q : VK) (E : XK), Room k A → A.guards = some [] → Env0 P w K mg base A outer s H → BindsTo s fd args (ps.zip us) → Vals vs us → sp vs H Q E →
    codeAny (model P w) A (.call (.ref f) args) (CR CX outer P w H s Q E) s
structure DefAtG (P : Program) (w : World) (K : PySem.W.Frag) (mg : Str → Option Value) (base : Heap) (k : Nat) (x : Str) (f : Addr) (fd : FuncData) (ps : List Str) (S : DSp) : Prop where
  fn : FnOkG P w K mg base (L2.CX P w) k f fd ps (toSp K S)
  gl : mg x = some (.ref f)
  kp : PySem.W.keepIn K (.ref f) = true
  bn : Binds K fd ps []
section
variable {X : Cx} {xw : DX} {N : List Str} {k : Nat} {ds : DEnv} {ms : MS} {kd : DK} {e : Expr} {es : List Expr} {pos p : Pos}
theorem run_fnG {pins : List (Addr × Obj)} {σ : L2.St} {H : Hp} {s : Shared} {Q : VK} {us : List Value} {vs : List V} {CX : CXT} {f : Addr} {fd : FuncData} {ps : List Str} {sp : Sp} {E : L2.St → XK} (F : FnOkG X.prog X.w X.K X.mg X.base CX k f fd ps sp) (hr : Room k X.A) (gd : X.A.guards = some []) (hb : Binds X.K fd ps []) (hx : PassesAt CX X σ (E σ))
    (I : Inv X pins σ H s) (r : Vals vs us) (h : sp vs H Q (E σ)) : wpAny (model X.prog X.w) X.A (call (.ref f) us) (EP X pins σ Q) X.xe s := by
  have hl : us.length = ps.length := by rw [← r.length]; exact F.len _ _ _ _ h
  have b := hb s us I.kIn (by rw [List.append_nil]; exact hl)
  rw [List.append_nil] at b
  refine wpAny_call (codeAny_mono (F.run X.A X.stack s H ⟨us, []⟩ us vs Q (E σ) hr gd I.env0 b r h) fun r s' hq => ?_)
  cases r with
  | error e => exact hx pins H s e s' I hq
  | ok fl =>
    cases fl with
    | ret u => exact I.after hq
    | next => exact False.elim hq
    | brk => exact False.elim hq
    | cont => exact False.elim hq
theorem de_callG (C : Ctx X N k) (gd : X.A.guards = some []) {x : Str} {f : Addr} {fd : FuncData} {ps : List Str} {S : DSp} {j : Nat} (G : DefAtG X.prog X.w X.K X.mg X.base j x f fd ps S) (hj : j ≤ k) (h : DA X xw (e :: es) ds ms fun vs ms1 => ∃ ms2, MLe X.K ms1 ms2 ∧ S vs ms2 kd fun Cx d ms2 => xw Cx d ds ms2) (hg : Gl X x)
    (hdb : (x == ("__debug__" : Str)) = false) (he : starEach (e :: es) X.env = (false, eval e X.env) :: starEach es X.env) (hpl : (backTo pos (starEach es X.env)).any (·.1) = false) : DE X xw (.Call (.Name x p) (e :: es) [] pos) ds ms kd := fun F σ H Q W A V pins s I => by
  refine wpAny_Call_Name_kw (ld_glob I hg G.gl ?_ hdb)
  refine PySem.W.callWith_K (h₀ := X.base) I.ok.mod.kin G.kp (thn (h F σ H (fun vs H1 => toSp X.K S vs H1 Q (WE W σ)) W A (fun F1 vs xs ms1 H1 e1 r1 S1 ⟨ms2, l, k1⟩ => to_sp (A.mv e1 (l _ _ S1)) rfl r1 (V.mono e1) k1) pos pins s I) fun us s1 ⟨vs, H1, I1, r, q⟩ => ⟨I1.kIn, ?_⟩) he hpl
  exact run_fnG (E := WE W) G.fn (C.room.mono hj) gd G.bn (passAt A.tk σ) I1 r q
end
theorem fn_ofG {CX : CXT} {P : Program} {w : World} {K : PySem.W.Frag} {mg : Str → Option Value} {base : Heap} {k : Nat} {f : Addr} {name qual : Str} {params : Arguments} {body : List Stmt} {scope : Scope} {dV kV doc pm cdv ct oc : Value} {an od : Option Addr}
    {osl : Array (Option Value)} {N ps : List Str} {sp : Sp} (lk : K.lookup f = some ⟨oc, od, .func (PySem.W.fnOf name qual params body scope dV kV doc pm an cdv ct), osl⟩) (hcd : PySem.W.codeIn K cdv qual = true) (S : FnScope N ps scope)
    (len : ∀ vs H Q E, sp vs H Q E → vs.length = ps.length)
    (hbody : ∀ (A : Around) (outer : List Env) (s : Shared) (H : Hp) (vs : List V) (Q : VK) (E : XK), Room k (A.deeper (envOfC qual scope s.heap.objs.size f cdv)) → A.guards = some [] → sp vs H Q E →
      PSs (cxOf CX P w K mg base N qual scope f cdv A outer s H E) body (wSs (cxOf CX P w K mg base N qual scope f cdv A outer s H E) body) → wSs (cxOf CX P w K mg base N qual scope f cdv A outer s H E) body { nx := fun _ H' => Q .non H', rt := Q } (start N vs) H) :
    FnOkG P w K mg base CX (k + 1) f (PySem.W.fnOf name qual params body scope dV kV doc pm an cdv ct) ps sp := by
  refine ⟨len, fun A outer s H args us vs Q E hr hg e0 hb r hsp => ?_⟩
  have hl := len _ _ _ _ hsp
  have sub : ∀ b o, base.get? b = some o → s.heap.get? b = some o := fun b o e => (e0.bs b o e).1
  have KX : K.In s.heap := e0.mod.kin.keeps sub
  have lim : s.heap.NoLimit := e0.mod.nolimit.keeps sub
  have kinds : ∀ y ∈ ps.zip us, scope.names.lookup y.1 = some .local ∨ (scope.names.lookup y.1 = some .cell ∧ ((cellsFrom (s.heap.objs.size + 1) scope.names []).lookup y.1).isSome = true) := by
    rintro ⟨n, v⟩ hy
    exact (S.par n (List.of_mem_zip hy).1).imp id fun q => ⟨q, PySem.W.cellsFrom_some _ _ _ (.inl q)⟩
  refine codeAny_call_function hr.depth (KX _ _ lk) rfl S.co S.gen rfl (PySem.W.codeRec_of KX hcd) (hb _ _ _ _ (wpAny_newFunctionEnv_cells S.kind kinds fun env he s1 x => ?_))
  subst he
  refine ⟨lim.keeps x.toInCall.keep, codeAny_func ?_⟩
  have I : Inv (cxOf CX P w K mg base N qual scope f cdv A outer s H E) [] (start N vs) H s1 := inv_start S hr.hd e0 hl r x
  refine wpAny_mono (hbody A outer s H vs Q E (hr.deeper _) hg hsp pss_w [] s1 I) (fun fl s' hs => ?_) fun e s' hs => hs
  have fin : ∀ {σ' : L2.St} {H' : Hp} {v : V} {u : Value}, Inv (cxOf CX P w K mg base N qual scope f cdv A outer s H E) [] σ' H' s' → RelV v u → Q v H' → CE outer P w H s Q u s' :=
    fun {σ' H' v u} J rv q => ⟨v, H', J.os, J.bare, J.base, J.hok, rv, q⟩
  match fl, hs with
  | .ret u, ⟨v, σ', H', J, rv, q⟩ => exact fin J rv q
  | .next, ⟨σ', H', J, q⟩ => exact fin (v := V.non) (u := Value.none) J rfl q
  | .brk, ⟨_, _, _, q⟩ => exact False.elim q
  | .cont, ⟨_, _, _, q⟩ => exact False.elim q
theorem def_okG {P : Program} {w : World} {K : PySem.W.Frag} {mg : Str → Option Value} {base : Heap} {x qual : Str} {st : Stmt} {f : Addr} {fd : FuncData} {N ps : List Str} {k : Nat} {S : DSp} (F : Fun K x qual st f fd) (Sc : FnScope N ps (defScope st)) (gl : mg x = some (.ref f)) (bn : Binds K fd ps [])
    (len : ∀ vs ms kd xk, S vs ms kd xk → vs.length = ps.length)
    (body : ∀ (cdv : Value) (A : Around) (outer : List Env) (s : Shared) (H : Hp) (E : XK), Ctx (cxOf (L2.CX P w) P w K mg base N qual (defScope st) f cdv A outer s H E) N k → (cxOf (L2.CX P w) P w K mg base N qual (defScope st) f cdv A outer s H E).A.guards = some [] →
      PassesOwn (model P w) (cxOf (L2.CX P w) P w K mg base N qual (defScope st) f cdv A outer s H E).A (cxOf (L2.CX P w) P w K mg base N qual (defScope st) f cdv A outer s H E).env (cxOf (L2.CX P w) P w K mg base N qual (defScope st) f cdv A outer s H E).xe →
      ∀ vs ms kd xk, S vs ms kd xk → DSs (cxOf (L2.CX P w) P w K mg base N qual (defScope st) f cdv A outer s H E) (fun Cx d _ ms2 => ∃ ms3, MLe K ms2 ms3 ∧ xk Cx d ms3) (defBody st) (startD N vs) ms { nx := fun _ ms2 => ∃ ms3, MLe K ms2 ms3 ∧ kd .non ms3, rt := fun d ms2 => ∃ ms3, MLe K ms2 ms3 ∧ kd d ms3 }) :
    DefAtG P w K mg base (k + 1) x f fd ps S := by
  obtain ⟨oc, od, kV, doc, pm, an, cdv, ct, osl, rfl, lk, hcd⟩ := F.ex
  refine ⟨fn_ofG lk hcd Sc (fun vs H Q E ⟨F', ds, ms, kd, xk, r, s, q, v, xx⟩ => by rw [r.length]; exact len _ _ _ _ q) fun A outer s H vs Q E hr hg ⟨F', ds, ms, kd, xk, r, sp, q, v, xx⟩ _ => ?_, gl, F.kp, bn⟩
  refine body cdv A outer s H E ⟨rfl, Sc.nd, rfl, hr⟩ hg (passes_of (X := cxOf (L2.CX P w) P w K mg base N qual (defScope st) f cdv A outer s H E) rfl) ds ms kd xk q F' (L2.start N vs) H _ (fun cls d _ H => E cls d H)
    ⟨sr_start N r, sp, takes_of (X := cxOf (L2.CX P w) P w K mg base N qual (defScope st) f cdv A outer s H E) rfl rfl rfl rfl, fun F2 Cx dx dv v2 ds' σ' ms' H' e sr rv S2 hd ⟨ms3, l, q2⟩ => xx F2 Cx dx dv v2 ms3 H' e rv (l _ _ S2) hd q2⟩
    ⟨fun F2 ds' σ' ms' H' e sr S2 ⟨ms3, l, q2⟩ => v F2 .non .non ms3 H' e rfl (l _ _ S2) q2, fun F2 v2 d2 ms' H' e r2 S2 ⟨ms3, l, q2⟩ => v F2 v2 d2 ms3 H' e r2 (l _ _ S2) q2, fun _ _ _ _ _ _ _ _ z => z.elim, fun _ _ _ _ _ _ _ _ z => z.elim⟩

/-! ### repr of plain data -/
section
variable {X : Cx} {N : List Str} {k : Nat} {ms : MS} {kd : DK}
theorem cad_repr (C : Ctx X N k) (gd : X.A.guards = some []) {d : D} {xs : List D} (h : LsOf ms d xs) (hp : plainL xs = true) (hs : (pd (.lst xs)).showable = true) (hd : (pd (.lst xs)).hasDict = false) (hn : (pd (.lst xs)).depth ≤ 60) (hl : (pd (.lst xs)).shown.length ≤ sizeLine) (q : kd (.str (pd (.lst xs)).shown) ms) : CaD X (.builtin "repr") [d] ms kd := by
  intro F vs H Q r S V pins s σ us I rv
  obtain ⟨v, rfl, r1⟩ := r.inv1
  obtain ⟨p, ws, rfl, h1, h2⟩ := h.at r1 S
  have dp : Dp X.K H (.ref p) (pd (.lst xs)) := .lst (SqL.of h1) (dp_ofL S hp h2)
  cases rv with
  | cons ru rr =>
    cases rr
    rename_i u
    obtain rfl : u = Value.ref p := ru
    obtain ⟨as, rd⟩ := Dp.reads I _ _ _ dp rfl
    have hu := C.room.un
    exact repr_of_reads' rd hs (PyData.noDict_hsm hd) gd (by omega) (fun _ _ e => e) (fun h' t tk hk => ⟨.str _, H, I.kept (t' := tk) hk, ⟨t, rfl⟩, V.val (d := .str _) S rfl q⟩) hl
end
/-! what nested rows show -/
theorem str_app_len (x y : Str) : (x ++ y).length = x.length + y.length := by
  show (x.cps ++ y.cps).size = _
  rw [Array.size_append]; rfl
theorem textFrom_le : ∀ (ts : List Str) (k : Nat) (acc : Str), (textFrom k acc ts).length ≤ acc.length + (ts.map (·.length)).sum + 2 * ts.length
  | [], k, acc => by show acc.length ≤ _; simp
  | t :: r, k, acc => by
    have h := textFrom_le r (k + 1) (acc ++ (if k > 0 then ", " else "" : String) ++ t)
    have e : textFrom k acc (t :: r) = textFrom (k + 1) (acc ++ (if k > 0 then ", " else "" : String) ++ t) r := rfl
    rw [e]
    rw [str_app_len, str_app_len] at h
    have h2 : (Str.ofString (if k > 0 then ", " else "" : String)).length ≤ 2 := by split <;> decide +kernel
    rw [List.map_cons, List.sum_cons, List.length_cons]
    omega
theorem listText_le (ts : List Str) : (listText ts).length ≤ (ts.map (·.length)).sum + 2 * ts.length + 2 := by
  have h := textFrom_le ts 0 "["
  have e : listText ts = textFrom 0 "[" ts ++ "]" := rfl
  rw [e, str_app_len]
  have h1 : ("[" : Str).length = 1 := by decide +kernel
  have h2 : ("]" : Str).length = 1 := by decide +kernel
  omega
theorem tupleText_le (ts : List Str) : (tupleText ts).length ≤ (ts.map (·.length)).sum + 2 * ts.length + 3 := by
  have h := StrLaws.join_length_le ", " ts
  have e : tupleText ts = ("(" : Str) ++ Str.join ", " ts ++ (if ts.length == 1 then ",)" else ")" : String) := rfl
  rw [e, str_app_len, str_app_len]
  have h1 : ("(" : Str).length = 1 := by decide +kernel
  have h2 : (Str.ofString (if ts.length == 1 then ",)" else ")" : String)).length ≤ 2 := by split <;> decide +kernel
  have h3 : (", " : Str).length = 2 := by decide +kernel
  rw [h3] at h
  omega
/-- at most n deep, and what it shows is at most m long -/
structure Shw (d : D) (n m : Nat) : Prop where
  pl : plain d = true
  sh : (pd d).showable = true
  hd : (pd d).hasDict = false
  dp : (pd d).depth ≤ n
  ln : (pd d).shown.length ≤ m
theorem Shw.int {i : Int} {k : Nat} (hk : 0 < k) (h : i.natAbs < 10 ^ k) (h2 : 10 ^ k ≤ 2 ^ 1920) : Shw (.int i) 0 (k + 1) := by
  refine ⟨rfl, ?_, rfl, Nat.le_refl _, ?_⟩
  · show decide (i.natAbs.log2 < 1920) = true
    refine decide_eq_true ?_
    by_cases h0 : i.natAbs = 0
    · rw [h0]; decide
    · exact (Nat.log2_lt h0).mpr (Nat.lt_of_lt_of_le h h2)
  · have := int_text_length_le10 hk h
    show (Str.ofString (toString i)).length ≤ _
    rw [PySem.ofString_length]
    exact this
theorem Shw.all {xs : List D} {n m : Nat} (h : ∀ x ∈ xs, Shw x n m) : plainL xs = true ∧ PyData.showableAll (pdL xs) = true ∧ PyData.hasDictAll (pdL xs) = false ∧ PyData.depthAll (pdL xs) ≤ n ∧ ((PyData.shownAll (pdL xs)).map (·.length)).sum ≤ xs.length * m ∧ (PyData.shownAll (pdL xs)).length = xs.length := by
  induction xs with
  | nil => exact ⟨rfl, rfl, rfl, Nat.zero_le _, Nat.zero_le _, rfl⟩
  | cons x r ih =>
    obtain ⟨i1, i2, i3, i4, i5, i6⟩ := ih fun y hy => h y (List.mem_cons_of_mem _ hy)
    obtain ⟨h1, h2, h3, h4, h5⟩ := h x List.mem_cons_self
    refine ⟨?_, ?_, ?_, ?_, ?_, ?_⟩
    · show (plain x && plainL r) = true
      rw [h1, i1]; rfl
    · show ((pd x).showable && PyData.showableAll (pdL r)) = true
      rw [h2, i2]; rfl
    · show ((pd x).hasDict || PyData.hasDictAll (pdL r)) = false
      rw [h3, i3]; rfl
    · show max (pd x).depth (PyData.depthAll (pdL r)) ≤ n
      omega
    · show (((pd x).shown :: PyData.shownAll (pdL r)).map (·.length)).sum ≤ _
      rw [List.map_cons, List.sum_cons, List.length_cons, Nat.succ_mul]
      omega
    · show ((pd x).shown :: PyData.shownAll (pdL r)).length = _
      rw [List.length_cons, i6]; rfl
theorem Shw.lst {xs : List D} {n m : Nat} (h : ∀ x ∈ xs, Shw x n m) {l : Nat} (hl : xs.length ≤ l) : Shw (.lst xs) (n + 1) (l * (m + 2) + 2) := by
  obtain ⟨i1, i2, i3, i4, i5, i6⟩ := Shw.all h
  refine ⟨i1, i2, i3, Nat.succ_le_succ i4, ?_⟩
  have := listText_le (PyData.shownAll (pdL xs))
  rw [i6] at this
  have h1 : xs.length * m ≤ l * m := Nat.mul_le_mul_right _ hl
  show (listText (PyData.shownAll (pdL xs))).length ≤ _
  rw [Nat.mul_add]
  omega
theorem Shw.tup {xs : List D} {n m : Nat} (h : ∀ x ∈ xs, Shw x n m) {l : Nat} (hl : xs.length ≤ l) : Shw (.tup xs) (n + 1) (l * (m + 2) + 3) := by
  obtain ⟨i1, i2, i3, i4, i5, i6⟩ := Shw.all h
  refine ⟨i1, i2, i3, Nat.succ_le_succ i4, ?_⟩
  have := tupleText_le (PyData.shownAll (pdL xs))
  rw [i6] at this
  have h1 : xs.length * m ≤ l * m := Nat.mul_le_mul_right _ hl
  show (tupleText (PyData.shownAll (pdL xs))).length ≤ _
  rw [Nat.mul_add]
  omega
section
variable {X : Cx} {N : List Str} {k : Nat} {ms : MS} {kd : DK}
theorem cad_reprS (C : Ctx X N k) (gd : X.A.guards = some []) {d : D} {xs : List D} {n m : Nat} (h : LsOf ms d xs) (hs : Shw (.lst xs) n m) (hn : n ≤ 60) (hm : m ≤ sizeLine) (q : kd (.str (pd (.lst xs)).shown) ms) : CaD X (.builtin "repr") [d] ms kd :=
  cad_repr C gd h hs.pl hs.sh hs.hd (Nat.le_trans hs.dp hn) (Nat.le_trans hs.ln hm) q
end
end DL

/-! DL9: more operators; the pool's ledger; replacing. -/
namespace DL
open PySem PySem.Spec PyProof.Rows L2
section
variable {X : Cx} {xw : DX} {N : List Str} {k : Nat} {ds : DEnv} {ms : MS} {kd : DK} {e : Expr} {es : List Expr} {pos p sp_ : Pos}
theorem mul_foldl (x : Array Nat) : ∀ (n : Nat) (a : Array Nat), ((List.replicate n x).foldl (· ++ ·) a).size = a.size + n * x.size
  | 0, a => by simp
  | n + 1, a => by
    rw [List.replicate_succ, List.foldl_cons, mul_foldl x n, Array.size_append, Nat.succ_mul]
    omega
theorem mul_len (x : Str) (n : Int) : (Txt.mul x n).length ≤ n.toNat * x.length := by
  unfold Txt.mul
  split
  · exact Nat.zero_le _
  · split
    · rename_i h1 h2
      rcases Bool.or_eq_true_iff.mp h2 with h | h
      · have : n = 1 := by simpa using h
        subst this
        show x.length ≤ 1 * x.length
        omega
      · have : x.length = 0 := by simpa using h
        omega
    · show ((List.replicate n.toNat x.cps).foldl (· ++ ·) #[]).size ≤ _
      rw [mul_foldl]
      show 0 + n.toNat * x.cps.size ≤ n.toNat * x.cps.size
      omega
theorem opd_mulS {x : Str} {n : Int} (hx : x.length ≤ 16) (h0 : -(2 ^ 63 : Int) ≤ n) (h1 : n ≤ 1000000) (q : kd (.str (Txt.mul x n)) ms) : OpD X (binaryOp .Mult) (.str x) (.int n) ms kd := fun F v u H Q rv ru S V pins s σ v' u' I r1 r2 => by
  cases rv
  cases ru
  obtain ⟨t, rfl⟩ := r1
  obtain ⟨t2, rfl⟩ := r2
  exact SB.mul (mulOk_of 16 1048576 hx (by omega) h0 (by decide) (by decide)) fun t' k => ⟨.str _, H, I.tok k, ⟨t', rfl⟩, V.val (d := .str _) S rfl q⟩
theorem mle_more {K : PySem.W.Frag} {ms : MS} {p : Addr} {n m : Nat} (h : n ≤ m) : MLe K ((p, poolM n) :: ms) ((p, poolM m) :: ms) := MLe.head (o := poolM n) (o' := poolM m) fun F u ⟨a, b, c, e, ok⟩ => ⟨a, b, c, e, ⟨ok.a0, ok.b0, ok.b1, ok.c0, Int.le_trans ok.c1 (by exact_mod_cast h)⟩⟩
end

/-! ### where a token is out -/
section
open Builtin Builtin.Str
theorem gives_repl1 (x y z : Str) (t u v w : Tok) (h0 : (u == 0 || v == 0) = false) (huv : (u == v) = false) (hyz : (y == z) = false)
    (hl : tooLong (x.length + (occurrences x y 0 x.length 1).length * z.length) = false) :
    Gives («str.replace» ⟨[.str x t, .str y u, .str z v, .int 1 w], []⟩) (if ((occurrences x y 0 x.length 1).isEmpty || (y.length == 0 && z.length == 0)) = true then .val (.str x t) else .str (glued z (partsBetween x (occurrences x y 0 x.length 1) y.length))) := by
  show Gives (if ((occurrences x y 0 x.length 1).isEmpty || (y.length == 0 && z.length == 0)) = true then (do rule "str.replace.nothing"; ret (.str x t)) else
          (do let same ← isSame (.str y u) (.str z v)
              if same = true then (do rule "str.replace.old-is-new"; ret (.str x t)) else
              if tooLong (x.length + (occurrences x y 0 x.length 1).length * z.length) = true then unsupported "str.replace:memory" else
              retStr (glued z (partsBetween x (occurrences x y 0 x.length 1) y.length)))) _
  cases hc : ((occurrences x y 0 x.length 1).isEmpty || (y.length == 0 && z.length == 0))
  · rw [isSame_str_other y z u v h0 huv hyz, hl]
    exact .of_eq rfl
  · exact .rule (.of_eq rfl)
theorem parts_len (x : Str) (cuts : List Nat) (w : Nat) : (partsBetween x cuts w).length = cuts.length + 1 ∧ ((partsBetween x cuts w).map (·.length)).sum ≤ (cuts.length + 1) * x.length := by
  have hl : (partsBetween x cuts w).length = cuts.length + 1 := len_partsBetween x cuts w
  refine ⟨hl, ?_⟩
  have each : ∀ p ∈ partsBetween x cuts w, p.length ≤ x.length := by
    intro p hp
    unfold partsBetween at hp
    obtain ⟨⟨i, j⟩, _, rfl⟩ := List.mem_map.mp hp
    show (strSub x i j).cps.size ≤ _
    have e := StrLaws.strSub_toList x i j
    have e2 := congrArg List.length e
    rw [Array.length_toList, List.length_take, List.length_drop, Array.length_toList] at e2
    rw [e2]
    show min (j - i) (x.cps.size - i) ≤ x.cps.size
    omega
  rw [← hl]
  have gen : ∀ l : List Str, (∀ p ∈ l, p.length ≤ x.length) → (l.map (·.length)).sum ≤ l.length * x.length := by
    intro l
    induction l with
    | nil => intro _; exact Nat.zero_le _
    | cons p r ih =>
      intro each
      rw [List.map_cons, List.sum_cons, List.length_cons, Nat.succ_mul]
      have h1 := ih fun q hq => each q (List.mem_cons_of_mem _ hq)
      have h2 := each p List.mem_cons_self
      omega
  exact gen _ each
/-- x.replace(y, z, 1): a text, not much longer -/
theorem call_repl1 {prog : Program} {w : World} {A : Around} {E : Value → Shared → Prop} {s : Shared} {x y z : Str} {t u v w' : Tok} {Q : Value → Shared → Prop} (hu : u ≠ 0) (hv : v ≠ 0) (huv : u ≠ v) (hyz : (y == z) = false) (hx : x.length ≤ 100000) (hz : z.length ≤ 100)
    (hq : ∀ (o : Str) t' k, o.length ≤ 2 * x.length + 2 * z.length → Q (.str o t') { s with toks := k }) : wpAny (model prog w) A (call (.builtin "str.replace") [.str x t, .str y u, .str z v, .int 1 w']) Q E s := by
  have h1 := StrLaws.occ_length_le x y 0 x.length 1
  have hm : (occurrences x y 0 x.length 1).length * z.length ≤ 1 * z.length := Nat.mul_le_mul_right _ h1
  have hl : tooLong (x.length + (occurrences x y 0 x.length 1).length * z.length) = false := by
    unfold tooLong
    rw [sizeLine_eq]
    exact decide_eq_false (by omega)
  refine call_gives F.slot_str_replace (typeIs_str _ _ _) F.entry_str_replace (F.args_str_replace_4 _ _ _ _) (gives_repl1 x y z t u v w' (by simp [hu, hv]) (by simp [huv]) hyz hl) ?_
  have hlen : (glued z (partsBetween x (occurrences x y 0 x.length 1) y.length)).length ≤ 2 * x.length + 2 * z.length := by
    rw [StrLaws.glued_eq_join]
    have h2 := StrLaws.join_length_le z (partsBetween x (occurrences x y 0 x.length 1) y.length)
    obtain ⟨p1, p2⟩ := parts_len x (occurrences x y 0 x.length 1) y.length
    rw [p1] at h2
    have h3 : ((occurrences x y 0 x.length 1).length + 1) * x.length ≤ 2 * x.length := Nat.mul_le_mul_right _ (by omega)
    have h4 : ((occurrences x y 0 x.length 1).length + 1) * z.length ≤ 2 * z.length := Nat.mul_le_mul_right _ (by omega)
    omega
  split
  · exact hq x t s.toks (by omega)
  · exact ⟨by rw [sizeLine_eq]; omega, hq _ _ _ hlen⟩
end
def wET (X : Cx) (e : Expr) : TE := fun σ H Q => ∀ pins s, 1 ≤ s.toks → Inv X pins σ H s → wpAny (model X.prog X.w) X.A (eval e X.env) (EP X pins σ Q) X.xe s
theorem pet_w {X : Cx} {e : Expr} : PET X e (wET X e) := fun pins s σ H Q h0 I h => h pins s h0 I
def wAT (X : Cx) (es : List Expr) : TA := fun σ H Q => ∀ (pos : Pos) pins s, 1 ≤ s.toks → Inv X pins σ H s → wpAny (model X.prog X.w) X.A (spliced (backTo pos (starEach es X.env))) (AP X pins σ Q) X.xe s
theorem pat_w {X : Cx} {es : List Expr} : PAT X es (wAT X es) := fun pos pins s σ H Q h0 I h => h pos pins s h0 I
def wST (X : Cx) (st : Stmt) : TS := fun D σ H => ∀ pins s, 1 ≤ s.toks → Inv X pins σ H s → wpAny (model X.prog X.w) X.A (exec st X.env) (SP X pins D) X.xe s
def wSsT (X : Cx) (st : List Stmt) : TS := fun D σ H => ∀ pins s, 1 ≤ s.toks → Inv X pins σ H s → wpAny (model X.prog X.w) X.A (execs st X.env) (SP X pins D) X.xe s
theorem pst_w {X : Cx} {st : Stmt} : PST X st (wST X st) := fun pins s σ H D h0 I h => h pins s h0 I
theorem psst_w {X : Cx} {st : List Stmt} : PSsT X st (wSsT X st) := fun pins s σ H D h0 I h => h pins s h0 I
def DET (X : Cx) (xw : DX) (e : Expr) (ds : DEnv) (ms : MS) (kd : DK) : Prop := ∀ F σ H Q W, At X xw F ds σ ms H W → VC X.K F kd Q → wET X e σ H Q
def DAT (X : Cx) (xw : DX) (es : List Expr) (ds : DEnv) (ms : MS) (kd : List D → MS → Prop) : Prop := ∀ F σ H Q W, At X xw F ds σ ms H W → VCs X.K F kd Q → wAT X es σ H Q
def DST (X : Cx) (xw : DX) (st : Stmt) (ds : DEnv) (ms : MS) (E : DEnds) : Prop := ∀ F σ H D W, At X xw F ds σ ms H W → EC X.K F E D → wST X st D σ H
def DSsT (X : Cx) (xw : DX) (st : List Stmt) (ds : DEnv) (ms : MS) (E : DEnds) : Prop := ∀ F σ H D W, At X xw F ds σ ms H W → EC X.K F E D → wSsT X st D σ H
section
variable {X : Cx} {xw : DX} {N : List Str} {k : Nat} {ds : DEnv} {ms : MS} {kd : DK} {E : DEnds} {e : Expr} {es : List Expr} {pos p : Pos} {st : Stmt} {rest : List Stmt}
theorem DE.t (h : DE X xw e ds ms kd) : DET X xw e ds ms kd := fun F σ H Q W A V pins s _ I => h F σ H Q W A V pins s I
theorem DS.t (h : DS X xw st ds ms E) : DST X xw st ds ms E := fun F σ H Q W A V pins s _ I => h F σ H Q W A V pins s I
theorem DSs.t (h : DSs X xw rest ds ms E) : DSsT X xw rest ds ms E := fun F σ H Q W A V pins s _ I => h F σ H Q W A V pins s I
theorem dat_nil {kd : List D → MS → Prop} (q : kd [] ms) : DAT X xw [] ds ms kd := fun F σ H Q W A V pos pins s h0 I => pat_nil pos pins s σ H Q h0 I (V F [] [] ms H (Le.refl F) rfl A.sep q)
theorem dat_cons {kd : List D → MS → Prop} (h : DET X xw e ds ms fun x ms1 => DAT X xw es ds ms1 fun xs ms2 => kd (x :: xs) ms2) (hs : starEach (e :: es) X.env = (false, eval e X.env) :: starEach es X.env) : DAT X xw (e :: es) ds ms kd :=
  fun F σ H Q W A V pos pins s h0 I => pat_cons pet_w pat_w hs pos pins s σ H Q h0 I (h F σ H _ W A fun F1 x d ms1 H1 e1 r1 S1 k1 => k1 F1 σ H1 _ W (A.mv e1 S1) fun F2 xs d2 ms2 H2 e2 r2 S2 k2 =>
    V F2 (x :: xs) (d :: d2) ms2 H2 (e1.trans e2) ⟨x, xs, rfl, r1.mono e2, r2⟩ S2 k2)
theorem det_lst (h : DAT X xw es ds ms fun xs ms1 => xs.length ≤ sizeLine ∧ kd (.lst xs) ms1) : DET X xw (.List es pos) ds ms kd :=
  fun F σ H Q W A V pins s h0 I => pet_lst pat_w pins s σ H Q h0 I (h F σ H _ W A fun F1 xs d ms1 H1 e1 r1 S1 ⟨hl, q⟩ => ⟨by rw [r1.length]; exact hl, fun p hp =>
    V (upd F1 p (.lst xs)) (.ref p) (.lst d) ms1 _ (e1.trans (Le.new (S1.free hp))) ⟨p, xs, rfl, upd_same, r1.mono (Le.new (S1.free hp))⟩ (S1.newF hp) q⟩)
/-- o.replace('y', 'z', 1) -/
theorem det_repl {o : Expr} {y z : Str} {j1 j2 j3 : Nat} {c1 c2 c3 apos : Pos} (h : DE X xw o ds ms fun d ms1 => ∃ x : Str, d = .str x ∧ x.length ≤ 100000 ∧ ∀ z' : Str, z'.length ≤ 2 * x.length + 2 * z.length → kd (.str z') ms1) (hyz : (y == z) = false) (hz : z.length ≤ 100)
    (hbase : attributeBase o "replace" X.env (eval o X.env) = eval o X.env) (hline : (apos.endLine == pos.line) = true)
    (hfew : ((backTo pos (starEach [.Constant (.str y) j1 c1, .Constant (.str z) j2 c2, .Constant (.int 1) j3 c3] X.env)).all (fun x => !x.1) && (backToKw pos (keywordEach [] X.env)).all (fun x => x.1.isSome)
      && decide (([.Constant (.str y) j1 c1, .Constant (.str z) j2 c2, .Constant (.int 1) j3 c3] : List Expr).length + ([] : List Keyword).length + (if ([] : List Keyword).isEmpty then 0 else 1) < 30)) = true)
    (hs1 : starEach [.Constant (.str y) j1 c1, .Constant (.str z) j2 c2, .Constant (.int 1) j3 c3] X.env = [(false, eval (.Constant (.str y) j1 c1) X.env), (false, eval (.Constant (.str z) j2 c2) X.env), (false, eval (.Constant (.int 1) j3 c3) X.env)]) :
    DET X xw (.Call (.Attribute o "replace" apos) [.Constant (.str y) j1 c1, .Constant (.str z) j2 c2, .Constant (.int 1) j3 c3] [] pos) ds ms kd := by
  intro F σ H Q W A V pins s h0 I
  refine wpAny_Call_method_late hbase hfew hline rfl (wpAny_mono (PySem.wpAny_toks (h F σ H (fun v H1 => ∃ x : Str, v = .str x ∧ x.length ≤ 100000 ∧ ∀ z' : Str, z'.length ≤ 2 * x.length + 2 * z.length → Q (.str z') H1) W A (fun F1 v d ms1 H1 e1 r1 S1 ⟨x, ed, hx, q⟩ => ?_) pins s I)) (fun v s1 hq => ?_) fun _ _ z => z.2)
  · subst ed
    cases r1
    exact ⟨x, rfl, hx, fun z' hz' => V F1 (.str z') (.str z') ms1 H1 e1 rfl S1 (q z' hz')⟩
  · obtain ⟨hk, v', H1, I1, r1, x, e1, hx, q⟩ := hq
    subst e1
    obtain ⟨tx, rfl⟩ := r1
    refine ⟨"str", _, PySem.F.plainAttrs_str, PySem.F.slot_str_replace, PySem.F.type_str_replace, typeIs_str _ _ _, (fun _ e => nomatch e), ?_⟩
    rw [hs1]
    refine Calls.callWith_builtin rfl (Calls.evalArgs_plain (Calls.spliced_cons (Calls.Constant_str (k := j1) (pos := c1) (Calls.spliced_cons (Calls.Constant_str (k := j2) (pos := c2) (Calls.spliced_cons ?_))))))
    refine (pe_int (X := X) (i := 1) (j := j3) (pos := c3)).run pins _ σ H1 (fun v H2 => v = .int 1 ∧ H2 = H1) (I1.tok _) ⟨rfl, rfl⟩ |> fun hh => thn hh fun u s2 ⟨w1, H2, I2, r2, ew, eH⟩ => ?_
    subst ew eH
    obtain ⟨tw, rfl⟩ := r2
    refine Calls.spliced_nil ?_
    exact call_repl1 (by show s1.toks ≠ 0; omega) (by show s1.toks + 1 ≠ 0; omega) (by show s1.toks ≠ s1.toks + 1; omega) hyz hx hz fun o t' k hl => ⟨.str o, H2, I2.tok k, ⟨t', rfl⟩, q o hl⟩
/-- [ 'c', .. ]: behind the first item a token is out -/
theorem da_const1 {kd : List D → MS → Prop} {y : Str} {j : Nat} {c1 : Pos} (h : DAT X xw es ds ms fun xs ms2 => kd (.str y :: xs) ms2) (hs : starEach (.Constant (.str y) j c1 :: es) X.env = (false, eval (.Constant (.str y) j c1) X.env) :: starEach es X.env) : DA X xw (.Constant (.str y) j c1 :: es) ds ms kd := by
  intro F σ H Q W A V pos pins s I
  rw [hs]
  show wpAny _ _ (spliced ((false, eval (.Constant (.str y) j c1) X.env) :: backTo pos (starEach es X.env))) _ _ s
  refine Calls.spliced_cons (Calls.Constant_str ?_)
  refine thn (h F σ H (fun vs H2 => Q (.str y :: vs) H2) W A (fun F1 xs d ms1 H1 e1 r1 S1 q => V F1 (.str y :: xs) (.str y :: d) ms1 H1 e1 ⟨_, _, rfl, rfl, r1⟩ S1 q) pos pins _ (by show 1 ≤ s.toks + 1; omega) (I.tok _)) fun us s2 ⟨xs, H2, I2, r2, q2⟩ => ?_
  exact ⟨.str y :: xs, H2, I2, .cons ⟨_, rfl⟩ r2, q2⟩
/-- x = [ 'c', .. ], then the rest with a token out -/
theorem dss_menu (C : Ctx X N k) {x : Str} {i : Nat} {y : Str} {j : Nat} {c1 pos' lpos : Pos} (hi : Ix N x i) (hx : Loc X.env.scope x) (hf : X.fn x = true ∨ X.env.scope.names.lookup x = some .local)
    (h : DAT X xw es ds ms fun xs ms1 => (xs.length + 1 ≤ sizeLine) ∧ ∀ p, ∃ ds', Put ds i (some (.adr p)) ds' ∧ DSsT X xw rest ds' ((p, .lst (.str y :: xs)) :: ms1) E)
    (hs : starEach (.Constant (.str y) j c1 :: es) X.env = (false, eval (.Constant (.str y) j c1) X.env) :: starEach es X.env)
    (hsw : swapsWith (.List (.Constant (.str y) j c1 :: es) lpos) (some (.Name x pos')) pos.line X.env = pure false) :
    DSs X xw (.Assign [.Name x pos'] (.List (.Constant (.str y) j c1 :: es) lpos) pos :: rest) ds ms E := by
  intro F σ H Dd W A V pins s I
  refine wpAny_execs_cons (wpAny_Assign_Name (wpAny_List_spliced ?_) hsw)
  rw [hs]
  show wpAny _ _ (spliced ((false, eval (.Constant (.str y) j c1) X.env) :: backTo lpos (starEach es X.env))) _ _ s
  refine Calls.spliced_cons (Calls.Constant_str ?_)
  have hk : 1 ≤ s.toks + 1 := by omega
  refine wpAny_mono (PySem.wpAny_toks_of (n := 1) hk (h F σ H (fun vs H2 => vs.length + 1 ≤ sizeLine ∧ ∀ p, H2 p = none → wSsT X rest Dd (σ.set i (some (.ref p))) (upd H2 p (.lst (.str y :: vs)))) W A (fun F1 xs d ms1 H1 e1 r1 S1 ⟨hl, q⟩ => ⟨by rw [r1.length]; exact hl, fun p hp => ?_⟩) lpos pins { s with toks := s.toks + 1 } hk (I.tok _))) (fun us s2 hq => ?_) fun _ _ z => z.2
  · obtain ⟨ds', hput, q⟩ := q p
    refine q F1 _ _ Dd W (A.mvE e1 (by rw [hput.eq]; exact (A.sr.mono e1).set i (d := .adr p) rfl) (S1.new (o := .lst (.str y :: d)) hp ⟨_, rfl, ⟨_, _, rfl, rfl, r1⟩⟩)) (V.mono e1)
  · obtain ⟨h1, xs, H2, I2, r2, hl, q2⟩ := hq
    have hfr : H2 s2.heap.objs.size = none := I2.hok.fresh (Nat.le_refl _)
    have rr : Vals (.str y :: xs) (.str y s.toks :: us) := .cons ⟨_, rfl⟩ r2
    refine ⟨by rw [← rr.length]; exact hl, ?_⟩
    have J : Inv X pins σ (upd H2 s2.heap.objs.size (.lst (.str y :: xs))) { s2 with heap := s2.heap.push { cls := .type "list", data := .seq (Value.str y s.toks :: us).toArray } } :=
      I2.laid (t' := s2.toks) (fun b u e => Heap.get?_push_of_some _ e) (Nat.le_refl _) ⟨hl, _, 0, rr, Heap.get?_push_size _ rfl⟩
    refine wpAny_mono (PySem.wpAny_toks_of (n := 1) (by exact h1) (store_ok (v := L2.V.ref s2.heap.objs.size) (u := Value.ref s2.heap.objs.size) (Q := fun _ s3 => Inv X pins (σ.set i (some (L2.V.ref s2.heap.objs.size))) _ s3) J C.ndX (C.ix hi) hx rfl (fun _ I3 => I3) hf)) (fun _ s3 q => ?_) fun _ _ z => z.2
    exact q2 _ hfr pins s3 q.1 q.2
theorem dssT_nil (q : E.nx ds ms) : DSsT X xw [] ds ms E := (dss_nil q).t
theorem dssT_cons (h : DST X xw st ds ms { E with nx := fun ds1 ms1 => DSsT X xw rest ds1 ms1 E }) : DSsT X xw (st :: rest) ds ms E := fun F σ H D W A V pins s h0 I =>
  psst_cons pst_w psst_w pins s σ H D h0 I (h F σ H { D with nx := wSsT X rest D } W A ⟨fun F1 ds1 σ1 ms1 H1 e1 sr1 S1 k1 => k1 F1 σ1 H1 D W (A.mvE e1 sr1 S1) (V.mono e1), V.rt, V.bk, V.ct⟩)
/-- o.m(es), a token out -/
theorem dst_m {T id : String} {name : Str} {o : Expr} {apos cpos spos : Pos} (pa : PlainAttrs T) (slot : Slot T name id) (hty : typeOf (.builtin id) = pure (.type "method_descriptor"))
    (h : DE X xw o ds ms fun x ms1 => TyD ms1 T x ∧ DAT X xw (e :: es) ds ms1 fun xs ms2 => MtD X id x xs ms2 fun _ ms3 => E.nx ds ms3)
    (hbase : attributeBase o name X.env (eval o X.env) = eval o X.env)
    (hfew : ((backTo cpos (starEach (e :: es) X.env)).all (fun x => !x.1) && (backToKw cpos (keywordEach [] X.env)).all (fun x => x.1.isSome)
      && decide ((e :: es).length + ([] : List Keyword).length + (if ([] : List Keyword).isEmpty then 0 else 1) < 30)) = true)
    (hline : (apos.endLine == cpos.line) = true) (hs : starEach (e :: es) X.env = (false, eval e X.env) :: starEach es X.env) (hplain : (backTo cpos (starEach es X.env)).any (·.1) = false)
    (hsw : swapsWith (.Call (.Attribute o name apos) (e :: es) [] cpos) none spos.line X.env = pure false) : DST X xw (.Expr (.Call (.Attribute o name apos) (e :: es) [] cpos) spos) ds ms E := by
  intro F σ H Dd W A V pins s h0 I
  refine wpAny_Expr_any ?_ I.quiet hsw
  refine wpAny_Call_method_late hbase hfew hline rfl (wpAny_mono (PySem.wpAny_toks (h F σ H (fun v H1 => tyV X.K T v H1 ∧ wAT X (e :: es) σ H1 fun vs H2 => wM X id v vs H2 fun _ H3 => Dd.nx σ H3) W A (fun F1 x d ms1 H1 e1 r1 S1 ⟨ht, k1⟩ => ⟨ht.tyV r1 S1, k1 F1 σ H1 _ W (A.mv e1 S1) fun F2 xs d2 ms2 H2 e2 r2 S2 k2 => k2 F2 x xs H2 _ (r1.mono e2) r2 S2 fun F3 v3 d3 ms3 H3 e3 r3 S3 q => V.nx F3 ds σ ms3 H3 ((e1.trans e2).trans e3) (A.sr.mono ((e1.trans e2).trans e3)) S3 q⟩) pins s I)) (fun v s1 hq => ?_) fun _ _ z => z.2)
  obtain ⟨hk, x, H1, I1, r1, ty, q1⟩ := hq
  obtain ⟨h1, h2⟩ := tyV_is I1 r1 ty
  refine ⟨T, id, pa, slot, hty, h1, h2, ?_⟩
  have hA := q1 cpos pins s1 (Nat.le_trans h0 hk) I1
  rw [hs] at hA ⊢
  refine Calls.callWith_builtin (by show (false || (backTo cpos (starEach es X.env)).any (·.1)) = false; rw [hplain] <;> rfl) (Calls.evalArgs_plain ?_)
  exact thn hA fun us s2 ⟨vs, H2, I2, r2, q2⟩ => thn (q2 pins s2 σ v us I2 r1 r2) fun u s3 ⟨y, H3, I3, r3, q3⟩ => ⟨σ, H3, I3, q3⟩
end
/-- a text that is made of a text and some draws: not much longer -/
def spTxt (b j : Nat) : DSp := fun vs ms kd _ => ∃ p z n ms0, vs = [.adr p, .str z] ∧ ms = (p, poolM n) :: ms0 ∧ n + j < 2 ^ 30 ∧ z.length ≤ 20000 ∧ ∀ z' : Str, z'.length ≤ 3 * z.length + b → kd (.str z') ((p, poolM (n + j)) :: ms0)
end DL

/-! DL10: the end of a law whose defs are promised where no repr runs around. -/
namespace DL
open PySem PySem.Spec PyProof.Rows L2 PySem.W
/-- what is tracked at the law's call: the script, where it is none of the module's own objects -/
def scrH (K : Frag) (a : Addr) (o : Obj) (xs : List V) : Hp := fun b => if b = a ∧ K.lookup a = none then some (.frz o (.lst xs)) else none
theorem scrH_or (K : Frag) (a : Addr) (o : Obj) (xs : List V) (b : Addr) : scrH K a o xs b = none ∨ (b = a ∧ K.lookup a = none ∧ scrH K a o xs b = some (.frz o (.lst xs))) := by
  unfold scrH
  by_cases h : b = a ∧ K.lookup a = none
  · exact .inr ⟨h.1, h.2, if_pos h⟩
  · exact .inl (if_neg h)
theorem end_of_call {P : Program} {w : World} {K : Frag} {mg mb : Str → Option Value} {CX : CXT} {k : Nat} {fa a : Addr} {fd : FuncData} {x : Str} {sp : Sp} {s : Shared} {vs : List Value} {ns : List Int}
    (top : K.In s.heap ∧ s.heap.Ns mainGlobals mg ∧ s.heap.Ns builtinsNs mb ∧ (∀ y : Str, y ≠ "__name__" → mb y = bootBuiltins y) ∧ s.heap.NoLimit ∧ s.gens = #[])
    (script : s.heap.get? a = some { cls := .type "list", data := .seq vs.toArray } ∧ IntsAre vs ns ∧ ns.length ≤ sizeLine) (room : Room k callerA)
    (F : ∀ base : Heap, K.In base → base.Ns mainGlobals mg → FnOkG P w K mg base CX k fa fd [x] sp) (bind : ∀ (t : Shared) (u : Value), BindsTo t fd ⟨[u], []⟩ [(x, u)])
    (law : ∀ H : Hp, Only H → SqL K H a (ns.map V.int) → sp [.ref a] H (fun v _ => v = .bl true) fun _ _ _ => False)
    (quiet : ∀ H e s', CX [] H s (fun _ _ _ => False) e s' → False) :
    codeAny (model P w) callerA (.call (.ref fa) ⟨[.ref a], []⟩) (fun r s' => r = .ok (.ret (.bool true)) ∧ OldK s.heap s'.heap ∧ s'.os = s.os ∧ AllBare s'.gens) s := by
  obtain ⟨kin, glob, blt, bltn, nolim, gens⟩ := top
  obtain ⟨ha, hits, len⟩ := script
  have rel := vals_ints hits
  let o : Obj := { cls := .type "list", data := .seq vs.toArray }
  let H : Hp := scrH K a o (ns.map V.int)
  have two : ∀ b, H b = none ∨ (b = a ∧ K.lookup a = none ∧ H b = some (.frz o (.lst (ns.map V.int)))) := scrH_or K a o (ns.map V.int)
  have off : ∀ {b : Addr} {p : Obj}, s.heap.get? b = some p → p ≠ o → H b = none := fun {b p} e n => by
    rcases two b with h | ⟨rfl, _, _⟩
    · exact h
    · rw [ha] at e
      exact absurd (Option.some.inj e).symm n
  have hid : ∀ {b : Addr} {m : Str → Option Value}, s.heap.Ns b m → (hidT s.heap H).Ns b m := fun {b m} h => by
    obtain ⟨p, es, ep, e, d, r⟩ := h
    exact ⟨p, es, ep, hidT_get e (off e fun z => by rw [z] at d; cases d), d, r⟩
  have hok : HOk P w H s.heap := fun b u e => by
    rcases two b with h | ⟨rfl, _, h⟩
    · rw [h] at e; cases e
    · rw [h] at e
      cases e
      exact ⟨ha, by rw [List.length_map]; exact len, vs, _, rel, ha⟩
  have only : Only H := fun b => (two b).imp id fun h => ⟨o, ns.map V.int, h.2.2⟩
  have told : SqL K H a (ns.map V.int) := by
    cases e : K.lookup a with
    | none => exact .inl (.inr ⟨o, show scrH K a o (ns.map V.int) a = _ from if_pos ⟨rfl, e⟩⟩)
    | some p =>
      have e' := kin a p e
      rw [ha] at e'
      cases e'
      exact .inr ⟨o, vs.toArray, _, e, rfl, rfl, rfl, by rw [List.size_toArray, hits.length]; exact len, by simpa using rel⟩
  have kinB : K.In (hidT s.heap H) := fun b p e => hidT_get (kin b p e) (by
    rcases two b with h | ⟨rfl, h, _⟩
    · exact h
    · rw [h] at e; cases e)
  have M : Mod K mg (hidT s.heap H) := ⟨kinB, hid glob, ⟨mb, hid blt, bltn⟩, by obtain ⟨mc, h1, h2⟩ := nolim; exact ⟨mc, hid h1, h2⟩⟩
  have env : Env0 P w K mg (hidT s.heap H) callerA [] s H := ⟨rfl, M, fun b p e => of_hidT e, Nat.le_of_eq (hidT_size _ _), trivial, fun b z => (by cases z), hok, .of_eq gens⟩
  refine codeAny_mono ((F _ kinB (hid glob)).run callerA [] s H ⟨[.ref a], []⟩ [.ref a] [.ref a] _ _ room rfl env (bind s (.ref a)) (.cons rfl .nil) (law H only told)) fun r s' h => ?_
  match r, h with
  | .error e, h => exact (quiet H e s' h).elim
  | .ok .next, h => exact False.elim h
  | .ok .brk, h => exact False.elim h
  | .ok .cont, h => exact False.elim h
  | .ok (.ret u), ⟨v, H', os, bare, un, hok', rv, q⟩ =>
    subst q
    obtain rfl : u = Value.bool true := rv
    refine ⟨rfl, OldK.of_keep fun b p e => ?_, os, bare⟩
    rcases two b with h | ⟨rfl, _, h⟩
    · exact un.keep b p e h (fun z => by cases z) (by simp)
    · obtain ⟨e1, _⟩ := hok b _ h
      obtain ⟨e2, _⟩ := hok' b _ (un.frzs b o _ h)
      rw [e] at e1
      cases e1
      exact e2
theorem walk_ofG {l : OpenLaw} {n k : Nat} {q : Program} {loose : List Str} {XP : (Str → Option Value) → Heap → Prop} {YP : World → Heap → Prop} {d : DefRec} {K : Params → Frag} {CX : World → CXT} {sp : World → Sp} {x : Str}
    (hn : l.most = some n) (hn2 : n ≤ sizeLine) (hdf : d.params.defaults = []) (hr : Room k callerA) (hY : ∀ (w : World) (h : Heap), YP w h → (K w.params).In h)
    (F : ∀ (w : World) (mg : Str → Option Value) (fa : Addr) (h : Heap), (K w.params).In h → h.Ns mainGlobals mg → mg d.name = some (.ref fa) →
      ∃ fd : FuncData, (∀ (s : Shared) (u : Value), BindsTo s fd ⟨[u], []⟩ [(x, u)]) ∧ ∀ base : Heap, (K w.params).In base → base.Ns mainGlobals mg → FnOkG l.prog w (K w.params) mg base (CX w) k fa fd [x] (sp w))
    (law : ∀ (w : World) (H : Hp) (a : Addr) (ns : List Int), ns.length ≤ n → Only H → SqL (K w.params) H a (ns.map V.int) → sp w [.ref a] H (fun v _ => v = .bl true) fun _ _ _ => False)
    (quiet : ∀ (w : World) (H : Hp) (s : Shared) (e : Value) (s' : Shared), CX w [] H s (fun _ _ _ => False) e s' → False) : WalkO q loose XP YP l.row.toRowW d [] (fun f vs => PySem.call f vs) := by
  refine Att.attach_call hn hdf fun w s₀ s₁ mg mb fa o pm cd doc a vs ns G Y ho hd hcd hmg hobj hints hlen hg => ?_
  obtain ⟨fd, hb, hF⟩ := F w mg fa _ (hY w _ Y) G.T.g hmg
  exact end_of_call ⟨hY w _ Y, G.T.g, G.T.b, G.T.builtins, G.T.nolimit, hg⟩ ⟨hobj, hints, Nat.le_trans hlen hn2⟩ hr hF hb (fun H => law w H a ns hlen) fun H e s' => quiet w H s₁ e s'
/-- a law's promise on data, from the script -/
theorem toSp_script {K : Frag} {S : DSp} {H : Hp} {a : Addr} {ns : List Int} (h : SqL K H a (ns.map V.int)) (q : S [.scr ns] [] (fun d _ => d = .bl true) (fun _ _ _ => False)) : toSp K S [.ref a] H (fun v _ => v = .bl true) fun _ _ _ => False :=
  ⟨H, [.scr ns], [], fun d _ => d = .bl true, fun _ _ _ => False, ⟨.ref a, [], rfl, ⟨a, rfl, h⟩, rfl⟩, ⟨fun _ _ e => e, fun p hp => (by cases hp), List.nodup_nil⟩, q, fun F' v d ms' H' e r S' z => by subst z; exact r, fun _ _ _ _ _ _ _ _ _ _ _ z => z⟩
theorem quietL {P : Program} {w : World} (H : Hp) (s : Shared) (e : Value) (s' : Shared) (h : L2.CX P w [] H s (fun _ _ _ => False) e s') : False := by
  obtain ⟨_, _, _, _, _, _, _, _, _, _, _, _, z⟩ := h
  exact z.elim
/-- an error of its own class is what «except» names -/
theorem exm_own {K : Frag} {S : Addr} (h1 : subIn K (.ref S) (.type "BaseException") = some true) (h2 : hasDictIn K S = true) (h3 : typeIn K (.ref S) = some (.type "type")) (h4 : subIn K (.ref S) (.ref S) = some true) : exmOne K (.ref S) (.ref S) = some true := exm_ref h1 h2 h3 h4
theorem kw_one {K : Frag} {x qual : Str} {st : Stmt} {f : Addr} {fd : FuncData} {p : Str} (F : Fun K x qual st f fd)
    (h : ∀ (kV doc pm : Value) (an : Option Addr) (cdv ct u : Value), bindArgs (fnOf x qual (defArgs st) (defBody st) (defScope st) .none kV doc pm an cdv ct) ⟨[], [(p, u)]⟩ = pure [(p, u)]) : KwB K fd [p] [p] := by
  obtain ⟨oc, od, kV, doc, pm, an, cdv, ct, osl, rfl, lk, hcd⟩ := F.ex
  intro s us ws _ h1 h2
  match ws, h1 with
  | [u], _ =>
    match us, h2 with
    | [], _ => exact .of_eq (h kV doc pm an cdv ct u)
    | _ :: _, h2 => exact absurd h2 (by simp)
end DL

/-! M1: numbers in texts. -/
namespace Tx
open PySem PySem.Spec PyProof.Rows L2 DL PySem.NumText
abbrev tl (z : Str) : List Nat := z.cps.toList
theorem tl_len (z : Str) : z.length = (tl z).length := by simp [tl, Str.length]
theorem tl_ext {x y : Str} (h : tl x = tl y) : x = y := TL.ext_tl h
theorem tl_iff {x y : Str} : x = y ↔ tl x = tl y := ⟨fun h => by rw [h], tl_ext⟩
theorem tl_cut1 (z : Str) : tl (cutS z (some 1) none) = (tl z).drop 1 := by
  show ((List.take _ (List.drop _ _)).toArray).toList = _
  rw [List.toList_toArray]
  have h1 : HT.sIx z.length 0 (some 1) = min 1 z.length := HT.sIx_nat z.length 0 1
  have h2 : HT.sIx z.length z.length none = z.length := HT.sIx_none _ _
  rw [h1, h2, tl_len]
  cases h : tl z with
  | nil => simp
  | cons c r =>
    have h' : z.cps.toList = c :: r := h
    rw [h']
    simp
theorem tl_cutTo1 (z : Str) : tl (cutS z none (some 1)) = (tl z).take 1 := by
  show ((List.take _ (List.drop _ _)).toArray).toList = _
  rw [List.toList_toArray]
  have h1 : HT.sIx z.length z.length (some 1) = min 1 z.length := HT.sIx_nat z.length _ 1
  have h2 : HT.sIx z.length 0 none = 0 := HT.sIx_none _ _
  rw [h1, h2, tl_len]
  cases h : tl z with
  | nil =>
    have h' : z.cps.toList = [] := h
    rw [h']
    simp
  | cons c r =>
    have h' : z.cps.toList = c :: r := h
    rw [h']
    simp
def dig (c : Nat) : Bool := decide (48 ≤ c) && decide (c ≤ 57)
theorem all_dig {l : List Nat} : l.all dig = true ↔ AllDigits l := by
  unfold AllDigits
  rw [List.all_eq_true]
  constructor
  · intro h c hc
    have := h c hc
    unfold dig at this
    simpa using this
  · intro h c hc
    have := h c hc
    unfold dig
    simpa using this
/-- the integer of a text, if any -/
def numL (l : List Nat) : Option Int :=
  if l.take 1 = [45] then
    if 1 ≤ (l.drop 1).length ∧ (l.drop 1).length ≤ 40 ∧ (l.drop 1).all dig = true ∧ ¬ (l.drop 1).head? = some 48 then some (-((digitsVal (l.drop 1) : Nat) : Int)) else none
  else if 1 ≤ l.length ∧ l.length ≤ 40 ∧ l.all dig = true ∧ (l.head? = some 48 → l = [48]) then some ((digitsVal l : Nat) : Int) else none
/-- what stands behind a minus sign, or the text -/
def body (l : List Nat) : List Nat := if l.take 1 = [45] then l.drop 1 else l
theorem numL_none1 {l : List Nat} (h : ¬ (1 ≤ (body l).length ∧ (body l).length ≤ 40)) : numL l = none := by
  unfold numL
  unfold body at h
  split at h
  · rw [if_pos ‹_›, if_neg (fun q => h ⟨q.1, q.2.1⟩)]
  · rw [if_neg ‹_›, if_neg (fun q => h ⟨q.1, q.2.1⟩)]
theorem numL_none2 {l : List Nat} (h : ¬ (body l).all dig = true) : numL l = none := by
  unfold numL
  unfold body at h
  split at h
  · rw [if_pos ‹_›, if_neg (fun q => h q.2.2.1)]
  · rw [if_neg ‹_›, if_neg (fun q => h q.2.2.1)]
theorem numL_none3 {l : List Nat} (h : (body l).head? = some 48) (h2 : l ≠ [48]) : numL l = none := by
  unfold numL
  unfold body at h
  split at h
  · rw [if_pos ‹_›, if_neg (fun q => q.2.2.2 h)]
  · rw [if_neg ‹_›, if_neg (fun q => h2 (q.2.2.2 h))]
theorem numL_some {z : Str} (h1 : 1 ≤ (body (tl z)).length ∧ (body (tl z)).length ≤ 40) (h2 : (body (tl z)).all dig = true) (h3 : ¬ ((body (tl z)).head? = some 48 ∧ tl z ≠ [48])) :
    ∃ n, numL (tl z) = some n ∧ PySem.intText? z = some n ∧ z.length ≤ 640 := by
  unfold numL
  by_cases hm : (tl z).take 1 = [45]
  · have hb : body (tl z) = (tl z).drop 1 := by unfold body; rw [if_pos hm]
    rw [hb] at h1 h2 h3
    have hz : tl z = 45 :: (tl z).drop 1 := by
      have := List.take_append_drop 1 (tl z)
      rw [hm] at this
      exact this.symm
    have h48 : tl z ≠ [48] := fun e => by rw [e] at hm; simp at hm
    have hl : z.length ≤ 640 := by rw [tl_len, hz, List.length_cons]; omega
    rw [if_pos hm, if_pos ⟨h1.1, h1.2, h2, fun q => h3 ⟨q, h48⟩⟩]
    exact ⟨_, rfl, intText_neg hz (all_dig.mp h2) (fun e => by rw [e] at h1; simp at h1) (by omega), hl⟩
  · have hb : body (tl z) = tl z := by unfold body; rw [if_neg hm]
    rw [hb] at h1 h2 h3
    have hl : z.length ≤ 640 := by rw [tl_len]; omega
    rw [if_neg hm, if_pos ⟨h1.1, h1.2, h2, fun q => Classical.byContradiction fun r => h3 ⟨q, r⟩⟩]
    exact ⟨_, rfl, intText_digits (all_dig.mp h2) (fun e => by rw [show tl z = [] from e] at h1; simp at h1) (by omega), hl⟩
theorem tl_minus : tl "-" = [45] := by decide +kernel
theorem tl_zero : tl "0" = [48] := by decide +kernel
theorem tl_digits : tl "0123456789" = [48, 49, 50, 51, 52, 53, 54, 55, 56, 57] := by decide +kernel
theorem mem_digits (c : Nat) : decide (c ∈ tl "0123456789") = dig c := by
  rw [tl_digits]
  unfold dig
  rw [Bool.eq_iff_iff]
  simp
  omega
/-- as data -/
def optI : Option Int → D
  | none => .non
  | some n => .int n
def optL : Option Int → List D
  | none => []
  | some n => [.int n]
theorem optL_len (o : Option Int) : (optL o).length ≤ 1 := by cases o <;> simp [optL]
def spNum : DSp := fun vs ms kd _ => ∃ z, vs = [.str z] ∧ z.length ≤ 100000 ∧ kd (optI (numL (tl z))) ms
def spInteger : DSp := fun vs ms kd _ => ∃ z, vs = [.str z] ∧ z.length ≤ 100000 ∧ kd (.lst (optL (numL (tl z)))) ms
end Tx

/-! M2: texts cut at a sign. -/
namespace Tx
open PySem PySem.Spec PyProof.Rows L2 DL PySem.NumText
/-- cut at each c -/
def splitL (c : Nat) : List Nat → List (List Nat)
  | [] => [[]]
  | a :: r => if a = c then [] :: splitL c r else match splitL c r with
    | p :: q => (a :: p) :: q
    | [] => [[a]]
/-- cut at the first c -/
def breakL (c : Nat) : List Nat → Option (List Nat × List Nat)
  | [] => none
  | a :: r => if a = c then some ([], r) else (breakL c r).map fun p => (a :: p.1, p.2)
def joinL (c : Nat) : List (List Nat) → List Nat
  | [] => []
  | [p] => p
  | p :: q :: r => p ++ c :: joinL c (q :: r)
theorem splitL_free {c : Nat} : ∀ {l : List Nat}, c ∉ l → splitL c l = [l]
  | [], _ => rfl
  | a :: r, h => by
    have h1 : a ≠ c := fun e => h (by rw [e]; exact List.mem_cons_self)
    rw [splitL, if_neg h1, splitL_free fun z => h (List.mem_cons_of_mem _ z)]
theorem splitL_app {c : Nat} : ∀ {p r : List Nat}, c ∉ p → splitL c (p ++ c :: r) = p :: splitL c r
  | [], r, _ => by rw [List.nil_append, splitL, if_pos rfl]
  | a :: p, r, h => by
    have h1 : a ≠ c := fun e => h (by rw [e]; exact List.mem_cons_self)
    rw [List.cons_append, splitL, if_neg h1, splitL_app fun z => h (List.mem_cons_of_mem _ z)]
theorem splitL_join {c : Nat} : ∀ {ps : List (List Nat)}, ps ≠ [] → (∀ p ∈ ps, c ∉ p) → splitL c (joinL c ps) = ps
  | [], h, _ => absurd rfl h
  | [p], _, h => splitL_free (h p List.mem_cons_self)
  | p :: q :: r, _, h => by
    rw [joinL, splitL_app (h p List.mem_cons_self), splitL_join (by simp) fun x hx => h x (List.mem_cons_of_mem _ hx)]
theorem joinL_splitL {c : Nat} : ∀ {l : List Nat}, joinL c (splitL c l) = l ∧ splitL c l ≠ []
  | [] => ⟨rfl, by simp [splitL]⟩
  | a :: r => by
    obtain ⟨h1, h2⟩ := joinL_splitL (c := c) (l := r)
    rw [splitL]
    by_cases e : a = c
    · rw [if_pos e]
      refine ⟨?_, by simp⟩
      cases hs : splitL c r with
      | nil => exact absurd hs h2
      | cons p q => rw [joinL, ← hs, h1, e]; rfl
    · rw [if_neg e]
      cases hs : splitL c r with
      | nil => exact absurd hs h2
      | cons p q =>
        refine ⟨?_, by simp⟩
        rw [hs] at h1
        show joinL c ((a :: p) :: q) = _
        cases q with
        | nil => show a :: p = _; rw [← h1]; rfl
        | cons q q' => show (a :: p) ++ c :: _ = _; rw [← h1]; rfl
theorem splitL_mem {c : Nat} : ∀ {l p : List Nat}, p ∈ splitL c l → c ∉ p ∧ ∀ x ∈ p, x ∈ l
  | [], p, h => by rw [splitL, List.mem_singleton] at h; subst h; simp
  | a :: r, p, h => by
    rw [splitL] at h
    by_cases e : a = c
    · rw [if_pos e] at h
      rcases List.mem_cons.mp h with rfl | h
      · simp
      · obtain ⟨h1, h2⟩ := splitL_mem h
        exact ⟨h1, fun x hx => List.mem_cons_of_mem _ (h2 x hx)⟩
    · rw [if_neg e] at h
      cases hs : splitL c r with
      | nil => exact absurd hs joinL_splitL.2
      | cons q q' =>
        rw [hs] at h
        have h : p ∈ (a :: q) :: q' := h
        rcases List.mem_cons.mp h with rfl | h
        · obtain ⟨h1, h2⟩ := splitL_mem (c := c) (l := r) (p := q) (by rw [hs]; exact List.mem_cons_self)
          refine ⟨fun z => ?_, fun x hx => ?_⟩
          · rcases List.mem_cons.mp z with z | z
            · exact e z.symm
            · exact h1 z
          · rcases List.mem_cons.mp hx with z | z
            · rw [z]; exact List.mem_cons_self
            · exact List.mem_cons_of_mem _ (h2 x z)
        · obtain ⟨h1, h2⟩ := splitL_mem (c := c) (l := r) (p := p) (by rw [hs]; exact List.mem_cons_of_mem _ h)
          exact ⟨h1, fun x hx => List.mem_cons_of_mem _ (h2 x hx)⟩
theorem tl_app (x y : Str) : tl (x ++ y) = tl x ++ tl y := by
  show (x.cps ++ y.cps).toList = _
  simp [tl]
theorem tl_one (c : Nat) : tl ⟨#[c]⟩ = [c] := rfl
theorem tl_join (c : Nat) : ∀ ps : List Str, tl (Str.join ⟨#[c]⟩ ps) = joinL c (ps.map tl)
  | [] => rfl
  | [p] => rfl
  | p :: q :: r => by
    show tl (p ++ ⟨#[c]⟩ ++ Str.join ⟨#[c]⟩ (q :: r)) = _
    rw [tl_app, tl_app, tl_join c (q :: r), tl_one, List.append_assoc]
    rfl
theorem split_eq (x : Str) (c : Nat) : (Txt.split x ⟨#[c]⟩).map tl = splitL c (tl x) := by
  have h1 := StrLaws.join_split x ⟨#[c]⟩
  have h2 := StrLaws.split_free x c
  have h3 := split_pos x ⟨#[c]⟩
  have e : tl x = joinL c ((Txt.split x ⟨#[c]⟩).map tl) := by rw [← tl_join, h1]
  rw [e, splitL_join]
  · intro z
    have := congrArg List.length z
    simp at this
    rw [this] at h3
    exact absurd h3 (by decide)
  · intro p hp
    obtain ⟨q, hq, rfl⟩ := List.mem_map.mp hp
    exact h2 q hq
theorem breakL_none {c : Nat} : ∀ {l : List Nat}, c ∉ l → breakL c l = none
  | [], _ => rfl
  | a :: r, h => by
    have h1 : a ≠ c := fun e => h (by rw [e]; exact List.mem_cons_self)
    rw [breakL, if_neg h1, breakL_none fun z => h (List.mem_cons_of_mem _ z)]
    rfl
theorem breakL_app {c : Nat} : ∀ {p r : List Nat}, c ∉ p → breakL c (p ++ c :: r) = some (p, r)
  | [], r, _ => by rw [List.nil_append, breakL, if_pos rfl]
  | a :: p, r, h => by
    have h1 : a ≠ c := fun e => h (by rw [e]; exact List.mem_cons_self)
    rw [List.cons_append, breakL, if_neg h1, breakL_app fun z => h (List.mem_cons_of_mem _ z)]
    rfl
theorem breakL_some {c : Nat} : ∀ {l p r : List Nat}, breakL c l = some (p, r) → l = p ++ c :: r ∧ c ∉ p
  | [], _, _, h => by cases h
  | a :: l, p, r, h => by
    rw [breakL] at h
    by_cases e : a = c
    · rw [if_pos e] at h
      cases h
      exact ⟨by rw [e]; rfl, by simp⟩
    · rw [if_neg e] at h
      cases hb : breakL c l with
      | none => rw [hb] at h; cases h
      | some q =>
        obtain ⟨p', r'⟩ := q
        rw [hb] at h
        cases h
        obtain ⟨h1, h2⟩ := breakL_some hb
        refine ⟨by rw [h1]; rfl, fun z => ?_⟩
        rcases List.mem_cons.mp z with z | z
        · exact e z.symm
        · exact h2 z
theorem at_one {x : Str} {c i : Nat} : StrLaws.At x ⟨#[c]⟩ x.length i ↔ (tl x)[i]? = some c := by
  rw [← atS_iff]
  unfold atS
  constructor
  · intro h
    obtain ⟨h1, h2⟩ := Bool.and_eq_true_iff.mp h
    have h1' : ¬ ((x.length : Int) < (i : Int) + ((⟨#[c]⟩ : Str).length : Int)) := by simpa using h1
    have h3 : (⟨(((x.cps.toList).drop (i : Int).toNat).take ((i : Int) + ((⟨#[c]⟩ : Str).length : Int) - (i : Int)).toNat).toArray⟩ : Str) = ⟨#[c]⟩ := eq_of_beq h2
    have h4 := congrArg tl h3
    have hl : ((⟨#[c]⟩ : Str).length : Int) = 1 := rfl
    rw [hl] at h4 h1'
    have ei : ((i : Int) + 1 - (i : Int)).toNat = 1 := by omega
    rw [ei] at h4
    have h5 : ((tl x).drop i).take 1 = [c] := by simpa [tl] using h4
    have hi : i < (tl x).length := by rw [← tl_len]; omega
    rw [List.drop_eq_getElem_cons hi] at h5
    rw [List.getElem?_eq_getElem hi]
    rw [List.take_succ_cons, List.take_zero] at h5
    injection h5 with h6
    rw [h6]
  · intro h
    have hi : i < (tl x).length := (List.getElem?_eq_some_iff.mp h).1
    have hg : (tl x)[i] = c := (List.getElem?_eq_some_iff.mp h).2
    refine Bool.and_eq_true_iff.mpr ⟨?_, ?_⟩
    · have hl : ((⟨#[c]⟩ : Str).length : Int) = 1 := rfl
      rw [hl]
      rw [← tl_len] at hi
      simp
      omega
    · have hl : ((⟨#[c]⟩ : Str).length : Int) = 1 := rfl
      rw [hl]
      have ei : ((i : Int) + 1 - (i : Int)).toNat = 1 := by omega
      rw [ei]
      refine beq_iff_eq.mpr (tl_ext ?_)
      show (((tl x).drop i).take 1).toArray.toList = [c]
      rw [List.toList_toArray, List.drop_eq_getElem_cons hi, hg]
      rfl
theorem tl_sub (x : Str) (a b : Nat) : tl (Builtin.Str.strSub x a b) = ((tl x).drop a).take (b - a) := StrLaws.strSub_toList x a b
theorem part_eq (x : Str) (c : Nat) : (breakL c (tl x) = none ∧ Txt.partition x ⟨#[c]⟩ = (x, Str.empty, Str.empty)) ∨
    ∃ p q, breakL c (tl x) = some (tl p, tl q) ∧ Txt.partition x ⟨#[c]⟩ = (p, ⟨#[c]⟩, q) := by
  unfold Txt.partition
  rcases StrLaws.occ_head x ⟨#[c]⟩ 1 (Nat.le_refl 1) with ⟨h0, hn⟩ | ⟨i, r, h0, hi, hn⟩
  · rw [h0]
    refine .inl ⟨breakL_none fun z => ?_, rfl⟩
    obtain ⟨i, hi⟩ := List.mem_iff_getElem?.mp z
    exact hn i (at_one.mpr hi)
  · rw [h0]
    refine .inr ⟨_, _, ?_, rfl⟩
    rw [at_one] at hi
    have hlt : i < (tl x).length := (List.getElem?_eq_some_iff.mp hi).1
    have hg : (tl x)[i] = c := (List.getElem?_eq_some_iff.mp hi).2
    rw [tl_sub, tl_sub]
    have e : tl x = (tl x).take i ++ c :: (tl x).drop (i + 1) := by
      rw [← hg, List.getElem_cons_drop, List.take_append_drop]
    have e2 : breakL c (tl x) = some ((tl x).take i, (tl x).drop (i + 1)) := by
      rw [e]
      have hf : c ∉ (tl x).take i := fun z => by
        obtain ⟨k, hk⟩ := List.mem_iff_getElem?.mp z
        rw [List.getElem?_take] at hk
        split at hk
        · exact hn k ‹_› (at_one.mpr hk)
        · cases hk
      rw [← e]
      exact (congrArg _ e).trans (breakL_app hf)
    rw [e2]
    have hl : (⟨#[c]⟩ : Str).length = 1 := rfl
    rw [hl, List.drop_zero, Nat.sub_zero, List.take_of_length_le (l := (tl x).drop (i + 1)) (by rw [List.length_drop, ← tl_len]; exact Nat.le_refl _)]
theorem starts_one (x : Str) (c : Nat) : Txt.startswith x ⟨#[c]⟩ = decide ((tl x).take 1 = [c]) := by
  rw [Bool.eq_iff_iff, decide_eq_true_iff]
  have h : Txt.startswith x ⟨#[c]⟩ = true ↔ StrLaws.At x ⟨#[c]⟩ x.length 0 := by
    unfold Txt.startswith StrLaws.At
    rw [Bool.and_eq_true, decide_eq_true_iff]
  rw [h, at_one]
  cases tl x with
  | nil => simp
  | cons a r => simp
theorem str_minus : ("-" : Str) = ⟨#[45]⟩ := by decide +kernel
theorem partL {z : Str} {c : Nat} : (Txt.partition z ⟨#[c]⟩).1.length ≤ z.length ∧ (Txt.partition z ⟨#[c]⟩).2.2.length ≤ z.length := by
  rcases part_eq z c with ⟨_, h⟩ | ⟨p, q, h1, h⟩
  · rw [h]; exact ⟨Nat.le_refl _, Nat.zero_le _⟩
  · rw [h]
    have e := (breakL_some h1).1
    have := congrArg List.length e
    rw [List.length_append, List.length_cons] at this
    show p.length ≤ z.length ∧ q.length ≤ z.length
    rw [tl_len, tl_len, tl_len, this]
    omega
theorem str_space : (" " : Str) = ⟨#[32]⟩ := by decide +kernel
theorem str_comma : ("," : Str) = ⟨#[44]⟩ := by decide +kernel
theorem str_is : ("=" : Str) = ⟨#[61]⟩ := by decide +kernel
/-- two integers around the first c -/
def pairB (c : Nat) (l : List Nat) : Option (Int × Int) := match breakL c l with
  | none => none
  | some (p, q) => match numL p, numL q with
    | some a, some b => some (a, b)
    | _, _ => none
def pairO : Option (Int × Int) → D
  | none => .non
  | some (a, b) => .tup [.int a, .int b]
def spPair : DSp := fun vs ms kd _ => ∃ z c, vs = [.str z, .str ⟨#[c]⟩] ∧ z.length ≤ 100000 ∧ kd (pairO (pairB c (tl z))) ms
/-- two integers, one c between them -/
def twoL (c : Nat) (l : List Nat) : Option (Int × Int) := match splitL c l with
  | [p, q] => match numL p, numL q with
    | some a, some b => some (a, b)
    | _, _ => none
  | _ => none
def twoO : Option (Int × Int) → List D
  | none => []
  | some (a, b) => [.int a, .int b]
theorem twoO_len (o : Option (Int × Int)) : (twoO o).length ≤ 2 := by rcases o with _ | ⟨a, b⟩ <;> simp [twoO]
def spTwo : DSp := fun vs ms kd _ => ∃ z c, vs = [.str z, .str ⟨#[c]⟩] ∧ z.length ≤ 90000 ∧ kd (.lst (twoO (twoL c (tl z)))) ms
theorem split_two {z : Str} {c : Nat} (h : (Txt.split z ⟨#[c]⟩).length = 2) : ∃ p q, Txt.split z ⟨#[c]⟩ = [p, q] ∧ splitL c (tl z) = [tl p, tl q] := by
  match e : Txt.split z ⟨#[c]⟩, h with
  | [p, q], _ => exact ⟨p, q, rfl, by rw [← split_eq, e]; rfl⟩
theorem split_nottwo {z : Str} {c : Nat} (h : ¬ (Txt.split z ⟨#[c]⟩).length = 2) : ∀ p q, splitL c (tl z) ≠ [p, q] := fun p q e => by
  rw [← split_eq] at e
  have := congrArg List.length e
  rw [List.length_map] at this
  exact h this
theorem split_len2 {z p : Str} {c : Nat} (h : p ∈ Txt.split z ⟨#[c]⟩) : p.length ≤ z.length := by
  have h1 := split_weight z ⟨#[c]⟩ (Nat.le_refl 1)
  have h2 : ∀ (l : List Str), p ∈ l → p.length + l.length ≤ (l.map (·.length)).sum + l.length := by
    intro l
    induction l with
    | nil => intro h; cases h
    | cons a r ih =>
      intro h
      rw [List.map_cons, List.sum_cons, List.length_cons]
      rcases List.mem_cons.mp h with rfl | h
      · omega
      · have := ih h; omega
  have h3 := h2 _ h
  have h4 := split_pos z ⟨#[c]⟩
  omega
/-- a word: number , pair -/
def wordS (l : List Nat) : Option (Int × Int × Int) := match splitL 44 l with
  | [p, q] => match numL p, twoL 61 q with
    | some a, some (b, c) => if a < 0 ∨ c < 0 then none else some (a, b, c)
    | _, _ => none
  | _ => none
def dueL (l : List Nat) : Option (List (Int × Int × Int)) := if l = [45] then some [] else (splitL 32 l).mapM wordS
def tri (t : Int × Int × Int) : D := .tup [.int t.1, .int t.2.1, .int t.2.2]
def dueD : Option (List (Int × Int × Int)) → D
  | none => .lst []
  | some r => .lst [.lst (r.map tri)]
def spDue : DSp := fun vs ms kd _ => ∃ z, vs = [.str z] ∧ z.length ≤ 80000 ∧ kd (dueD (dueL (tl z))) ms
theorem mapM_snoc {α β : Type} (f : α → Option β) : ∀ (l : List α) (a : α), (l ++ [a]).mapM f = (l.mapM f).bind fun r => (f a).map fun b => r ++ [b]
  | [], a => by
    rw [List.nil_append, List.mapM_cons, List.mapM_nil]
    cases f a <;> rfl
  | x :: l, a => by
    rw [List.cons_append, List.mapM_cons, List.mapM_cons, mapM_snoc f l a]
    cases f x with
    | none => rfl
    | some y =>
      cases l.mapM f with
      | none => rfl
      | some r => cases f a <;> rfl
theorem mapM_take {α β : Type} {f : α → Option β} {l : List α} {i : Nat} {a : α} {r : List β} {b : β} (h : l[i]? = some a) (hr : (l.take i).mapM f = some r) (hb : f a = some b) : (l.take (i + 1)).mapM f = some (r ++ [b]) := by
  rw [List.take_add_one, h]
  show List.mapM f (List.take i l ++ [a]) = _
  rw [mapM_snoc, hr, hb]; rfl
theorem mapM_none {α β : Type} {f : α → Option β} {l : List α} {a : α} (h : a ∈ l) (hb : f a = none) : l.mapM f = none := by
  induction l with
  | nil => cases h
  | cons x r ih =>
    rw [List.mapM_cons]
    rcases List.mem_cons.mp h with rfl | h
    · rw [hb]; rfl
    · rw [ih h]
      cases f x <;> rfl
theorem numL_mem {l : List Nat} {n : Int} (h : numL l = some n) : ∀ x ∈ l, dig x = true ∨ x = 45 := by
  unfold numL at h
  by_cases hm : l.take 1 = [45]
  · rw [if_pos hm] at h
    split at h
    · rename_i h2
      intro x hx
      have e : l = 45 :: l.drop 1 := by
        have := List.take_append_drop 1 l
        rw [hm] at this
        exact this.symm
      rw [e] at hx
      rcases List.mem_cons.mp hx with rfl | hx
      · exact .inr rfl
      · exact .inl (List.all_eq_true.mp h2.2.2.1 x hx)
    · cases h
  · rw [if_neg hm] at h
    split at h
    · rename_i h2
      exact fun x hx => .inl (List.all_eq_true.mp h2.2.2.1 x hx)
    · cases h
theorem breakL_no {c : Nat} : ∀ {l : List Nat}, breakL c l = none → c ∉ l
  | [], _ => by simp
  | a :: r, h => by
    rw [breakL] at h
    by_cases e : a = c
    · rw [if_pos e] at h; cases h
    · rw [if_neg e] at h
      cases hb : breakL c r with
      | none =>
        have := breakL_no hb
        intro z
        rcases List.mem_cons.mp z with z | z
        · exact e z.symm
        · exact this z
      | some q => rw [hb] at h; cases h
theorem splitL_more {c : Nat} {l : List Nat} (h : c ∈ l) : ∃ a b r, splitL c l = a :: b :: r := by
  cases hb : breakL c l with
  | none => exact absurd h (breakL_no hb)
  | some q =>
    obtain ⟨p, q⟩ := q
    obtain ⟨e, f⟩ := breakL_some hb
    rw [e, splitL_app f]
    cases hs : splitL c q with
    | nil => exact absurd hs joinL_splitL.2
    | cons b r => exact ⟨p, b, r, rfl⟩
theorem pairB_mem {c : Nat} {l : List Nat} {a b : Int} (h : pairB c l = some (a, b)) : ∀ x ∈ l, dig x = true ∨ x = 45 ∨ x = c := by
  unfold pairB at h
  cases hb : breakL c l with
  | none => rw [hb] at h; cases h
  | some q =>
    obtain ⟨p, q⟩ := q
    obtain ⟨e, f⟩ := breakL_some hb
    rw [hb] at h
    cases hp : numL p with
    | none => simp only [hp] at h; cases h
    | some n =>
      cases hq : numL q with
      | none => simp only [hp, hq] at h; cases h
      | some m =>
        intro x hx
        rw [e, List.mem_append, List.mem_cons] at hx
        rcases hx with hx | rfl | hx
        · exact (numL_mem hp x hx).imp id .inl
        · exact .inr (.inr rfl)
        · exact (numL_mem hq x hx).imp id .inl
theorem pairB_two {c : Nat} (h1 : dig c = false) (h2 : c ≠ 45) (l : List Nat) : pairB c l = twoL c l := by
  unfold pairB twoL
  cases hb : breakL c l with
  | none => rw [splitL_free (breakL_no hb)]
  | some q =>
    obtain ⟨p, q⟩ := q
    obtain ⟨e, f⟩ := breakL_some hb
    by_cases hc : c ∈ q
    · have hq : numL q = none := by
        cases hq : numL q with
        | none => rfl
        | some m =>
          rcases numL_mem hq c hc with z | z
          · rw [h1] at z; cases z
          · exact absurd z h2
      obtain ⟨a, b, r, hs⟩ := splitL_more hc
      rw [e, splitL_app f, hs]
      simp only [hq]
      cases numL p <;> rfl
    · rw [e, splitL_app f, splitL_free hc]
def wordB (l : List Nat) : Option (Int × Int × Int) := match breakL 44 l with
  | none => none
  | some (p, q) => match numL p, pairB 61 q with
    | some a, some (b, c) => if a < 0 ∨ c < 0 then none else some (a, b, c)
    | _, _ => none
theorem wordB_eq (l : List Nat) : wordB l = wordS l := by
  unfold wordB wordS
  cases hb : breakL 44 l with
  | none => rw [splitL_free (breakL_no hb)]
  | some q =>
    obtain ⟨p, q⟩ := q
    obtain ⟨e, f⟩ := breakL_some hb
    by_cases hc : 44 ∈ q
    · have hq : pairB 61 q = none := by
        cases hq : pairB 61 q with
        | none => rfl
        | some m =>
          obtain ⟨a, b⟩ := m
          rcases pairB_mem hq 44 hc with z | z | z
          · exact absurd z (by decide)
          · exact absurd z (by decide)
          · exact absurd z (by decide)
      obtain ⟨a, b, r, hs⟩ := splitL_more hc
      rw [e, splitL_app f, hs]
      simp only [hq]
      cases numL p <;> rfl
    · rw [e, splitL_app f, splitL_free hc]
      simp only [pairB_two (c := 61) (by decide) (by decide) q]
def spTold : DSp := fun vs ms kd _ => ∃ z, vs = [.str z] ∧ z.length ≤ 80000 ∧ kd (dueD (dueL (tl z))) ms
def spRead (Cu : Addr) : DSp := fun vs ms kd xk => ∃ z, vs = [.str z] ∧ z.length ≤ 80000 ∧ (∀ r, dueL (tl z) = some r → ∀ p, kd (.adr p) ((p, .lst (r.map tri)) :: ms)) ∧ (dueL (tl z) = none → xk Cu (.str z) ms)
end Tx

/-! M3: numbers written and read back. -/
namespace Tx
open PySem PySem.Spec PyProof.Rows L2 DL PySem.NumText
/-- the signs of a natural number -/
def dgs (m : Nat) : List Nat := (Nat.toDigits 10 m).map Char.toNat
theorem dgs_low {m : Nat} (h : m < 10) : dgs m = [48 + m] := by
  unfold dgs
  rw [Nat.toDigits_of_lt_base h]
  have : ∀ d : Nat, d < 10 → [Nat.digitChar d].map Char.toNat = [48 + d] := by decide
  exact this m h
theorem dgs_high {m : Nat} (h : 10 ≤ m) : dgs m = dgs (m / 10) ++ [48 + m % 10] := by
  have hm : m % 10 < 10 := Nat.mod_lt m (by decide)
  have t : Nat.toDigits 10 (m / 10) ++ Nat.toDigits 10 (m % 10) = Nat.toDigits 10 (10 * (m / 10) + m % 10) := Nat.toDigits_append_toDigits (by decide) (by omega) hm
  rw [Nat.div_add_mod] at t
  rw [← dgs_low hm]
  unfold dgs
  rw [← t, List.map_append]
theorem dgs_all (m : Nat) : (dgs m).all dig = true := by
  induction m using Nat.strongRecOn with
  | _ m ih =>
    by_cases h : m < 10
    · rw [dgs_low h]
      unfold dig
      simp
      omega
    · rw [dgs_high (by omega), List.all_append, ih (m / 10) (by omega)]
      have hm : m % 10 < 10 := Nat.mod_lt m (by decide)
      unfold dig
      simp
      omega
theorem dgs_head (m : Nat) : ∃ c r, dgs m = c :: r ∧ (c = 48 → m = 0 ∧ r = []) := by
  induction m using Nat.strongRecOn with
  | _ m ih =>
    by_cases h : m < 10
    · exact ⟨_, _, dgs_low h, fun e => ⟨by omega, rfl⟩⟩
    · obtain ⟨c, r, e, z⟩ := ih (m / 10) (by omega)
      rw [dgs_high (by omega), e]
      exact ⟨c, _, rfl, fun q => by have := (z q).1; omega⟩
theorem dgs_len {m k : Nat} (hk : 0 < k) (h : m < 10 ^ k) : (dgs m).length ≤ k := by
  have := (Nat.length_repr_le_iff (n := m) hk).mpr h
  unfold dgs
  rw [List.length_map, ← Nat.toList_repr]
  exact this
theorem dgs_val (m : Nat) : digitsVal (dgs m) = m := PySem.W.KIN.val_back m
/-- the signs of an integer -/
def sgn : Int → List Nat
  | .ofNat m => dgs m
  | .negSucc m => 45 :: dgs (m + 1)
theorem tl_ofString (s : String) : tl (Str.ofString s) = s.toList.map Char.toNat := by
  rw [Str.ofString_eq_toList]
theorem tl_int (n : Int) : tl (Str.ofString (toString n)) = sgn n := by
  rw [tl_ofString]
  cases n with
  | ofNat m =>
    show (Nat.repr m).toList.map Char.toNat = dgs m
    unfold dgs
    rw [Nat.toList_repr]
  | negSucc m =>
    show ("-" ++ Nat.repr (m + 1)).toList.map Char.toNat = 45 :: dgs (m + 1)
    unfold dgs
    rw [String.toList_append, List.map_append, Nat.toList_repr]
    rfl
theorem sgn_mem {n : Int} {c : Nat} (h : c ∈ sgn n) : dig c = true ∨ c = 45 := by
  cases n with
  | ofNat m => exact .inl (List.all_eq_true.mp (dgs_all m) c h)
  | negSucc m =>
    rcases List.mem_cons.mp h with rfl | h
    · exact .inr rfl
    · exact .inl (List.all_eq_true.mp (dgs_all _) c h)
theorem sgn_len {n : Int} {k : Nat} (hk : 0 < k) (h : n.natAbs < 10 ^ k) : (sgn n).length ≤ k + 1 := by
  cases n with
  | ofNat m => exact Nat.le_succ_of_le (dgs_len hk h)
  | negSucc m => exact Nat.succ_le_succ (dgs_len hk h)
theorem numL_sgn {n : Int} (h : n.natAbs < 10 ^ 40) : numL (sgn n) = some n := by
  cases n with
  | ofNat m =>
    show numL (dgs m) = _
    obtain ⟨c, r, e, z⟩ := dgs_head m
    have ha := dgs_all m
    have hl := dgs_len (by decide) (show m < 10 ^ 40 from h)
    have hc : c ≠ 45 := by
      rintro rfl
      rw [e] at ha
      rw [List.all_cons] at ha
      exact absurd ha (by simp [dig])
    have hz : (dgs m).head? = some 48 → dgs m = [48] := fun q => by
      rw [e] at q
      have q2 : c = 48 := by simpa using q
      obtain ⟨_, rfl⟩ := z q2
      rw [e, q2]
    unfold numL
    rw [if_neg (by rw [e]; simp; exact hc), if_pos ⟨by rw [e]; simp, hl, ha, hz⟩, dgs_val]
    rfl
  | negSucc m =>
    show numL (45 :: dgs (m + 1)) = _
    obtain ⟨c, r, e, z⟩ := dgs_head (m + 1)
    have ha := dgs_all (m + 1)
    have hl := dgs_len (by decide) (show m + 1 < 10 ^ 40 from h)
    have h1 : 1 ≤ (dgs (m + 1)).length := by
      rw [e]
      exact Nat.succ_le_succ (Nat.zero_le _)
    have h4 : ¬ (dgs (m + 1)).head? = some 48 := by
      rw [e]
      intro q
      have q2 : c = 48 := by simpa using q
      have := (z q2).1
      omega
    unfold numL
    rw [if_pos (show List.take 1 (45 :: dgs (m + 1)) = [45] from rfl), if_pos ⟨h1, hl, ha, h4⟩]
    · show some (-((digitsVal (dgs (m + 1)) : Nat) : Int)) = _
      rw [dgs_val]
      exact rfl
/-- a word for a triple -/
def wordT (t : Int × Int × Int) : List Nat := sgn t.1 ++ 44 :: (sgn t.2.1 ++ 61 :: sgn t.2.2)
/-- may be written and read back -/
structure Fit (t : Int × Int × Int) : Prop where
  a0 : 0 ≤ t.1
  c0 : 0 ≤ t.2.2
  a1 : t.1.natAbs < 10 ^ 40
  b1 : t.2.1.natAbs < 10 ^ 40
  c1 : t.2.2.natAbs < 10 ^ 40
theorem no_sgn {n : Int} {c : Nat} (h1 : dig c = false) (h2 : c ≠ 45) : c ∉ sgn n := fun h => by
  rcases sgn_mem h with z | z
  · rw [h1] at z; cases z
  · exact h2 z
theorem wordS_T {t : Int × Int × Int} (f : Fit t) : wordS (wordT t) = some t := by
  have e2 : twoL 61 (sgn t.2.1 ++ 61 :: sgn t.2.2) = some (t.2.1, t.2.2) := by
    unfold twoL
    rw [splitL_app (no_sgn (by decide) (by decide)), splitL_free (no_sgn (by decide) (by decide))]
    simp only [numL_sgn f.b1, numL_sgn f.c1]
  have hc : 44 ∉ sgn t.2.1 ++ 61 :: sgn t.2.2 := by
    rw [List.mem_append, List.mem_cons]
    rintro (h | h | h)
    · exact no_sgn (by decide) (by decide) h
    · exact absurd h (by decide)
    · exact no_sgn (by decide) (by decide) h
  unfold wordS wordT
  rw [splitL_app (no_sgn (by decide) (by decide)), splitL_free hc]
  simp only [numL_sgn f.a1, e2]
  rw [if_neg (by have := f.a0; have := f.c0; omega)]
theorem wordT_no {t : Int × Int × Int} : 32 ∉ wordT t := by
  unfold wordT
  simp only [List.mem_append, List.mem_cons]
  rintro (h | h | h | h | h)
  · exact no_sgn (by decide) (by decide) h
  · exact absurd h (by decide)
  · exact no_sgn (by decide) (by decide) h
  · exact absurd h (by decide)
  · exact no_sgn (by decide) (by decide) h
theorem mapM_all {α β : Type} {f : α → Option β} {g : β → α} {l : List β} (h : ∀ b ∈ l, f (g b) = some b) : (l.map g).mapM f = some l := by
  induction l with
  | nil => rfl
  | cons b r ih =>
    rw [List.map_cons, List.mapM_cons, h b List.mem_cons_self, ih fun c hc => h c (List.mem_cons_of_mem _ hc)]
    rfl
/-- the text of the rows -/
def textL (rows : List (Int × Int × Int)) : List Nat := if rows.isEmpty then [45] else joinL 32 (rows.map wordT)
theorem due_text {rows : List (Int × Int × Int)} (f : ∀ t ∈ rows, Fit t) : dueL (textL rows) = some rows := by
  unfold textL
  cases rows with
  | nil => rfl
  | cons t r =>
    rw [if_neg (by simp)]
    have hs : splitL 32 (joinL 32 ((t :: r).map wordT)) = (t :: r).map wordT := splitL_join (by simp) fun p hp => by
      obtain ⟨u, _, rfl⟩ := List.mem_map.mp hp
      exact wordT_no
    unfold dueL
    rw [if_neg, hs, mapM_all fun b hb => wordS_T (f b hb)]
    intro e
    rw [e] at hs
    have h44 : (44 : Nat) ∈ wordT t := by unfold wordT; simp
    have : wordT t ∈ splitL 32 [45] := by rw [hs]; simp
    have h45 : (44 : Nat) ∈ ([45] : List Nat) := (splitL_mem this).2 44 h44
    exact absurd h45 (by decide)
theorem len_z {z : Str} {l : List Nat} (h : tl z = l) : z.length = l.length := by rw [tl_len, h]
theorem len_int {n : Int} (h : n.natAbs < 10 ^ 40) : (Str.ofString (toString n)).length ≤ 41 := by
  rw [tl_len, tl_int]
  exact sgn_len (by decide) h
theorem fit_log {n : Int} (h : n.natAbs < 10 ^ 40) : n.natAbs.log2 < 1920 := by
  by_cases h0 : n.natAbs = 0
  · rw [h0]; decide
  · exact (Nat.log2_lt h0).mpr (Nat.lt_of_lt_of_le h (Nat.le_trans (show 10 ^ 40 ≤ 2 ^ 200 by decide) (Nat.pow_le_pow_right (by decide) (by decide))))
theorem tl_comma : tl "," = [44] := by decide +kernel
theorem tl_is : tl "=" = [61] := by decide +kernel
theorem tl_empty : tl Str.empty = [] := rfl
def spShow : DSp := fun vs ms kd _ => ∃ d rows, vs = [d] ∧ LsOf ms d (rows.map tri) ∧ rows.length ≤ 600 ∧ (∀ t ∈ rows, Fit t) ∧ ∀ z, tl z = textL rows → kd (.str z) ms
theorem word_len {t : Int × Int × Int} (f : Fit t) : (wordT t).length ≤ 125 := by
  unfold wordT
  have h1 := sgn_len (k := 40) (by decide) f.a1
  have h2 := sgn_len (k := 40) (by decide) f.b1
  have h3 := sgn_len (k := 40) (by decide) f.c1
  simp only [List.length_append, List.length_cons]
  omega
/-- the rows' words as texts -/
structure Wds (rows : List (Int × Int × Int)) (ws : List Str) : Prop where
  tl : ws.map tl = rows.map wordT
  fit : ∀ t ∈ rows, Fit t
theorem wds_sum {rows : List (Int × Int × Int)} {ws : List Str} (h : Wds rows ws) : (ws.map (·.length)).sum ≤ rows.length * 125 ∧ ws.length = rows.length := by
  obtain ⟨h1, h2⟩ := h
  induction rows generalizing ws with
  | nil =>
    cases ws with
    | nil => exact ⟨Nat.le_refl _, rfl⟩
    | cons w r => cases h1
  | cons t r ih =>
    cases ws with
    | nil => cases h1
    | cons w ws =>
      rw [List.map_cons, List.map_cons] at h1
      injection h1 with e1 e2
      obtain ⟨i1, i2⟩ := ih e2 fun x hx => h2 x (List.mem_cons_of_mem _ hx)
      refine ⟨?_, by rw [List.length_cons, List.length_cons, i2]⟩
      rw [List.map_cons, List.sum_cons, List.length_cons, Nat.succ_mul]
      have h3 : w.length ≤ 125 := by rw [tl_len, e1]; exact word_len (h2 t List.mem_cons_self)
      omega
theorem wds_join {rows : List (Int × Int × Int)} {ws : List Str} (h : Wds rows ws) : Tx.tl (Txt.join " " ws) = joinL 32 (rows.map wordT) := by
  show Tx.tl (Builtin.Str.glued " " ws) = _
  rw [StrLaws.glued_eq_join, str_space, tl_join, h.tl]
theorem joinL_len {c : Nat} : ∀ ps : List (List Nat), (joinL c ps).length ≤ (ps.map (·.length)).sum + ps.length
  | [] => Nat.zero_le _
  | [p] => by simp [joinL]
  | p :: q :: r => by
    have := joinL_len (c := c) (q :: r)
    rw [joinL, List.length_append, List.length_cons, List.map_cons, List.sum_cons, List.length_cons]
    omega
theorem wds_len {rows : List (Int × Int × Int)} {ws : List Str} (h : Wds rows ws) : (Txt.join " " ws).length ≤ rows.length * 126 := by
  rw [tl_len, wds_join h]
  obtain ⟨h1, h2⟩ := wds_sum h
  have := joinL_len (c := 32) (rows.map wordT)
  rw [← h.tl] at this ⊢
  rw [List.map_map, List.length_map] at this
  have e : (ws.map (List.length ∘ Tx.tl)).sum = (ws.map (·.length)).sum := by
    refine congrArg List.sum (List.map_congr_left fun w _ => ?_)
    exact (tl_len w).symm
  rw [e] at this
  omega
theorem wds_text {rows : List (Int × Int × Int)} {ws : List Str} (h : Wds rows ws) : (((Txt.join " " ws).length : Int) != 0) = !rows.isEmpty ∧ (rows.isEmpty = false → Tx.tl (Txt.join " " ws) = textL rows) := by
  have e := wds_join h
  cases rows with
  | nil =>
    refine ⟨?_, fun z => by cases z⟩
    rw [tl_len, e]
    decide
  | cons t r =>
    refine ⟨?_, fun _ => ?_⟩
    · have h44 : 44 ∈ joinL 32 ((t :: r).map wordT) := by
        have hw : (44 : Nat) ∈ wordT t := by unfold wordT; simp
        cases r with
        | nil => exact hw
        | cons u v => show 44 ∈ wordT t ++ _; exact List.mem_append_left _ hw
      rw [tl_len, e]
      have := List.length_pos_of_mem h44
      rw [bne_iff_ne.mpr (by omega)]
      exact rfl
    · rw [e]
      unfold textL
      rw [if_neg (by simp)]
theorem text_nil : textL [] = [45] := rfl
theorem sum_set {l : List Nat} {i x : Nat} : (l.set i x).sum ≤ l.sum + x := by
  induction l generalizing i with
  | nil => simp
  | cons a r ih =>
    cases i with
    | zero => rw [List.set_cons_zero, List.sum_cons, List.sum_cons]; omega
    | succ i =>
      rw [List.set_cons_succ, List.sum_cons, List.sum_cons]
      have := ih (i := i)
      omega
theorem swap_len {ws : List Str} {i j : Nat} {a b : Str} : (((ws.set i a).set j b).map (·.length)).sum ≤ (ws.map (·.length)).sum + a.length + b.length := by
  rw [List.map_set, List.map_set]
  have h1 := sum_set (l := (ws.map (·.length)).set i a.length) (i := j) (x := b.length)
  have h2 := sum_set (l := ws.map (·.length)) (i := i) (x := a.length)
  omega
theorem txt_join_len (ws : List Str) : (Txt.join " " ws).length ≤ (ws.map (·.length)).sum + ws.length := by
  show (Builtin.Str.glued " " ws).length ≤ _
  rw [StrLaws.glued_eq_join]
  have := StrLaws.join_length_le " " ws
  have h : (" " : Str).length = 1 := by decide +kernel
  rw [h] at this
  omega
end Tx

/-! M4: what is read is not great; what it shows. -/
namespace Tx
open PySem PySem.Spec PyProof.Rows L2 DL PySem.NumText
theorem val_lt : ∀ (l : List Nat) (a : Nat), l.all dig = true → l.foldl (fun acc c => acc * 10 + (c - 48)) a < (a + 1) * 10 ^ l.length
  | [], a, _ => by simp
  | c :: r, a, h => by
    rw [List.all_cons, Bool.and_eq_true] at h
    have hc : c - 48 ≤ 9 := by
      have := h.1
      unfold dig at this
      simp at this
      omega
    have h2 := val_lt r (a * 10 + (c - 48)) h.2
    rw [List.foldl_cons, List.length_cons, Nat.pow_succ]
    refine Nat.lt_of_lt_of_le h2 ?_
    have h3 : a * 10 + (c - 48) + 1 ≤ (a + 1) * 10 := by omega
    calc (a * 10 + (c - 48) + 1) * 10 ^ r.length ≤ ((a + 1) * 10) * 10 ^ r.length := Nat.mul_le_mul_right _ h3
      _ = (a + 1) * (10 ^ r.length * 10) := by rw [Nat.mul_assoc, Nat.mul_comm 10]
theorem digits_lt {l : List Nat} (h : l.all dig = true) (hl : l.length ≤ 40) : digitsVal l < 10 ^ 40 := by
  have := val_lt l 0 h
  rw [Nat.zero_add, Nat.one_mul] at this
  exact Nat.lt_of_lt_of_le this (Nat.pow_le_pow_right (by decide) hl)
theorem numL_lt {l : List Nat} {n : Int} (h : numL l = some n) : n.natAbs < 10 ^ 40 := by
  unfold numL at h
  by_cases hm : l.take 1 = [45]
  · rw [if_pos hm] at h
    split at h
    · rename_i h2
      cases h
      rw [Int.natAbs_neg]
      exact digits_lt h2.2.2.1 h2.2.1
    · cases h
  · rw [if_neg hm] at h
    split at h
    · rename_i h2
      cases h
      exact digits_lt h2.2.2.1 h2.2.1
    · cases h
theorem twoL_lt {c : Nat} {l : List Nat} {a b : Int} (h : twoL c l = some (a, b)) : a.natAbs < 10 ^ 40 ∧ b.natAbs < 10 ^ 40 := by
  unfold twoL at h
  split at h
  · rename_i p q hs
    cases hp : numL p with
    | none => simp only [hp] at h; cases h
    | some n =>
      cases hq : numL q with
      | none => simp only [hp, hq] at h; cases h
      | some m =>
        simp only [hp, hq] at h
        cases h
        exact ⟨numL_lt hp, numL_lt hq⟩
  · cases h
theorem wordS_lt {l : List Nat} {t : Int × Int × Int} (h : wordS l = some t) : t.1.natAbs < 10 ^ 40 ∧ t.2.1.natAbs < 10 ^ 40 ∧ t.2.2.natAbs < 10 ^ 40 := by
  unfold wordS at h
  split at h
  · rename_i p q hs
    cases hp : numL p with
    | none => simp only [hp] at h; cases h
    | some n =>
      cases hq : twoL 61 q with
      | none => simp only [hp, hq] at h; cases h
      | some m =>
        obtain ⟨b, c⟩ := m
        simp only [hp, hq] at h
        split at h
        · cases h
        · cases h
          exact ⟨numL_lt hp, (twoL_lt hq).1, (twoL_lt hq).2⟩
  · cases h
theorem mapM_mem {α β : Type} {f : α → Option β} : ∀ {l : List α} {r : List β}, l.mapM f = some r → (∀ b ∈ r, ∃ a, a ∈ l ∧ f a = some b) ∧ r.length = l.length
  | [], r, h => by
    rw [List.mapM_nil] at h
    cases h
    exact ⟨fun b hb => (by cases hb), rfl⟩
  | x :: l, r, h => by
    rw [List.mapM_cons] at h
    cases hx : f x with
    | none => rw [hx] at h; cases h
    | some y =>
      cases hl : l.mapM f with
      | none => rw [hx, hl] at h; cases h
      | some r' =>
        rw [hx, hl] at h
        cases h
        obtain ⟨i1, i2⟩ := mapM_mem hl
        refine ⟨fun b hb => ?_, by rw [List.length_cons, List.length_cons, i2]⟩
        rcases List.mem_cons.mp hb with rfl | hb
        · exact ⟨x, List.mem_cons_self, hx⟩
        · obtain ⟨a, h1, h2⟩ := i1 b hb
          exact ⟨a, List.mem_cons_of_mem _ h1, h2⟩
theorem splitL_len {c : Nat} : ∀ l : List Nat, (splitL c l).length ≤ l.length + 1
  | [] => by simp [splitL]
  | a :: r => by
    have := splitL_len (c := c) r
    rw [splitL]
    split
    · rw [List.length_cons, List.length_cons]; omega
    · cases hs : splitL c r with
      | nil => exact absurd hs joinL_splitL.2
      | cons p q =>
        rw [hs] at this
        rw [List.length_cons] at this ⊢
        rw [List.length_cons]
        omega
theorem tri_shw {t : Int × Int × Int} (h : t.1.natAbs < 10 ^ 40 ∧ t.2.1.natAbs < 10 ^ 40 ∧ t.2.2.natAbs < 10 ^ 40) : Shw (tri t) 1 132 := by
  have hp : (10 : Nat) ^ 40 ≤ 2 ^ 1920 := Nat.le_trans (show 10 ^ 40 ≤ 2 ^ 200 by decide) (Nat.pow_le_pow_right (by decide) (by decide))
  have := Shw.tup (xs := [.int t.1, .int t.2.1, .int t.2.2]) (n := 0) (m := 41) (fun x hx => by
    rcases List.mem_cons.mp hx with rfl | hx
    · exact Shw.int (by decide) h.1 hp
    · rcases List.mem_cons.mp hx with rfl | hx
      · exact Shw.int (by decide) h.2.1 hp
      · rcases List.mem_cons.mp hx with rfl | hx
        · exact Shw.int (by decide) h.2.2 hp
        · cases hx) (l := 3) (Nat.le_refl _)
  exact this
theorem due_shw {l : List Nat} (hl : l.length ≤ 50000) : ∃ xs, dueD (dueL l) = .lst xs ∧ Shw (.lst xs) 3 16000000 := by
  cases h : dueL l with
  | none =>
    refine ⟨[], rfl, ?_⟩
    have := Shw.lst (xs := []) (n := 2) (m := 0) (fun x hx => by cases hx) (l := 1) (by decide)
    exact ⟨this.pl, this.sh, this.hd, this.dp, Nat.le_trans this.ln (by decide)⟩
  | some r =>
    refine ⟨_, rfl, ?_⟩
    have hr : (∀ t ∈ r, t.1.natAbs < 10 ^ 40 ∧ t.2.1.natAbs < 10 ^ 40 ∧ t.2.2.natAbs < 10 ^ 40) ∧ r.length ≤ 50001 := by
      unfold dueL at h
      split at h
      · cases h
        exact ⟨fun t ht => (by cases ht), by decide⟩
      · obtain ⟨i1, i2⟩ := mapM_mem h
        have := splitL_len (c := 32) l
        exact ⟨fun t ht => let ⟨a, _, h2⟩ := i1 t ht; wordS_lt h2, by omega⟩
    have h1 := Shw.lst (xs := r.map tri) (n := 1) (m := 132) (fun x hx => by
      obtain ⟨t, ht, rfl⟩ := List.mem_map.mp hx
      exact tri_shw (hr.1 t ht)) (l := 50001) (by rw [List.length_map]; exact hr.2)
    have h2 := Shw.lst (xs := [.lst (r.map tri)]) (fun x hx => by
      rw [List.mem_singleton] at hx
      subst hx
      exact h1) (l := 1) (Nat.le_refl _)
    exact ⟨h2.pl, h2.sh, h2.hd, h2.dp, Nat.le_trans h2.ln (by decide)⟩
theorem eqs_tri (a b : Int × Int × Int) : EqS 1 (tri a) (tri b) (decide (a = b)) := by
  refine (EqS.three EqS.intD EqS.intD EqS.intD).cast ?_
  obtain ⟨a1, a2, a3⟩ := a
  obtain ⟨b1, b2, b3⟩ := b
  rw [Bool.eq_iff_iff]
  simp [and_assoc]
def spRight (j : Nat) : DSp := fun vs ms kd _ => ∃ p n ms0, vs = [.adr p] ∧ ms = (p, poolM n) :: ms0 ∧ n + j < 2 ^ 30 ∧ kd (.bl true) ((p, poolM (n + j)) :: ms0)
def spPool : DSp := fun vs ms kd xk => ∃ ns i, vs = [.scr ns, .int i] ∧ 0 ≤ i ∧ i < 1000 ∧ ∀ p, kd (.adr p) ((p, poolM 0) :: ms)
def spLaw : DSp := fun vs ms kd _ => ∃ ns, vs = [.scr ns] ∧ ns.length ≤ 16777216 ∧ kd (.bl true) ms
end Tx

namespace K63
open PySem PySem.Spec PyProof.Rows L2 DL
def topS (i : Nat) : Stmt := PySem.Challenge.pw_grownrows_k63_seen_cells_in_texts.main.body.getD i (.Pass ⟨0, 0, 0, 0⟩)
def inS (i j : Nat) : Stmt := match topS i with
  | .ClassDef (body := b) .. => b.getD j (.Pass ⟨0, 0, 0, 0⟩)
  | s => s
abbrev s_GrowthError_init : Stmt := inS 1 0
abbrev s_show_seen : Stmt := topS 6
theorem sc_show_seen : FnScope ["seen_cells", "number", "place", "value"] ["seen_cells"] (defScope s_show_seen) := ⟨rfl, rfl, rfl, by decide +kernel, rfl, by decide +kernel, by decide +kernel⟩
abbrev s_number_in : Stmt := topS 10
theorem sc_number_in : FnScope ["text", "digits", "sign"] ["text"] (defScope s_number_in) := ⟨rfl, rfl, rfl, by decide +kernel, rfl, by decide +kernel, by decide +kernel⟩
abbrev s_pair_in : Stmt := topS 11
theorem sc_pair_in : FnScope ["text", "glue", "ahead", "sign", "behind", "found"] ["text", "glue"] (defScope s_pair_in) := ⟨rfl, rfl, rfl, by decide +kernel, rfl, by decide +kernel, by decide +kernel⟩
abbrev s_read_seen : Stmt := topS 12
theorem sc_read_seen : FnScope ["text", "found", "word", "ahead", "comma", "behind", "number", "pair"] ["text"] (defScope s_read_seen) := ⟨rfl, rfl, rfl, by decide +kernel, rfl, by decide +kernel, by decide +kernel⟩
abbrev s__law_pool : Stmt := topS 14
theorem sc__law_pool : FnScope ["script", "spot", "cell"] ["script", "spot"] (defScope s__law_pool) := ⟨rfl, rfl, rfl, by decide +kernel, rfl, by decide +kernel, by decide +kernel⟩
abbrev s__law_draw : Stmt := topS 15
theorem sc__law_draw : FnScope ["pool", "many", "drawn", "mixed"] ["pool", "many"] (defScope s__law_draw) := ⟨rfl, rfl, rfl, by decide +kernel, rfl, by decide +kernel, by decide +kernel⟩
abbrev s__law_integer : Stmt := topS 16
theorem sc__law_integer : FnScope ["wording", "digits", "sign"] ["wording"] (defScope s__law_integer) := ⟨rfl, rfl, rfl, by decide +kernel, rfl, by decide +kernel, by decide +kernel⟩
abbrev s__law_two : Stmt := topS 17
theorem sc__law_two : FnScope ["wording", "glue", "some", "told"] ["wording", "glue"] (defScope s__law_two) := ⟨rfl, rfl, rfl, by decide +kernel, rfl, by decide +kernel, by decide +kernel⟩
abbrev s__law_longer : Stmt := topS 18
theorem sc__law_longer : FnScope ["pool", "wording", "begins", "spot", "begin", "end"] ["pool", "wording"] (defScope s__law_longer) := ⟨rfl, rfl, rfl, by decide +kernel, rfl, by decide +kernel, by decide +kernel⟩
abbrev s__law_changed : Stmt := topS 19
theorem sc__law_changed : FnScope ["pool", "wording", "size", "way", "signs", "spot", "sign", "menu", "some", "one", "two", "part"] ["pool", "wording"] (defScope s__law_changed) := ⟨rfl, rfl, rfl, by decide +kernel, rfl, by decide +kernel, by decide +kernel⟩
abbrev s__law_due : Stmt := topS 20
theorem sc__law_due : FnScope ["wording", "found", "part", "some", "told"] ["wording"] (defScope s__law_due) := ⟨rfl, rfl, rfl, by decide +kernel, rfl, by decide +kernel, by decide +kernel⟩
abbrev s__law_told : Stmt := topS 21
theorem sc__law_told : FnScope ["wording", "e"] ["wording"] (defScope s__law_told) := ⟨rfl, rfl, rfl, by decide +kernel, rfl, by decide +kernel, by decide +kernel⟩
abbrev s__law_right : Stmt := topS 22
theorem sc__law_right : FnScope ["pool", "lines", "far", "turn", "parts", "wording", "told", "bent", "many", "spot", "size"] ["pool"] (defScope s__law_right) := ⟨rfl, rfl, rfl, by decide +kernel, rfl, by decide +kernel, by decide +kernel⟩
abbrev s_law : Stmt := topS 23
theorem sc_law : FnScope ["script", "spot", "pool", "turn"] ["script"] (defScope s_law) := ⟨rfl, rfl, rfl, by decide +kernel, rfl, by decide +kernel, by decide +kernel⟩
end K63

namespace K63
open PySem PySem.Spec PyProof.Rows L2 DL Tx
local macro_rules | `(tactic| kspl_open x_nm) => `(tactic| with_reducible first | exact .z | exact .s .z | exact .s (.s .z) | exact .s (.s (.s .z)) | exact .s (.s (.s (.s .z))) | exact .s (.s (.s (.s (.s .z)))) | exact .s (.s (.s (.s (.s (.s .z))))) | exact .s (.s (.s (.s (.s (.s (.s .z)))))) | exact .s (.s (.s (.s (.s (.s (.s (.s .z))))))) | exact .s (.s (.s (.s (.s (.s (.s (.s (.s .z)))))))) | exact .s (.s (.s (.s (.s (.s (.s (.s (.s (.s .z))))))))) | exact .s (.s (.s (.s (.s (.s (.s (.s (.s (.s (.s .z)))))))))) | exact .s (.s (.s (.s (.s (.s (.s (.s (.s (.s (.s (.s .z))))))))))) | exact .s (.s (.s (.s (.s (.s (.s (.s (.s (.s (.s (.s (.s .z)))))))))))) | exact .s (.s (.s (.s (.s (.s (.s (.s (.s (.s (.s (.s (.s (.s .z))))))))))))) | exact .s (.s (.s (.s (.s (.s (.s (.s (.s (.s (.s (.s (.s (.s (.s .z)))))))))))))) | exact .s (.s (.s (.s (.s (.s (.s (.s (.s (.s (.s (.s (.s (.s (.s (.s .z))))))))))))))) | exact .s (.s (.s (.s (.s (.s (.s (.s (.s (.s (.s (.s (.s (.s (.s (.s (.s .z)))))))))))))))) | exact .s (.s (.s (.s (.s (.s (.s (.s (.s (.s (.s (.s (.s (.s (.s (.s (.s (.s .z))))))))))))))))) | exact .s (.s (.s (.s (.s (.s (.s (.s (.s (.s (.s (.s (.s (.s (.s (.s (.s (.s (.s .z)))))))))))))))))) | exact .s (.s (.s (.s (.s (.s (.s (.s (.s (.s (.s (.s (.s (.s (.s (.s (.s (.s (.s (.s .z))))))))))))))))))) | exact .s (.s (.s (.s (.s (.s (.s (.s (.s (.s (.s (.s (.s (.s (.s (.s (.s (.s (.s (.s (.s .z)))))))))))))))))))) | assumption)
local macro_rules | `(tactic| kspl_open x_ctx) => `(tactic| first | assumption | exact Ctx.blk (by assumption) _ _ _ _ _)
local macro_rules | `(tactic| kspl_open x_vis) => `(tactic| first | exact Or.inl rfl | exact Or.inr (Or.inl rfl) | exact Or.inr (Or.inr rfl))
local macro_rules | `(tactic| kspl_open x_loc) => `(tactic| first | exact Or.inl rfl | exact Or.inr rfl)
local macro_rules | `(tactic| kspl_open x_mark) => `(tactic| first | exact nobehind _ (by decide) (by decide) | rfl)
local macro_rules | `(tactic| kspl_open x_name) => `(tactic| first | ((with_reducible refine' de_name ?dc ?dn ?dv ?d1 ?d2 ?_); (case dc => kspl_open x_ctx); (case dn => kspl_open x_nm); (case dv => kspl_open x_vis); (case d1 => decide); (case d2 => decide)) | ((with_reducible refine' de_nameS ?dc ?dn ?dv ?d1 ?d2 ?_); (case dc => assumption); (case dn => kspl_open x_nm); (case dv => kspl_open x_vis); (case d1 => decide); (case d2 => decide)))
local macro_rules | `(tactic| kspl_open x_bcall) => `(tactic| ((with_reducible refine' de_callB ?dv ?dm ?dh ?dg ?dn ?dd ?de ?dp); (case dv => with_reducible first | exact bt_len | exact bt_abs | exact bt_max | exact bt_min | exact bt_all | exact bt_any | exact bt_sum | exact bt_sorted | exact bt_repr | exact bt_isinstance); (case dm => assumption); (case dg => rfl); (case dn => decide); (case dd => decide); (case de => rfl); (case dp => rfl)))
local macro_rules | `(tactic| kspl_open x_tcall) => `(tactic| ((with_reducible refine' de_callT ?dv ?dm ?dh ?dg ?dn ?dd ?de ?dp); (case dv => with_reducible first | exact bt_int | exact bt_str | exact bt_list | exact bt_tuple | exact bt_dict | exact bt_set | exact bt_bool); (case dm => assumption); (case dg => rfl); (case dn => decide); (case dd => decide); (case de => rfl); (case dp => rfl)))
local macro_rules | `(tactic| kspl_open x_arg) => `(tactic| first | ((with_reducible refine' da_cons ?da ?db); (case db => rfl)) | ((with_reducible refine' da_star ?da ?db); (case db => rfl); (case' da => skip)))
local macro_rules | `(tactic| kspl_open x_cmp) => `(tactic| ((with_reducible first | refine dt_cmp ?da ?db | refine de_cmp ?da ?db)); (case db => kspl_open x_mark))
local macro_rules | `(tactic| kspl_open x_chain) => `(tactic| ((with_reducible first | refine dt_chain ?da ?db | refine de_chain ?da ?db)); (case db => with_unfolding_all rfl))
local macro_rules | `(tactic| kspl_open x_truth) => `(tactic| ((with_reducible refine dt_truth ?da ?db); (case db => intro _; rfl)))
local macro_rules | `(tactic| kspl_open x_e1) => `(tactic| with_reducible first | refine de_int ?_ | refine de_str ?_ | refine de_bl ?_ | refine de_non ?_ | refine de_bin ?_ | refine de_un ?_ | refine de_slice ?_ | refine de_ix ?_ | refine do_none ?_ | refine do_some ?_ | refine de_ifExp ?_ | refine da_nil ?_ | refine dk_nil ?_ | refine dk_cons ?_ | refine de_tup ?_ | refine de_or ?_ | refine de_and ?_ | refine de_one ?_ | refine de_not ?_ | refine de_joined ?_ | refine dj_cons ?_ | refine dj_nil ?_ | refine de_fmtI ?_ | refine dt_not ?_ | refine dt_bool ?_ | refine dw_and ?_ | refine dw_or ?_ | refine dw_and1 ?_ | refine dw_or1 ?_)
local macro_rules | `(tactic| kspl_open x_op) => `(tactic| with_reducible first | refine opd_add ?_ | refine opd_sub ?_ | refine opd_lt ?_ | refine opd_le ?_ | refine opd_gt ?_ | refine opd_ge ?_ | refine opd_eq ?_ | refine opd_ne ?_ | refine opd_eqS ?_ | refine opd_neS ?_ | refine opd_eqB ?_ | refine opd_neB ?_ | refine opd_isN ?_ | refine opd_notN ?_ | refine und_neg ?_ | refine opd_inC ?_ | refine opd_notInC ?_ | refine opd_iadd ?_ | refine opd_isub ?_ | refine cad_intI ?_ | refine cad_intB ?_ | refine cad_abs ?_ | (refine' cad_max2 ?dc ?_; (case dc => kspl_open x_ctx)) | (refine' cad_min2 ?dc ?_; (case dc => kspl_open x_ctx)) | refine cad_lenC ?_ | refine cad_lenT ?_ | refine trd_bl ?_ | refine trd_int ?_ | refine trd_non ?_)
local macro_rules | `(tactic| kspl_open x_ls) => `(tactic| with_reducible first | exact LsOf.f | exact LsOf.m (by kspl_open x_nm))
local macro_rules | `(tactic| kspl_open x_ixl) => `(tactic| first | ((with_reducible refine' cad_tupleL ?dl ?_); (case dl => kspl_open x_ls)) | (with_reducible refine cad_tupleT ?_) | ((with_reducible refine' ixd_ls ?dl ?da ?di ?_); (case dl => kspl_open x_ls); (case da => rfl); (case di => intro _ _; rfl)) | ((with_reducible refine' cad_lenL ?dl ?_); (case dl => kspl_open x_ls)) | ((with_reducible refine' trd_ls ?dl ?_); (case dl => kspl_open x_ls)) | ((with_reducible refine' opd_cat ?dl ?dm ?dn ?_); (case dl => kspl_open x_ls); (case dm => kspl_open x_ls); (case dn => kspl_open x_len)) | ((with_reducible refine' ixd_tup ?da ?di ?_); (case da => rfl); (case di => intro _ _; rfl)))
local macro_rules | `(tactic| kspl_open x_st1) => `(tactic| first | ((with_reducible refine' ds_expr ?da ?db); (case db => rfl); (case' da => skip)) | with_reducible first | refine ds_if ?_ | refine ds_ret ?_ | refine ds_retN ?_ | refine ds_break ?_ | refine ds_cont ?_ | refine ds_pass ?_)
local macro_rules | `(tactic| kspl_open x_set) => `(tactic| ((with_reducible refine' ds_set ?dc ?di ?dh ?dx ?ds ?df); (case dc => kspl_open x_ctx); (case di => kspl_open x_nm); (case dx => kspl_open x_loc); (case ds => rfl); (case df => kspl_open x_loc)))
local macro_rules | `(tactic| kspl_open x_asg) => `(tactic| ((with_reducible refine' ds_asg ?da ?ds ?dw ?d1); (case ds => rfl); (case dw => rfl); (case d1 => rfl); (case' da => skip)))
local macro_rules | `(tactic| kspl_open x_put) => `(tactic| ((with_reducible refine' ex_put ?pp ?_); (case pp => kspl_open x_nm)))
local macro_rules | `(tactic| kspl_open x_dgs) => `(tactic| ((with_reducible refine dg_sub ?da ?db); (case db => intro _; rfl)))
local macro_rules | `(tactic| kspl_open x_par) => `(tactic| ((with_reducible refine' ds_par ?dc ?di ?dj ?da ?dn ?dx ?dy ?dw ?ds); (case dc => kspl_open x_ctx); (case di => kspl_open x_nm); (case dj => kspl_open x_nm); (case dn => decide); (case dx => rfl); (case dy => rfl); (case dw => rfl); (case ds => rfl); (case' da => skip)))
local macro_rules | `(tactic| kspl_open x_raise) => `(tactic| ((with_reducible refine' ds_raise ?dt ?dc ?da ?dg ?dd ?de ?dp); (case dt => assumption); (case dc => kspl_open x_ctx); (case dg => rfl); (case dd => decide); (case de => rfl); (case dp => rfl); (case' da => skip)))
local macro_rules | `(tactic| kspl_open x_dgn) => `(tactic| ((with_reducible refine' dg_name ?dc ?di ?dp ?_ ?dx ?df); (case dc => kspl_open x_ctx); (case di => kspl_open x_nm); (case dp => kspl_open x_nm); (case dx => kspl_open x_loc); (case df => kspl_open x_loc)))
local macro_rules | `(tactic| kspl_open x_dgt) => `(tactic| first | ((with_reducible refine' dg_tup ?dc ?dn ?dl ?dk ?ds); (case dc => kspl_open x_ctx); (case dl => rfl); (case dk => rfl); (case ds => rfl); (case' dn => skip)) | ((with_reducible refine' dgs_cons ?da ?db); (case db => rfl); (case' da => skip)) | (with_reducible refine dgs_nil ?_))
local macro_rules | `(tactic| kspl_open x_s) => `(tactic| first | kspl_open x_st1 | kspl_open x_par | kspl_open x_raise | kspl_open x_set | kspl_open x_asg | kspl_open x_dgn | kspl_open x_dgt | kspl_open x_dgs)
local macro_rules | `(tactic| kspl_open x_ex) => `(tactic| first | (with_reducible refine ⟨_, rfl, ?_⟩) | ((with_reducible refine' ex_par ?dp ?dq ?_); (case dp => kspl_open x_nm); (case dq => kspl_open x_nm)) | (with_reducible refine br_t ?_) | (with_reducible refine br_f ?_) | (with_reducible refine br_nt ?_) | (with_reducible refine br_nf ?_) | (refine And.intro (len_ok (Nat.le_of_ble_eq_true rfl)) ?_))
local macro_rules | `(tactic| kspl_open x_mul) => `(tactic| first | ((with_reducible refine' opd_mul ?c ?_); (case c => first | exact mul_l (by omega) (by omega) | exact mul_r (by omega) (by omega))) | ((with_reducible refine' opd_mod ?c ?_); (case c => first | assumption | omega | decide)) | ((with_reducible refine' opd_div ?c ?_); (case c => first | exact divW_small (by omega) (by omega) | exact divW_mid (by omega) (by assumption))))
local macro_rules | `(tactic| kspl_open x_glob) => `(tactic| first | ((with_reducible refine' de_globI ?dm ?dg ?dd ?_); (case dm => assumption); (case dg => rfl); (case dd => decide)) | ((with_reducible refine' de_globS ?dm ?dg ?dd ?_); (case dm => assumption); (case dg => rfl); (case dd => decide)))
local macro_rules | `(tactic| kspl_open x_len) => `(tactic| first | exact len_ok (by assumption) | exact len_ok (by omega) | exact len_ok (by decide) | exact len_ok (Nat.le_of_ble_eq_true rfl))
local macro_rules | `(tactic| kspl_open x_txt) => `(tactic| first | ((with_reducible refine' opd_addS ?dc ?_); (case dc => kspl_open x_len)) | ((with_reducible refine' sld_str ?dc ?_); (case dc => kspl_open x_len)) | ((with_reducible refine' cad_lenS ?dc ?_); (case dc => kspl_open x_len)) | ((with_reducible refine' trd_str ?dc ?_); (case dc => kspl_open x_len)))
local macro_rules | `(tactic| kspl_open x_meth) => `(tactic| ((with_reducible first | refine' de_m PySem.F.plainAttrs_str PySem.F.slot_str_split PySem.F.type_str_split ?da ?hb ?hf ?hl ?hs ?hp | refine' de_m PySem.F.plainAttrs_str PySem.F.slot_str_partition PySem.F.type_str_partition ?da ?hb ?hf ?hl ?hs ?hp | refine' de_m PySem.F.plainAttrs_str PySem.F.slot_str_join PySem.F.type_str_join ?da ?hb ?hf ?hl ?hs ?hp | refine' de_m PySem.F.plainAttrs_str PySem.F.slot_str_startswith PySem.F.type_str_startswith ?da ?hb ?hf ?hl ?hs ?hp | refine' de_m PySem.F.plainAttrs_str PySem.F.slot_str_endswith PySem.F.type_str_endswith ?da ?hb ?hf ?hl ?hs ?hp | refine' de_m PySem.F.plainAttrs_str PySem.F.slot_str_isdigit PySem.F.type_str_isdigit ?da ?hb ?hf ?hl ?hs ?hp | refine' de_m PySem.F.plainAttrs_str PySem.F.slot_str_replace PySem.F.type_str_replace ?da ?hb ?hf ?hl ?hs ?hp | refine' de_m PySem.F.plainAttrs_list PySem.F.slot_list_append PySem.F.type_list_append ?da ?hb ?hf ?hl ?hs ?hp | refine' de_m PySem.F.plainAttrs_list PySem.F.slot_list_extend PySem.F.type_list_extend ?da ?hb ?hf ?hl ?hs ?hp | refine' de_m PySem.F.plainAttrs_list PySem.F.slot_list_insert PySem.F.type_list_insert ?da ?hb ?hf ?hl ?hs ?hp); (case hb => rfl); (case hf => rfl); (case hl => rfl); (case hs => rfl); (case hp => rfl); (case' da => skip)))
local macro_rules | `(tactic| kspl_open x_meth0) => `(tactic| ((with_reducible first | refine' de_m0 PySem.F.plainAttrs_str PySem.F.slot_str_isdigit PySem.F.type_str_isdigit ?da ?hb ?hl); (case hb => rfl); (case hl => rfl); (case' da => skip)))
local macro_rules | `(tactic| kspl_open x_ty) => `(tactic| first | (with_reducible refine ty_str ?_) | ((with_reducible refine' ty_ls ?dl ?_); (case dl => kspl_open x_ls)) | ((with_reducible refine' ty_dic ?dl ?_); (case dl => kspl_open x_nm)))
local macro_rules | `(tactic| kspl_open x_len2) => `(tactic| first | assumption | omega | exact len_lt (by assumption) | exact len_lt (by omega))
local macro_rules | `(tactic| kspl_open x_mt) => `(tactic| first | (with_reducible refine mtd_startswith ?_) | (with_reducible refine mtd_endswith ?_) | (with_reducible refine mtd_isdigit ?_) | ((with_reducible refine' mtd_split ?dy ?dz ?_); (case dy => rfl); (case dz => kspl_open x_len)) | ((with_reducible refine' mtd_partition ?dy ?dz ?_); (case dy => rfl); (case dz => kspl_open x_len)) | ((with_reducible refine' mtd_append ?dm ?dp ?dl ?_); (case dm => kspl_open x_nm); (case dp => kspl_open x_nm); (case dl => kspl_open x_len2)))
local macro_rules | `(tactic| kspl_open x_call) => `(tactic| ((with_reducible refine' de_call ?dc ?dG ?dj ?da ?dg ?dd ?de ?dp); (case dc => kspl_open x_ctx); (case dG => assumption); (case dj => decide); (case dg => rfl); (case dd => decide); (case de => rfl); (case dp => rfl); (case' da => skip)))
local macro_rules | `(tactic| kspl_open x_e) => `(tactic| first | kspl_open x_e1 | kspl_open x_name | kspl_open x_arg | kspl_open x_cmp | kspl_open x_op | kspl_open x_ixl | kspl_open x_mul | kspl_open x_txt | kspl_open x_bcall | kspl_open x_tcall | kspl_open x_meth | kspl_open x_ty | kspl_open x_mt | kspl_open x_meth0 | kspl_open x_call | kspl_open x_kw0 | kspl_open x_glob | kspl_open x_chain | kspl_open x_truth)
local macro_rules | `(tactic| kspl_open x_one) => `(tactic| repeat (first | kspl_open x_e | kspl_open x_s | kspl_open x_put | kspl_open x_ex))
local macro_rules | `(tactic| kspl_open x_go) => `(tactic| repeat (first | kspl_open x_e | kspl_open x_s | kspl_open x_put | kspl_open x_ex | (with_reducible refine dss_cons ?_) | (with_reducible refine dss_nil ?_)))
local macro_rules | `(tactic| kspl_open x_br) => `(tactic| first | with_reducible refine br_dec ?_ ?_ | with_reducible refine br_nec ?_ ?_ | with_reducible refine br_nb ?_ ?_ | with_reducible refine br_bl ?_ ?_)
local macro_rules | `(tactic| kspl_open x_in) => `(tactic| ((simp only [startD, List.map_cons, List.map_nil, List.length_cons, List.length_nil, List.cons_append, List.nil_append, List.replicate, Nat.reduceAdd, Nat.reduceSub]); (refine dss_cons ?_)))
local macro_rules | `(tactic| kspl_open x_lst) => `(tactic| (refine de_lst ?_; kspl_open x_go))
local macro_rules | `(tactic| kspl_open x_emp) => `(tactic| (refine de_lst ?_; kspl_open x_go; (with_reducible first | (refine' opd_neNil ?dc ?dl ?_; (case dc => kspl_open x_ctx); (case dl => kspl_open x_ls)) | (refine' opd_eqNil ?dc ?dl ?_; (case dc => kspl_open x_ctx); (case dl => kspl_open x_ls)))))
local macro_rules | `(tactic| kspl_open x_for) => `(tactic| ((with_reducible refine' ds_for ?dc ?dh ?dx ?ds); (case dc => kspl_open x_ctx); (case dh => assumption); (case ds => intro _; rfl); (case' dx => skip)))
local macro_rules | `(tactic| kspl_open x_rng) => `(tactic| first | ((with_reducible refine' dit_range1 ?dm ?da ?dg ?ds ?d1); (case dm => assumption); (case dg => rfl); (case ds => rfl); (case d1 => rfl); (case' da => skip)) | ((with_reducible refine' dit_range2 ?dm ?da ?dg ?ds ?d1 ?d2 ?d3); (case dm => assumption); (case dg => rfl); (case ds => rfl); (case d1 => rfl); (case d2 => rfl); (case d3 => rfl); (case' da => skip)))
local macro_rules | `(tactic| kspl_open x_rep) => `(tactic| ((with_reducible refine' det_repl ?da ?dy ?dz ?db ?dl ?df ?ds); (case dy => decide +kernel); (case dz => decide +kernel); (case db => rfl); (case dl => rfl); (case df => rfl); (case ds => rfl); (case' da => skip)))
local macro_rules | `(tactic| kspl_open x_dat) => `(tactic| ((with_reducible refine' dat_cons ?da ?db); (case db => rfl); (case' da => skip)))
local macro_rules | `(tactic| kspl_open x_t) => `(tactic| repeat (first | (with_reducible refine dat_nil ?_) | kspl_open x_dat | kspl_open x_rep | (with_reducible refine DE.t ?_) | kspl_open x_e | kspl_open x_ex))
local macro_rules | `(tactic| kspl_open x_kw0) => `(tactic| ((with_reducible refine' de_callKw0 ?dc ?dG ?dB ?dj ?da ?dg ?dd ?d1 ?d2 ?d3); (case dc => kspl_open x_ctx); (case dG => assumption); (case dB => assumption); (case dj => decide); (case dg => rfl); (case dd => decide); (case d1 => rfl); (case d2 => rfl); (case d3 => rfl); (case' da => skip)))
local macro_rules | `(tactic| kspl_open x_callG) => `(tactic| ((with_reducible refine' de_callG ?dc ?dh ?dG ?dj ?da ?dg ?dd ?de ?dp); (case dc => kspl_open x_ctx); (case dh => assumption); (case dG => assumption); (case dj => decide); (case dg => rfl); (case dd => decide); (case de => rfl); (case dp => rfl); (case' da => skip)))

section
open PySem PySem.Spec PyProof.Rows L2 DL Tx
section
variable {P : Program} {w : World} {K : PySem.W.Frag} {mg : Str → Option Value} {base : Heap}
set_option maxHeartbeats 4000000 in
theorem ok_draw {f : Addr} {fd : FuncData} (F : Fun K "_law_draw" "_law_draw" s__law_draw f fd) (gl : mg "_law_draw" = some (.ref f)) (bn : Binds K fd ["pool", "many"] []) (mint : mg "int" = none) : DefAt P w K mg base 1 "_law_draw" f fd ["pool", "many"] spDraw := by
  refine def_ok F sc__law_draw gl bn (fun vs ms kd xk h => by obtain ⟨_, _, _, _, rfl, _⟩ := h; rfl) fun cdv A outer s H E C own vs ms kd xk h => ?_
  obtain ⟨p, m, n, ms0, rfl, rfl, hn, m0, m1, q⟩ := h
  simp only [startD, List.map_cons, List.map_nil, List.length_cons, List.length_nil, List.cons_append, List.nil_append, List.replicate, Nat.reduceAdd, Nat.reduceSub]
  refine dss_pool fun a b c ok => ?_
  obtain ⟨a0, b0, b1, c0, c1⟩ := ok
  refine dss_cons ?_
  kspl_open x_go
  refine br_dec (fun hb => ?_) (fun hb => ?_)
  · kspl_open x_go
    refine std_list .z rfl .z ?_
    kspl_open x_go
    exact ⟨_, mle_pool (n := n + 1) ⟨Int.ediv_nonneg a0 (Int.le_of_lt m0), b0, b1, c0, by omega⟩, q _ (Int.emod_nonneg _ (by omega)) (Int.emod_lt_of_pos _ m0)⟩
  · kspl_open x_go
    refine std_list .z rfl .z ?_
    kspl_open x_go
    have h1 : (b + 15485863 * (c + 1)).natAbs < 2 ^ 63 := by omega
    refine opd_pow (powW_of (a := 63) (by decide) h1 (by decide) (by decide)) ?_
    generalize hx : (b + 15485863 * (c + 1)) ^ (3 : Int).toNat = x
    kspl_open x_go
    have h2 : 0 ≤ x % 162259276829213363391578010288127 := Int.emod_nonneg _ (by decide)
    have h3 : x % 162259276829213363391578010288127 < 162259276829213363391578010288127 := Int.emod_lt_of_pos _ (by decide)
    generalize x % 162259276829213363391578010288127 = y at h2 h3 ⊢
    have h4 : (y + 32452843 * (c + 1)).natAbs < 2 ^ 128 := by omega
    refine opd_pow (powW_of (a := 128) (by decide) h4 (by decide) (by decide)) ?_
    generalize (y + 32452843 * (c + 1)) ^ (3 : Int).toNat = z
    kspl_open x_go
    exact ⟨_, mle_pool (n := n + 1) ⟨a0, b0, b1, by omega, by omega⟩, q _ (Int.emod_nonneg _ (by omega)) (Int.emod_lt_of_pos _ m0)⟩
set_option maxHeartbeats 4000000 in
theorem ok_pool {f : Addr} {fd : FuncData} (F : Fun K "_law_pool" "_law_pool" s__law_pool f fd) (gl : mg "_law_pool" = some (.ref f)) (bn : Binds K fd ["script", "spot"] []) (mint : mg "int" = none) (mlen : mg "len" = none) (mmax : mg "max" = none) (mabs : mg "abs" = none) : DefAt P w K mg base 1 "_law_pool" f fd ["script", "spot"] spPool := by
  refine def_ok F sc__law_pool gl bn (fun vs ms kd xk h => by obtain ⟨_, _, rfl, _⟩ := h; rfl) fun cdv A outer s H E C own vs ms kd xk h => ?_
  obtain ⟨ns, i, rfl, i0, i1, q⟩ := h
  kspl_open x_in
  kspl_open x_one
  refine dss_cut (fun ds' ms' => ∃ c : Int, ds' = [some (.scr ns), some (.int i), some (.int c)] ∧ ms' = ms) ?_ ?_
  · kspl_open x_go
    refine br_dec (fun hb => ?_) (fun hb => ?_)
    · kspl_open x_go
      have hi : i.toNat < ns.length := by omega
      refine ixd_scr (n := ns[i.toNat]) ?_ (fun _ _ => rfl) ?_
      · unfold atI ixN
        rw [if_pos i0, if_pos (by omega)]
        exact List.getElem?_eq_getElem hi
      kspl_open x_go
      rfl
    · kspl_open x_go
      rfl
  rintro ds' ms' ⟨c, rfl, rfl⟩
  kspl_open x_go
  refine de_lstM ?_
  kspl_open x_go
  refine opd_pow (powW_of (a := 4) (by decide) (by decide) (by decide) (by decide)) ?_
  kspl_open x_go
  refine fun p => (⟨_, mle_pool (n := 0) ⟨?_, ?_, ?_, by decide, by decide⟩, q p⟩)
  · split <;> omega
  · have := Int.emod_nonneg c (show (2305843009213693951 : Int) ≠ 0 by decide)
    omega
  · have := Int.emod_lt_of_pos c (show (0 : Int) < 2305843009213693951 by decide)
    omega
end

end
section
open PySem PySem.Spec PyProof.Rows L2 DL Tx
section
variable {P : Program} {w : World} {K : PySem.W.Frag} {mg : Str → Option Value} {base : Heap}
set_option maxHeartbeats 4000000 in
theorem ok_number_in {f : Addr} {fd : FuncData} (F : Fun K "number_in" "number_in" s_number_in f fd) (gl : mg "number_in" = some (.ref f)) (bn : Binds K fd ["text"] []) (mint : mg "int" = none) (mlen : mg "len" = none) (mall : mg "all" = none)
    {t1 t2 : Tok} (mmost : mg "MOST_DIGITS" = some (.int 40 t1)) (mdig : mg "DIGITS" = some (.str "0123456789" t2)) : DefAt P w K mg base 1 "number_in" f fd ["text"] spNum := by
  refine def_ok F sc_number_in gl bn (fun vs ms kd xk h => by obtain ⟨_, rfl, _⟩ := h; rfl) fun cdv A outer s H E C own vs ms kd xk h => ?_
  obtain ⟨z, rfl, hz, q⟩ := h
  simp only [startD, List.map_cons, List.map_nil, List.length_cons, List.length_nil, List.cons_append, List.nil_append, List.replicate, Nat.reduceAdd, Nat.reduceSub]
  refine dss_cut (fun ds' ms' => ∃ y : Str, tl y = body (tl z) ∧ ds' = [some (.str z), some (.str y), none] ∧ ms' = ms) ?_ ?_
  · kspl_open x_one
    refine br_dec (fun hb => ?_) (fun hb => ?_)
    · kspl_open x_one
      refine ⟨_, ?_, rfl, rfl⟩
      rw [tl_iff, tl_cutTo1, tl_minus] at hb
      rw [tl_cut1]
      unfold body
      rw [if_pos hb]
    · kspl_open x_one
      refine ⟨_, ?_, rfl, rfl⟩
      rw [tl_iff, tl_cutTo1, tl_minus] at hb
      unfold body
      rw [if_neg hb]
  rintro ds' ms' ⟨y, hy, rfl, rfl⟩
  have yl : y.length ≤ 100000 := by
    rw [tl_len, hy]
    rw [tl_len] at hz
    unfold body
    split
    · rw [List.length_drop]; omega
    · exact hz
  kspl_open x_go
  kspl_open x_br <;> intro h1
  · kspl_open x_go
    kspl_open x_br <;> intro h2
    · kspl_open x_go
      rw [numL_none1 (by rw [← hy, ← tl_len]; omega)] at q
      exact ⟨_, MLe.refl _ _, q⟩
    · kspl_open x_go
      refine de_lc (by kspl_open x_ctx) (sc := defScope s_number_in) [("sign", 2)] rfl (by decide +kernel) ?_ (by intro _; rfl)
      refine dit_str ?_
      kspl_open x_go
      refine lct_str (sl := [2]) (fun c => .bl (dig c)) (by decide) yl (fun _ _ => trivial) ?_ ?_
      · intro c acc L hc s H Cc cl fp
        simp only [wipeD, List.map, List.set]
        kspl_open x_go
        refine ⟨rfl, ?_⟩
        intro s H Cc cl fp
        kspl_open x_go
        exact ⟨by rw [← mem_digits], rfl⟩
      kspl_open x_go
      refine cad_all (by kspl_open x_ctx) (bs := (tl y).map dig) ?_ ?_
      · rw [List.map_map]
        exact LsOf.f
      rw [List.all_map]
      kspl_open x_go
      kspl_open x_br <;> intro h3
      · kspl_open x_go
        rw [numL_none2 (by rw [← hy]; simpa using h3)] at q
        exact ⟨_, MLe.refl _ _, q⟩
      · kspl_open x_go
        obtain ⟨c, r, hc⟩ : ∃ c r, tl y = c :: r := by
          cases e : tl y with
          | nil => rw [tl_len, e] at h1; exact absurd h1 (by decide)
          | cons c r => exact ⟨c, r, rfl⟩
        refine ixd_str (c := c) (Nat.le_trans yl (by decide)) (by rw [show y.cps.toList = c :: r from hc]; exact atI_0) (fun _ _ => rfl) ?_
        kspl_open x_go
        have key : ∀ Q : Prop, (Q = (decide ((⟨#[c]⟩ : Str) = "0") = true)) → True := fun _ _ => trivial
        have e0 : ((⟨#[c]⟩ : Str) = "0") ↔ (body (tl z)).head? = some 48 := by
          rw [tl_iff, tl_zero, ← hy, hc]
          simp [tl]
        have fin : ¬ ((body (tl z)).head? = some 48 ∧ tl z ≠ [48]) → ∃ n, numL (tl z) = some n ∧ PySem.intText? z = some n ∧ z.length ≤ 640 := fun h => by
          refine numL_some ⟨?_, ?_⟩ (by rw [← hy]; simpa using h3) h
          · rw [← hy, ← tl_len]; omega
          · rw [← hy, ← tl_len]; omega
        kspl_open x_br <;> intro h4
        · kspl_open x_go
          kspl_open x_br <;> intro h5
          · kspl_open x_go
            rw [numL_none3 (e0.mp h4) (fun e => h5 (by rw [tl_iff, tl_zero]; exact e))] at q
            exact ⟨_, MLe.refl _ _, q⟩
          · obtain ⟨n, n1, n2, n3⟩ := fin fun e => e.2 (by rw [← tl_zero, ← tl_iff]; simpa using h5)
            kspl_open x_go
            refine cad_intS n2 n3 ?_
            rw [n1] at q
            exact ⟨_, MLe.refl _ _, q⟩
        · obtain ⟨n, n1, n2, n3⟩ := fin fun e => h4 (e0.mpr e.1)
          kspl_open x_go
          refine cad_intS n2 n3 ?_
          rw [n1] at q
          exact ⟨_, MLe.refl _ _, q⟩
  · kspl_open x_go
    rw [numL_none1 (by rw [← hy, ← tl_len]; omega)] at q
    exact ⟨_, MLe.refl _ _, q⟩
end

end
section
open PySem PySem.Spec PyProof.Rows L2 DL Tx
section
variable {P : Program} {w : World} {K : PySem.W.Frag} {mg : Str → Option Value} {base : Heap}
set_option maxHeartbeats 4000000 in
theorem ok_integer {f : Addr} {fd : FuncData} (F : Fun K "_law_integer" "_law_integer" s__law_integer f fd) (gl : mg "_law_integer" = some (.ref f)) (bn : Binds K fd ["wording"] []) (mint : mg "int" = none) (mlen : mg "len" = none)
     : DefAt P w K mg base 1 "_law_integer" f fd ["wording"] spInteger := by
  refine def_ok F sc__law_integer gl bn (fun vs ms kd xk h => by obtain ⟨_, rfl, _⟩ := h; rfl) fun cdv A outer s H E C own vs ms kd xk h => ?_
  obtain ⟨z, rfl, hz, q⟩ := h
  kspl_open x_in
  kspl_open x_one
  refine dss_cut (fun ds' ms' => ∃ y : Str, tl y = body (tl z) ∧ ds' = [some (.str z), some (.str y), none] ∧ ms' = ms) ?_ ?_
  · kspl_open x_one
    rw [str_minus, starts_one]
    refine br_dec (fun hb => ?_) (fun hb => ?_)
    · kspl_open x_go
      refine ⟨_, ?_, rfl, rfl⟩
      rw [tl_cut1]
      unfold body
      rw [if_pos hb]
    · kspl_open x_go
      refine ⟨_, ?_, rfl, rfl⟩
      unfold body
      rw [if_neg hb]
  rintro ds' ms' ⟨y, hy, rfl, rfl⟩
  have yl : y.length ≤ 100000 := by
    rw [tl_len, hy]
    rw [tl_len] at hz
    unfold body
    split
    · rw [List.length_drop]; omega
    · exact hz
  kspl_open x_go
  have bail : numL (tl z) = none → ∃ ms3, MLe K ms' ms3 ∧ kd (.lst []) ms3 := fun e => by
    rw [e] at q
    exact ⟨_, MLe.refl _ _, q⟩
  kspl_open x_br <;> intro h1
  · kspl_open x_go
    kspl_open x_lst
    exact bail (numL_none1 (by rw [← hy, h1]; decide +kernel))
  · have y1 : 1 ≤ (body (tl z)).length := by
      rw [← hy]
      cases e : tl y with
      | nil => exact absurd (tl_ext (e.trans (by decide +kernel))) h1
      | cons => simp
    kspl_open x_go
    kspl_open x_br <;> intro h2
    · kspl_open x_go
      kspl_open x_lst
      exact bail (numL_none1 (by rw [← hy, ← tl_len]; omega))
    · kspl_open x_go
      refine de_lc (by kspl_open x_ctx) (sc := defScope s__law_integer) [("sign", 2)] rfl (by decide +kernel) ?_ (by intro _; rfl)
      refine dit_str ?_
      kspl_open x_go
      refine lct_strF (sl := [2]) (fun c => !dig c) (by decide) yl (fun _ _ => trivial) ?_ ?_
      · intro c acc L hc s H Cc cl fp
        simp only [wipeD, List.map, List.set]
        kspl_open x_go
        refine ⟨rfl, ?_⟩
        intro s H Cc cl fp
        kspl_open x_go
        refine ⟨by rw [← mem_digits], rfl, ?_⟩
        intro hp s H Cc cl fp
        kspl_open x_go
        exact ⟨rfl, rfl⟩
      kspl_open x_emp
      kspl_open x_go
      have ea : (List.map (fun c => D.str ⟨#[c]⟩) (List.filter (fun c => !dig c) y.cps.toList)).isEmpty = (tl y).all dig := by
        rw [Bool.eq_iff_iff, List.isEmpty_iff, List.map_eq_nil_iff, List.filter_eq_nil_iff, List.all_eq_true]
        simp [tl]
      rw [ea]
      kspl_open x_br <;> intro h3
      · kspl_open x_go
        kspl_open x_lst
        exact bail (numL_none2 (by rw [← hy, h3]; decide))
      · kspl_open x_go
        obtain ⟨c, r, hc⟩ : ∃ c r, tl y = c :: r := by
          cases e : tl y with
          | nil => rw [← hy, e] at y1; exact absurd y1 (by decide)
          | cons c r => exact ⟨c, r, rfl⟩
        refine ixd_str (c := c) (Nat.le_trans yl (by decide)) (by rw [show y.cps.toList = c :: r from hc]; exact atI_0) (fun _ _ => rfl) ?_
        kspl_open x_go
        have e0 : ((⟨#[c]⟩ : Str) = "0") ↔ (body (tl z)).head? = some 48 := by
          rw [tl_iff, tl_zero, ← hy, hc]
          simp [tl]
        have fin : ¬ ((body (tl z)).head? = some 48 ∧ tl z ≠ [48]) → ∃ n, numL (tl z) = some n ∧ PySem.intText? z = some n ∧ z.length ≤ 640 := fun h => by
          refine numL_some ⟨y1, ?_⟩ (by rw [← hy]; exact h3) h
          rw [← hy, ← tl_len]; omega
        kspl_open x_br <;> intro h4
        · kspl_open x_go
          kspl_open x_br <;> intro h5
          · kspl_open x_go
            kspl_open x_lst
            exact bail (numL_none3 (e0.mp h4) (fun e => h5 (by rw [tl_iff, tl_zero]; exact e)))
          · obtain ⟨n, n1, n2, n3⟩ := fin fun e => e.2 (by rw [← tl_zero, ← tl_iff]; simpa using h5)
            kspl_open x_go
            refine de_lst ?_
            kspl_open x_go
            refine cad_intS n2 n3 ?_
            kspl_open x_go
            rw [n1] at q
            exact ⟨_, MLe.refl _ _, q⟩
        · obtain ⟨n, n1, n2, n3⟩ := fin fun e => h4 (e0.mpr e.1)
          kspl_open x_go
          refine de_lst ?_
          kspl_open x_go
          refine cad_intS n2 n3 ?_
          kspl_open x_go
          rw [n1] at q
          exact ⟨_, MLe.refl _ _, q⟩
set_option maxHeartbeats 4000000 in
theorem ok_pair {f f2 : Addr} {fd fd2 : FuncData} (F : Fun K "pair_in" "pair_in" s_pair_in f fd) (gl : mg "pair_in" = some (.ref f)) (bn : Binds K fd ["text", "glue"] []) (Gn : DefAt P w K mg base 1 "number_in" f2 fd2 ["text"] spNum) 
     : DefAt P w K mg base 2 "pair_in" f fd ["text", "glue"] spPair := by
  refine def_ok F sc_pair_in gl bn (fun vs ms kd xk h => by obtain ⟨_, _, rfl, _⟩ := h; rfl) fun cdv A outer s H E C own vs ms kd xk h => ?_
  obtain ⟨z, c, rfl, hz, q⟩ := h
  kspl_open x_in
  have hpl := partL (z := z) (c := c)
  kspl_open x_go
  refine ⟨_, MLe.refl _ _, _, rfl, Nat.le_trans hpl.1 hz, ?_⟩
  kspl_open x_go
  refine ⟨_, MLe.refl _ _, _, rfl, Nat.le_trans hpl.2 hz, ?_⟩
  kspl_open x_go
  rcases part_eq z c with ⟨pb, pe⟩ | ⟨p, r, pb, pe⟩
  · rw [pe]
    have : pairB c (tl z) = none := by unfold pairB; rw [pb]
    rw [this] at q
    kspl_open x_br <;> intro h1
    · kspl_open x_go
      exact ⟨_, MLe.refl _ _, q⟩
    · exact absurd rfl h1
  · rw [pe]
    have : pairB c (tl z) = match numL (tl p), numL (tl r) with
      | some a, some b => some (a, b)
      | _, _ => none := by unfold pairB; (rw [pb] <;> rfl)
    rw [this] at q
    kspl_open x_br <;> intro h1
    · exact absurd (congrArg Str.length h1) (by show ¬ (1 : Nat) = 0; decide)
    · kspl_open x_go
      show OpD _ _ D.non (D.tup [optI (numL (tl p)), optI (numL (tl r))]) _ _
      cases hp : numL (tl p) with
      | none =>
        rw [hp] at q
        refine opd_inT rfl ?_ ?_
        · cases numL (tl r) <;> rfl
        · have e : inD D.non [optI none, optI (numL (tl r))] = true := by cases numL (tl r) <;> rfl
          rw [e]
          kspl_open x_go
          exact ⟨_, MLe.refl _ _, q⟩
      | some a =>
        cases hr : numL (tl r) with
        | none =>
          rw [hp, hr] at q
          refine opd_inT rfl rfl ?_
          rw [show inD D.non [optI (some a), optI none] = true from rfl]
          kspl_open x_go
          exact ⟨_, MLe.refl _ _, q⟩
        | some b =>
          rw [hp, hr] at q
          refine opd_inT rfl rfl ?_
          rw [show inD D.non [optI (some a), optI (some b)] = false from rfl]
          kspl_open x_go
          exact ⟨_, MLe.refl _ _, q⟩
end

end
section
open PySem PySem.Spec PyProof.Rows L2 DL Tx
section
variable {P : Program} {w : World} {K : PySem.W.Frag} {mg : Str → Option Value} {base : Heap}
set_option maxHeartbeats 4000000 in
theorem ok_two {f f2 : Addr} {fd fd2 : FuncData} (F : Fun K "_law_two" "_law_two" s__law_two f fd) (gl : mg "_law_two" = some (.ref f)) (bn : Binds K fd ["wording", "glue"] []) (mlen : mg "len" = none) (Gn : DefAt P w K mg base 1 "_law_integer" f2 fd2 ["wording"] spInteger)
     : DefAt P w K mg base 2 "_law_two" f fd ["wording", "glue"] spTwo := by
  refine def_ok F sc__law_two gl bn (fun vs ms kd xk h => by obtain ⟨_, _, rfl, _⟩ := h; rfl) fun cdv A outer s H E C own vs ms kd xk h => ?_
  obtain ⟨z, c, rfl, hz, q⟩ := h
  kspl_open x_in
  kspl_open x_go
  intro p0
  kspl_open x_go
  refine br_nec (fun hb => ?_) (fun hb => ?_)
  · kspl_open x_go
    kspl_open x_lst
    have : twoL c (tl z) = none := by
      unfold twoL
      have := split_nottwo (z := z) (c := c) (fun e => hb (by rw [List.length_map, e]; rfl))
      split
      · exact absurd ‹_› (this _ _)
      · rfl
    rw [this] at q
    exact ⟨_, MLe.tail, q⟩
  · have hl : (Txt.split z ⟨#[c]⟩).length = 2 := by rw [List.length_map] at hb; omega
    obtain ⟨a, b, e1, e2⟩ := split_two hl
    have la : a.length ≤ z.length := split_len2 (by rw [e1]; simp)
    have lb : b.length ≤ z.length := split_len2 (by rw [e1]; simp)
    have ez : twoL c (tl z) = match numL (tl a), numL (tl b) with
      | some a, some b => some (a, b)
      | _, _ => none := by unfold twoL; (rw [e2] <;> rfl)
    rw [ez] at q
    rw [e1]
    have ka := optL_len (numL (tl a))
    have kb := optL_len (numL (tl b))
    kspl_open x_go
    refine ⟨_, MLe.refl _ _, _, rfl, by omega, ?_⟩
    kspl_open x_go
    refine ⟨_, MLe.refl _ _, _, rfl, by omega, ?_⟩
    kspl_open x_go
    cases hp : numL (tl a) with
    | none =>
      rw [hp] at q
      refine br_dec (fun h => ?_) (fun h => ?_)
      · exfalso
        have h : (((optL none ++ optL (numL (tl b))).length : Nat) : Int) = 2 := h
        rw [List.length_append] at h
        have k0 : (optL none).length = 0 := rfl
        rw [k0] at h
        omega
      · kspl_open x_go
        kspl_open x_lst
        exact ⟨_, MLe.tail, q⟩
    | some n =>
      cases hr : numL (tl b) with
      | none =>
        rw [hp, hr] at q
        refine br_no (by show ¬ ((1 : Nat) : Int) = 2; decide) ?_
        kspl_open x_go
        kspl_open x_lst
        exact ⟨_, MLe.tail, q⟩
      | some m =>
        rw [hp, hr] at q
        refine br_yes rfl ?_
        kspl_open x_go
        exact ⟨_, MLe.tail, q⟩
set_option maxHeartbeats 4000000 in
theorem ok_due {f f2 f3 : Addr} {fd fd2 fd3 : FuncData} (F : Fun K "_law_due" "_law_due" s__law_due f fd) (gl : mg "_law_due" = some (.ref f)) (bn : Binds K fd ["wording"] []) (mlen : mg "len" = none) (mtup : mg "tuple" = none)
    (Gn : DefAt P w K mg base 1 "_law_integer" f2 fd2 ["wording"] spInteger) (Gt : DefAt P w K mg base 2 "_law_two" f3 fd3 ["wording", "glue"] spTwo)
     : DefAt P w K mg base 3 "_law_due" f fd ["wording"] spDue := by
  refine def_ok F sc__law_due gl bn (fun vs ms kd xk h => by obtain ⟨_, rfl, _⟩ := h; rfl) fun cdv A outer s H E C own vs ms kd xk h => ?_
  obtain ⟨z, rfl, hz, q⟩ := h
  kspl_open x_in
  kspl_open x_go
  refine de_lstM ?_
  kspl_open x_go
  intro pf
  kspl_open x_go
  kspl_open x_br <;> intro h1
  · kspl_open x_go
    kspl_open x_lst
    kspl_open x_lst
    have : dueL (tl z) = some [] := by unfold dueL; rw [if_pos (by rw [h1]; decide +kernel)]
    rw [this] at q
    exact ⟨_, MLe.tail, q⟩
  · kspl_open x_go
    kspl_open x_for
    refine dit_ls ?_
    kspl_open x_go
    rw [str_space]
    intro pl
    refine ⟨_, .m .z, ?_⟩
    have hm : ∀ p ∈ Txt.split z ⟨#[32]⟩, p.length ≤ z.length := fun p hp => split_len2 hp
    have hd : dueL (tl z) = ((Txt.split z ⟨#[32]⟩).map tl).mapM wordS := by
      unfold dueL
      rw [if_neg (fun e => h1 (tl_ext (e.trans (by decide +kernel)))), split_eq]
    have hcount := split_le z ⟨#[32]⟩
    generalize Txt.split z ⟨#[32]⟩ = wds at hm hd hcount ⊢
    refine ⟨fun i ds' ms' => ∃ acc o1 o2 o3, ((wds.map tl).take i).mapM wordS = some acc ∧ acc.length ≤ i ∧ ds' = [some (.str z), some (.adr pf), o1, o2, o3] ∧ ms' = (pl, .lst (wds.map D.str)) :: (pf, .lst (acc.map tri)) :: ms, ⟨[], _, _, _, rfl, Nat.le_refl _, rfl, rfl⟩, ?_, ?_, ?_⟩
    · rintro i ds' ms' hi ⟨acc, o1, o2, o3, _, _, _, rfl⟩
      exact .m .z
    · rintro i x ds' ms' hx ⟨acc, o1, o2, o3, ha, hal, rfl, rfl⟩
      rw [List.getElem?_map] at hx
      cases hw : wds[i]? with
      | none => rw [hw] at hx; cases hx
      | some wd =>
        rw [hw] at hx
        cases hx
        have hwm : (wds.map tl)[i]? = some (tl wd) := by rw [List.getElem?_map, hw]; rfl
        have hil : i < wds.length := (List.getElem?_eq_some_iff.mp hw).1
        have wl : wd.length ≤ z.length := hm wd (List.mem_of_getElem? hw)
        have bail : wordS (tl wd) = none → dueL (tl z) = none := fun e => by rw [hd]; exact mapM_none (List.mem_of_getElem? hwm) e
        kspl_open x_go
        rw [str_comma]
        intro pp
        kspl_open x_go
        have hal2 : (acc.map tri).length < 100000 := by rw [List.length_map]; omega
        have qn : wordS (tl wd) = none → kd (.lst []) ms := fun e => by rw [bail e] at q; exact q
        refine br_nec (fun hb => ?_) (fun hb => ?_)
        · kspl_open x_go
          kspl_open x_lst
          have : wordS (tl wd) = none := by
            unfold wordS
            have := split_nottwo (z := wd) (c := 44) (fun e => hb (by rw [List.length_map, e]; rfl))
            split
            · exact absurd ‹_› (this _ _)
            · rfl
          exact ⟨_, (MLe.tail.trans MLe.tail).trans MLe.tail, qn this⟩
        · have hl : (Txt.split wd ⟨#[44]⟩).length = 2 := by rw [List.length_map] at hb; omega
          obtain ⟨a, b, e1, e2⟩ := split_two hl
          have la : a.length ≤ wd.length := split_len2 (by rw [e1]; simp)
          have lb : b.length ≤ wd.length := split_len2 (by rw [e1]; simp)
          have ez : wordS (tl wd) = match numL (tl a), twoL 61 (tl b) with
            | some a, some (b, c) => if a < 0 ∨ c < 0 then none else some (a, b, c)
            | _, _ => none := by unfold wordS; (rw [e2] <;> rfl)
          rw [e1]
          have ka := optL_len (numL (tl a))
          have kb := twoO_len (twoL 61 (tl b))
          kspl_open x_go
          refine ⟨_, MLe.refl _ _, _, rfl, by omega, ?_⟩
          kspl_open x_go
          refine ⟨_, MLe.refl _ _, _, 61, by rw [str_is], by omega, ?_⟩
          kspl_open x_go
          cases hp : numL (tl a) with
          | none =>
            rw [hp] at ez
            refine br_nno (fun h => ?_) ?_
            · have h : (((optL none ++ twoO (twoL 61 (tl b))).length : Nat) : Int) = 3 := h
              rw [List.length_append] at h
              have k0 : (optL none).length = 0 := rfl
              rw [k0] at h
              omega
            · kspl_open x_go
              kspl_open x_lst
              exact ⟨_, (MLe.tail.trans MLe.tail).trans MLe.tail, qn ez⟩
          | some n =>
            cases hr : twoL 61 (tl b) with
            | none =>
              rw [hp, hr] at ez
              refine br_nno (by show ¬ ((1 : Nat) : Int) = 3; decide) ?_
              kspl_open x_go
              kspl_open x_lst
              exact ⟨_, (MLe.tail.trans MLe.tail).trans MLe.tail, qn ez⟩
            | some pr =>
              obtain ⟨n2, n3⟩ := pr
              rw [hp, hr] at ez
              refine br_nyes rfl ?_
              show DW _ _ _ [_, _, _, _, some (D.lst [.int n, .int n2, .int n3])] _ _
              kspl_open x_go
              kspl_open x_br <;> intro h2
              · kspl_open x_go
                kspl_open x_lst
                exact ⟨_, (MLe.tail.trans MLe.tail).trans MLe.tail, qn (ez.trans (if_pos (.inl h2)))⟩
              · kspl_open x_go
                kspl_open x_br <;> intro h3
                · kspl_open x_go
                  kspl_open x_lst
                  exact ⟨_, (MLe.tail.trans MLe.tail).trans MLe.tail, qn (ez.trans (if_pos (.inr h3)))⟩
                · kspl_open x_go
                  refine ⟨_, MLe.tail, acc ++ [(n, n2, n3)], _, _, _, mapM_take hwm ha (ez.trans (if_neg (fun e => e.elim h2 h3))), by rw [List.length_append]; exact Nat.succ_le_succ hal, rfl, ?_⟩
                  rw [List.map_append]
                  rfl
    · rintro ds' ms' ⟨acc, o1, o2, o3, ha, hal, rfl, rfl⟩
      kspl_open x_go
      refine de_lst ?_
      refine da_cons (de_freeze ?_) rfl
      kspl_open x_go
      refine ⟨_, 1, _, _, rfl, .s .z, .s .z, rfl, ?_⟩
      kspl_open x_go
      rw [List.length_map, List.take_of_length_le (by rw [List.length_map]; exact Nat.le_refl _), ← hd] at ha
      rw [ha] at q
      exact ⟨_, MLe.tail, q⟩
end

end
section
open PySem PySem.Spec PyProof.Rows L2 DL Tx
section
variable {P : Program} {w : World} {K : PySem.W.Frag} {mg : Str → Option Value} {base : Heap}
set_option maxHeartbeats 4000000 in
theorem ok_read {f f2 f3 Cu Dg fI : Addr} {fd fd2 fd3 : FuncData} {t1 : Tok} (F : Fun K "read_seen" "read_seen" s_read_seen f fd) (gl : mg "read_seen" = some (.ref f)) (bn : Binds K fd ["text"] []) (mnot : mg "NOTHING" = some (.str "-" t1))
    (Gn : DefAt P w K mg base 1 "number_in" f2 fd2 ["text"] spNum) (Gp : DefAt P w K mg base 2 "pair_in" f3 fd3 ["text", "glue"] spPair) (T : SupTxt P K mg "Unreadable" Cu Dg fI)
     : DefAt P w K mg base 3 "read_seen" f fd ["text"] (spRead Cu) := by
  refine def_ok F sc_read_seen gl bn (fun vs ms kd xk h => by obtain ⟨_, rfl, _⟩ := h; rfl) fun cdv A outer s H E C own vs ms kd xk h => ?_
  obtain ⟨z, rfl, hz, q, qx⟩ := h
  kspl_open x_in
  kspl_open x_go
  refine de_lstM ?_
  kspl_open x_go
  intro pf
  kspl_open x_go
  kspl_open x_for
  refine dit_ls ?_
  refine DE.imp (kd' := fun d ms1 => ∃ (pl : Addr) (wds : List Str), d = .adr pl ∧ ms1 = (pl, .lst (wds.map D.str)) :: (pf, .lst []) :: ms ∧ dueL (tl z) = (wds.map tl).mapM wordS ∧ (∀ p ∈ wds, p.length ≤ z.length) ∧ wds.length ≤ z.length + 2) ?_ ?_
  · kspl_open x_go
    refine br_dec (fun hb => ?_) (fun hb => ?_)
    · refine de_lstM ?_
      kspl_open x_go
      intro pl
      exact ⟨pl, [], rfl, rfl, by rw [hb]; decide +kernel, (by simp), by simp⟩
    · kspl_open x_go
      rw [str_space]
      intro pl
      exact ⟨pl, _, rfl, rfl, by unfold dueL; rw [if_neg (fun e => hb (tl_ext (e.trans (by decide +kernel)))), split_eq], fun p hp => split_len2 hp, split_le _ _⟩
  rintro d ms1 ⟨pl, wds, rfl, rfl, hd, hm, hcount⟩
  refine ⟨_, .m .z, ?_⟩
  refine ⟨fun i ds' ms' => ∃ acc o1 o2 o3 o4 o5 o6, ((wds.map tl).take i).mapM wordS = some acc ∧ acc.length ≤ i ∧ ds' = [some (.str z), some (.adr pf), o1, o2, o3, o4, o5, o6] ∧ ms' = (pl, .lst (wds.map D.str)) :: (pf, .lst (acc.map tri)) :: ms, ⟨[], _, _, _, _, _, _, rfl, Nat.le_refl _, rfl, rfl⟩, ?_, ?_, ?_⟩
  · rintro i ds' ms' hi ⟨acc, o1, o2, o3, o4, o5, o6, _, _, _, rfl⟩
    exact .m .z
  · rintro i x ds' ms' hx ⟨acc, o1, o2, o3, o4, o5, o6, ha, hal, rfl, rfl⟩
    rw [List.getElem?_map] at hx
    cases hw : wds[i]? with
    | none => rw [hw] at hx; cases hx
    | some wd =>
      rw [hw] at hx
      cases hx
      have hwm : (wds.map tl)[i]? = some (tl wd) := by rw [List.getElem?_map, hw]; rfl
      have hil : i < wds.length := (List.getElem?_eq_some_iff.mp hw).1
      have wl : wd.length ≤ z.length := hm wd (List.mem_of_getElem? hw)
      have hal2 : (acc.map tri).length < 100000 := by rw [List.length_map]; omega
      have bail : wordB (tl wd) = none → xk Cu (.str z) ms := fun e => qx (by rw [hd]; exact mapM_none (List.mem_of_getElem? hwm) (by rw [← wordB_eq]; exact e))
      have hpl := partL (z := wd) (c := 44)
      kspl_open x_go
      rw [str_comma]
      kspl_open x_go
      refine ⟨_, MLe.refl _ _, _, rfl, by omega, ?_⟩
      kspl_open x_go
      refine ⟨_, MLe.refl _ _, _, 61, by rw [str_is], by omega, ?_⟩
      kspl_open x_go
      have mo : MLe K ((pl, .lst (wds.map D.str)) :: (pf, .lst (acc.map tri)) :: ms) ms := MLe.tail.trans MLe.tail
      rcases part_eq wd 44 with ⟨pb, pe⟩ | ⟨a, b, pb, pe⟩
      · rw [pe]
        have : wordB (tl wd) = none := by unfold wordB; rw [pb]
        refine br_yes rfl ?_
        kspl_open x_go
        exact ⟨_, mo, bail this⟩
      · rw [pe]
        have ez : wordB (tl wd) = match numL (tl a), pairB 61 (tl b) with
          | some a, some (b, c) => if a < 0 ∨ c < 0 then none else some (a, b, c)
          | _, _ => none := by unfold wordB; (rw [pb] <;> rfl)
        refine br_no (fun e => absurd (congrArg Str.length e) (by show ¬ (1 : Nat) = 0; decide)) ?_
        kspl_open x_go
        show (isNonD (optI (numL (tl a))) = true → _) ∧ (isNonD (optI (numL (tl a))) = false → _)
        cases hp : numL (tl a) with
        | none =>
          rw [hp] at ez
          kspl_open x_go
          refine br_is true rfl ?_
          rw [if_pos rfl]
          kspl_open x_go
          exact ⟨_, mo, bail ez⟩
        | some n =>
          refine br_is false rfl ?_
          rw [if_neg Bool.false_ne_true]
          show DW _ _ _ [_, _, _, _, _, _, some (D.int n), _] _ _
          kspl_open x_go
          kspl_open x_br <;> intro h2
          · kspl_open x_go
            have : wordB (tl wd) = none := by
              rw [ez, hp]
              cases pairB 61 (tl b) with
              | none => rfl
              | some q => exact if_pos (.inl h2)
            exact ⟨_, mo, bail this⟩
          · kspl_open x_go
            show (isNonD (pairO (pairB 61 (tl b))) = true → _) ∧ (isNonD (pairO (pairB 61 (tl b))) = false → _)
            cases hr : pairB 61 (tl b) with
            | none =>
              rw [hp, hr] at ez
              refine br_is true rfl ?_
              rw [if_pos rfl]
              kspl_open x_go
              exact ⟨_, mo, bail ez⟩
            | some pr =>
              obtain ⟨n2, n3⟩ := pr
              rw [hp, hr] at ez
              refine br_is false rfl ?_
              rw [if_neg Bool.false_ne_true]
              show DW _ _ _ [_, _, _, _, _, _, _, some (D.tup [.int n2, .int n3])] _ _
              kspl_open x_go
              kspl_open x_br <;> intro h3
              · kspl_open x_go
                exact ⟨_, mo, bail (ez.trans (if_pos (.inr h3)))⟩
              · kspl_open x_go
                refine ⟨_, .inl rfl, ?_⟩
                kspl_open x_go
                refine ⟨_, MLe.refl _ _, acc ++ [(n, n2, n3)], _, _, _, _, _, _, mapM_take hwm ha (by rw [← wordB_eq]; exact ez.trans (if_neg (fun e => e.elim h2 h3))), by rw [List.length_append]; exact Nat.succ_le_succ hal, rfl, ?_⟩
                rw [List.map_append]
                rfl
  · rintro ds' ms' ⟨acc, o1, o2, o3, o4, o5, o6, ha, hal, rfl, rfl⟩
    kspl_open x_go
    rw [List.length_map, List.take_of_length_le (by rw [List.length_map]; exact Nat.le_refl _), ← hd] at ha
    exact ⟨_, MLe.tail, q _ ha pf⟩
end

end
section
open PySem PySem.Spec PyProof.Rows L2 DL Tx
section
variable {P : Program} {w : World} {K : PySem.W.Frag} {mg : Str → Option Value} {base : Heap}
set_option maxHeartbeats 4000000 in
theorem ok_told {f f2 Cu Ci Dg fI : Addr} {fd fd2 : FuncData} (F : Fun K "_law_told" "_law_told" s__law_told f fd) (gl : mg "_law_told" = some (.ref f)) (bn : Binds K fd ["wording"] []) (misi : mg "isinstance" = none) (minv : mg "InvalidSeen" = some (.ref Ci))
    (Gr : DefAt P w K mg base 3 "read_seen" f2 fd2 ["text"] (spRead Cu)) (T : SupTxt P K mg "Unreadable" Cu Dg fI) (te : PySem.W.exmOne K (.ref Cu) (.ref Cu) = some true) (Te : ExcC K Cu) (ti : PySem.W.kitOne K (.ref Cu) (.ref Ci) = some false)
     : DefAt P w K mg base 4 "_law_told" f fd ["wording"] spTold := by
  refine def_ok F sc__law_told gl bn (fun vs ms kd xk h => by obtain ⟨_, rfl, _⟩ := h; rfl) fun cdv A outer s H E C own vs ms kd xk h => ?_
  obtain ⟨z, rfl, hz, q⟩ := h
  kspl_open x_in
  refine ds_tryAs (i := 1) (by kspl_open x_ctx) rfl rfl (by kspl_open x_nm) rfl ⟨rfl, by decide, Or.inl T.gC⟩ ?_
  intro pn0 xe0 C0 own0
  refine dss_cons ?_
  kspl_open x_go
  refine de_lst ?_
  refine da_cons (de_freeze ?_) rfl
  kspl_open x_go
  refine ⟨_, MLe.refl _ _, _, rfl, hz, fun r hr p => ?_, fun hn => ?_⟩
  · refine ⟨_, 0, _, _, rfl, .z, .z, rfl, ?_⟩
    kspl_open x_go
    rw [hr] at q
    exact ⟨_, MLe.refl _ _, q⟩
  · refine ⟨true, te, fun _ a dx oe pn U => ?_, fun h => by cases h⟩
    simp only [List.set]
    refine dss_cons ?_
    kspl_open x_go
    have hS := C.names
    refine de_errVal U T.xf T.noV ?_ rfl
    kspl_open x_go
    refine br_nyes rfl ?_
    kspl_open x_go
    refine de_glob (d := .adr Ci) (v := .ref Ci) minv rfl rfl (by decide) (fun _ => rfl) ?_
    kspl_open x_go
    refine cad_isErr U Te ti ?_
    kspl_open x_go
    simp only [List.set]
    kspl_open x_lst
    rw [hn] at q
    exact ⟨_, MLe.refl _ _, q⟩
end

end
section
open PySem PySem.Spec PyProof.Rows L2 DL Tx
section
variable {P : Program} {w : World} {K : PySem.W.Frag} {mg : Str → Option Value} {base : Heap}
set_option maxHeartbeats 4000000 in
theorem ok_show {f : Addr} {fd : FuncData} {t1 : Tok} (F : Fun K "show_seen" "show_seen" s_show_seen f fd) (gl : mg "show_seen" = some (.ref f)) (bn : Binds K fd ["seen_cells"] []) (mnot : mg "NOTHING" = some (.str "-" t1))
     : DefAt P w K mg base 1 "show_seen" f fd ["seen_cells"] spShow := by
  refine def_ok F sc_show_seen gl bn (fun vs ms kd xk h => by obtain ⟨_, _, rfl, _⟩ := h; rfl) fun cdv A outer s H E C own vs ms kd xk h => ?_
  obtain ⟨d, rows, rfl, hd, hlen, fit, q⟩ := h
  kspl_open x_in
  kspl_open x_go
  refine de_lc (by kspl_open x_ctx) (sc := defScope s_show_seen) [("number", 1), ("place", 2), ("value", 3)] rfl (by decide +kernel) ?_ (by intro _; rfl)
  refine dit_ls ?_
  kspl_open x_go
  refine ⟨_, hd, ?_⟩
  refine lct_map1 (sl := [1] ++ ([2] ++ ([3] ++ []))) (fun d => match d with | .tup [.int a, .int b, .int c] => .str (⟨(wordT (a, b, c)).toArray⟩) | _ => .non) (by decide) (by rw [List.length_map]; omega) (fun _ _ => ?_) ?_ ?_
  · exact hd.cons
  · intro i x acc L hx s H Cc cl fp
    simp only [wipeD, List.map, List.set]
    rw [List.getElem?_map] at hx
    cases ht : rows[i]? with
    | none => rw [ht] at hx; cases hx
    | some t =>
      rw [ht] at hx
      cases hx
      have f := fit t (List.mem_of_getElem? ht)
      unfold tri
      kspl_open x_go
      refine ⟨rfl, ?_⟩
      intro s H Cc cl fp
      have h0 : Str.empty.length = 0 := rfl
      have lc : ("," : Str).length = 1 := by decide +kernel
      have le : ("=" : Str).length = 1 := by decide +kernel
      have l1 := len_int f.a1
      have l2 := len_int f.b1
      have l3 := len_int f.c1
      kspl_open x_go
      refine .inl ⟨_, rfl, fit_log f.a1, ?_⟩
      kspl_open x_go
      refine ⟨len_ok (by simp only [str_app_len]; omega), ?_⟩
      kspl_open x_go
      refine ⟨len_ok (by simp only [str_app_len]; omega), ?_⟩
      kspl_open x_go
      refine .inl ⟨_, rfl, fit_log f.b1, ?_⟩
      kspl_open x_go
      refine ⟨len_ok (by simp only [str_app_len]; omega), ?_⟩
      kspl_open x_go
      refine ⟨len_ok (by simp only [str_app_len]; omega), ?_⟩
      kspl_open x_go
      refine .inl ⟨_, rfl, fit_log f.c1, ?_⟩
      kspl_open x_go
      refine ⟨len_ok (by simp only [str_app_len]; omega), ?_⟩
      kspl_open x_go
      refine ⟨congrArg D.str (tl_ext ?_), rfl⟩
      simp only [tl_app, tl_int, tl_comma, tl_is, tl_empty]
      show _ = (wordT (t.1, t.2.1, t.2.2)).toArray.toList
      rw [List.toList_toArray]
      unfold wordT
      simp
  · kspl_open x_go
    rw [List.map_map]
    have em : (List.map ((fun d => match d with | .tup [.int a, .int b, .int c] => D.str (⟨(wordT (a, b, c)).toArray⟩) | _ => .non) ∘ tri) rows) = (rows.map fun t => (⟨(wordT t).toArray⟩ : Str)).map D.str := by
      rw [List.map_map]
      rfl
    rw [em]
    have W : Wds rows (rows.map fun t => (⟨(wordT t).toArray⟩ : Str)) := ⟨by
      rw [List.map_map]
      refine List.map_congr_left fun t _ => ?_
      show (wordT t).toArray.toList = _
      rw [List.toList_toArray], fit⟩
    obtain ⟨w1, w2⟩ := wds_sum W
    obtain ⟨w3, w4⟩ := wds_text W
    have w5 := wds_len W
    have h2 : (" " : Str).length = 1 := by decide +kernel
    refine mtd_join .f (by rw [w2, h2]; omega) ?_
    refine trd_str (len_ok (by omega)) ?_
    rw [w3]
    cases rows with
    | nil =>
      refine br_is false rfl ?_
      rw [if_neg Bool.false_ne_true]
      kspl_open x_go
      exact ⟨_, MLe.refl _ _, q _ (by decide +kernel)⟩
    | cons t r =>
      refine br_is true rfl ?_
      rw [if_pos rfl]
      exact ⟨_, MLe.refl _ _, q _ (w4 rfl)⟩
end

end
section
open PySem PySem.Spec PyProof.Rows L2 DL Tx
section
variable {P : Program} {w : World} {K : PySem.W.Frag} {mg : Str → Option Value} {base : Heap}
set_option maxHeartbeats 4000000 in
theorem ok_longer {f f2 : Addr} {fd fd2 : FuncData} (F : Fun K "_law_longer" "_law_longer" s__law_longer f fd) (gl : mg "_law_longer" = some (.ref f)) (bn : Binds K fd ["pool", "wording"] []) (mlen : mg "len" = none) (mmax : mg "max" = none) (mrange : mg "range" = none)
    (Gd : DefAt P w K mg base 1 "_law_draw" f2 fd2 ["pool", "many"] spDraw)
     : DefAt P w K mg base 2 "_law_longer" f fd ["pool", "wording"] (spTxt 50 2) := by
  refine def_ok F sc__law_longer gl bn (fun vs ms kd xk h => by obtain ⟨_, _, _, _, rfl, _⟩ := h; rfl) fun cdv A outer s H E C own vs ms kd xk h => ?_
  obtain ⟨p, z, n, ms0, rfl, rfl, hn, hz, q⟩ := h
  kspl_open x_in
  kspl_open x_go
  refine de_lstM ?_
  kspl_open x_go
  intro pb
  kspl_open x_go
  kspl_open x_for
  kspl_open x_rng
  kspl_open x_go
  refine ⟨by omega, by omega, ?_⟩
  refine ⟨fun i ds' ms' => ∃ (bs : List Int) (o1 o2 o3 : Option D), (∀ b ∈ bs, 0 ≤ b ∧ b < z.length) ∧ bs.length ≤ i ∧ ds' = [some (.adr p), some (.str z), some (.adr pb), o1, o2, o3] ∧ ms' = (pb, .lst (bs.map D.int)) :: (p, poolM n) :: ms0, ⟨[], _, _, _, by simp, Nat.le_refl _, rfl, rfl⟩, fun _ _ _ _ _ => trivial, ?_, ?_⟩
  · rintro i x ds' ms' hx ⟨bs, o1, o2, o3, hb, hl, rfl, rfl⟩
    obtain ⟨hi, rfl⟩ := rangeD_get hx
    have hiz : i < z.length := by omega
    have hbl : (bs.map D.int).length < 100000 := by rw [List.length_map]; omega
    kspl_open x_go
    refine ixd_strI (len_ok (by omega)) (by omega) (by omega) (fun _ _ => rfl) (fun c _ => ?_)
    kspl_open x_go
    have fin : ∀ o1 o2 o3 : Option D, ∃ ms0_1, MLe K ((pb, MO.lst (List.map D.int bs)) :: (p, poolM n) :: ms0) ms0_1 ∧ ∃ (bs' : List Int) (p1 p2 p3 : Option D), (∀ b ∈ bs', 0 ≤ b ∧ b < z.length) ∧ bs'.length ≤ i + 1 ∧ [some (.adr p), some (.str z), some (.adr pb), o1, o2, o3] = [some (.adr p), some (.str z), some (.adr pb), p1, p2, p3] ∧ ms0_1 = (pb, .lst (bs'.map D.int)) :: (p, poolM n) :: ms0 :=
      fun o1 o2 o3 => ⟨_, MLe.refl _ _, bs, o1, o2, o3, hb, by omega, rfl, rfl⟩
    kspl_open x_br <;> intro h1
    · kspl_open x_go
      kspl_open x_br <;> intro h2
      · kspl_open x_go
        refine ⟨_, MLe.refl _ _, bs ++ [(i : Int)], _, _, _, ?_, by rw [List.length_append]; exact Nat.succ_le_succ hl, rfl, ?_⟩
        · intro b hbb
          rcases List.mem_append.mp hbb with h | h
          · exact hb b h
          · rw [List.mem_singleton] at h
            omega
        · rw [List.map_append, Int.zero_add]
          rfl
      · kspl_open x_go
        exact fin _ _ _
    · kspl_open x_go
      exact fin _ _ _
  · rintro ds' ms' ⟨bs, o1, o2, o3, hb, hl, rfl, rfl⟩
    rw [rangeD_len] at hl
    have hl2 : bs.length ≤ z.length := by omega
    clear hl
    kspl_open x_go
    kspl_open x_emp
    kspl_open x_go
    cases bs with
    | nil =>
      refine br_yes' rfl ?_
      kspl_open x_go
      exact ⟨_, MLe.tail.trans (mle_more (by omega)), q _ (by omega)⟩
    | cons b0 bs =>
      refine br_no' rfl ?_
      kspl_open x_go
      refine ⟨_, ms_front (.s .z) (.s .z), p, _, n, _, rfl, rfl, by omega, by simp, by rw [List.length_map]; omega, fun r r0 r1 => ?_⟩
      kspl_open x_go
      have hr : r.toNat < (b0 :: bs).length := by rw [List.length_map] at r1; omega
      obtain ⟨hb0, hb1⟩ := hb _ (List.getElem_mem hr)
      refine ixd_ls (x := .int (b0 :: bs)[r.toNat]) (.m (.s .z)) (atI_int r0 (by rw [List.getElem?_map, List.getElem?_eq_getElem hr]; rfl)) (fun _ _ => rfl) ?_
      generalize (b0 :: bs)[r.toNat] = bg at hb0 hb1 ⊢
      kspl_open x_go
      refine ds_while own (fun m ds' ms' => ∃ e : Int, 0 ≤ e ∧ e + m = z.length ∧ ds' = [some (.adr p), some (.str z), some (.adr pb), o1, some (.int bg), some (.int e)] ∧ ms' = (p, poolM (n + 1)) :: (pb, .lst ((b0 :: bs).map D.int)) :: ms0) ((z.length : Int) - bg).toNat ⟨bg, hb0, by omega, rfl, rfl⟩ ?_
      rintro m ds' ms' ⟨e, e0, em, rfl, rfl⟩
      have fin : ∀ e : Int, 0 ≤ e → DSs (cxOf (CX P w) P w K mg base ["pool", "wording", "begins", "spot", "begin", "end"] "_law_longer" (defScope s__law_longer) f cdv A outer s H E)
          (fun Cx d x ms2 => ∃ ms3, MLe K ms2 ms3 ∧ xk Cx d ms3) ((defBody s__law_longer).drop 6) [some (.adr p), some (.str z), some (.adr pb), o1, some (.int bg), some (.int e)] ((p, poolM (n + 1)) :: (pb, .lst ((b0 :: bs).map D.int)) :: ms0)
          { nx := fun _ ms2 => ∃ ms3, MLe K ms2 ms3 ∧ kd .non ms3, rt := fun d ms2 => ∃ ms3, MLe K ms2 ms3 ∧ kd d ms3 } := by
        intro e e0
        refine dss_cons ?_
        have c1 := cutS_length z none (some bg)
        have c2 := cutS_length z (some e) none
        kspl_open x_go
        refine ⟨_, MLe.refl _ _, p, _, n + 1, _, rfl, rfl, by omega, by decide, by decide, fun r r0 r1 => ?_⟩
        kspl_open x_go
        have h9 : ("9" : Str).length = 1 := by decide +kernel
        have c3 := mul_len "9" (39 + r)
        rw [h9] at c3
        refine opd_mulS (by rw [h9]; decide) (by omega) (by omega) ?_
        kspl_open x_go
        refine opd_addS (len_ok (by rw [str_app_len]; omega)) ?_
        refine ⟨_, (MLe.del (.s .z)), q _ ?_⟩
        rw [str_app_len, str_app_len]
        omega
      kspl_open x_go
      kspl_open x_br <;> intro h1
      · kspl_open x_go
        refine ixd_strI (len_ok (by omega)) (by omega) (by omega) (fun _ _ => rfl) (fun c _ => ?_)
        kspl_open x_go
        kspl_open x_br <;> intro h2
        · kspl_open x_go
          exact ⟨m - 1, by omega, e + 1, by omega, by omega, rfl, rfl⟩
        · exact fin e e0
      · kspl_open x_one
        exact fin e e0
end

end
section
open PySem PySem.Spec PyProof.Rows L2 DL Tx
section
variable {P : Program} {w : World} {K : PySem.W.Frag} {mg : Str → Option Value} {base : Heap}
set_option maxHeartbeats 8000000 in
theorem ok_changed {f f2 f3 : Addr} {fd fd2 fd3 : FuncData} (F : Fun K "_law_changed" "_law_changed" s__law_changed f fd) (gl : mg "_law_changed" = some (.ref f)) (bn : Binds K fd ["pool", "wording"] []) (mlen : mg "len" = none) 
    (Gd : DefAt P w K mg base 1 "_law_draw" f2 fd2 ["pool", "many"] spDraw) (Gl : DefAt P w K mg base 2 "_law_longer" f3 fd3 ["pool", "wording"] (spTxt 50 2))
     : DefAt P w K mg base 3 "_law_changed" f fd ["pool", "wording"] (spTxt 60 6) := by
  refine def_ok F sc__law_changed gl bn (fun vs ms kd xk h => by obtain ⟨_, _, _, _, rfl, _⟩ := h; rfl) fun cdv A outer s H E C own vs ms kd xk h => ?_
  obtain ⟨p, z, n, ms0, rfl, rfl, hn, hz, q⟩ := h
  have done : ∀ (j : Nat) (z' : Str), j ≤ 6 → z'.length ≤ 3 * z.length + 60 → ∃ ms3, MLe K ((p, poolM (n + j)) :: ms0) ms3 ∧ kd (.str z') ms3 := fun j z' hj hz' => ⟨_, mle_more (by omega), q z' hz'⟩
  kspl_open x_in
  kspl_open x_go
  refine ⟨_, MLe.refl _ _, p, _, n, _, rfl, rfl, by omega, by decide, by decide, fun way w0 w1 => ?_⟩
  kspl_open x_go
  refine de_lst ?_
  kspl_open x_go
  refine ⟨_, MLe.refl _ _, p, _, n + 1, _, rfl, rfl, by omega, by decide, by decide, fun r r0 r1 => ?_⟩
  kspl_open x_go
  have hsg : ∃ sg : Str, atI [D.str "0123 -=@,:", D.str "abcdefghijklmnopqrstuvwxyzABCXYZ0123456789 !#*+,-./:;<=>?@()[]_{|}"] r = some (.str sg) ∧ 1 ≤ sg.length ∧ sg.length ≤ 100 := by
    rcases (show r = 0 ∨ r = 1 by omega) with rfl | rfl
    · exact ⟨_, rfl, by decide +kernel, by decide +kernel⟩
    · exact ⟨_, rfl, by decide +kernel, by decide +kernel⟩
  obtain ⟨sg, hat, sg1, sg2⟩ := hsg
  refine ixd_ls .f hat (fun _ _ => rfl) ?_
  kspl_open x_go
  refine ⟨_, MLe.refl _ _, p, _, n + 1 + 1, _, rfl, rfl, by omega, by omega, by omega, fun spot s0 s1 => ?_⟩
  kspl_open x_go
  refine ⟨_, MLe.refl _ _, p, _, n + 1 + 1 + 1, _, rfl, rfl, by omega, by omega, by omega, fun si i0 i1 => ?_⟩
  kspl_open x_go
  refine ixd_strI (len_ok (by omega)) (by omega) (by omega) (fun _ _ => rfl) (fun c _ => ?_)
  have hc : (⟨#[c]⟩ : Str).length = 1 := rfl
  have c1 := cutS_length z none (some spot)
  have c2 := cutS_length z (some spot) none
  have c3 := cutS_length z (some (spot + 1)) none
  kspl_open x_go
  kspl_open x_br <;> intro h1
  · kspl_open x_go
    refine opd_addS (len_ok (by rw [str_app_len]; omega)) ?_
    exact done 4 _ (by decide) (by rw [str_app_len, str_app_len]; omega)
  kspl_open x_go
  kspl_open x_br <;> intro h2
  · kspl_open x_go
    exact done 4 _ (by decide) (by rw [str_app_len]; omega)
  kspl_open x_go
  kspl_open x_br <;> intro h3
  · kspl_open x_go
    refine opd_addS (len_ok (by rw [str_app_len]; omega)) ?_
    exact done 4 _ (by decide) (by rw [str_app_len, str_app_len]; omega)
  kspl_open x_go
  kspl_open x_br <;> intro h4
  · have l1 : ("" : Str).length = 0 := by decide +kernel
    have l2 : (" " : Str).length = 1 := by decide +kernel
    have l3 : (" -" : Str).length = 2 := by decide +kernel
    have l4 : ("-" : Str).length = 1 := by decide +kernel
    have l5 : ("  " : Str).length = 2 := by decide +kernel
    have l6 : ("@-" : Str).length = 2 := by decide +kernel
    have l7 : ("=-" : Str).length = 2 := by decide +kernel
    have l8 : (",," : Str).length = 2 := by decide +kernel
    have l9 : (" 0=1" : Str).length = 4 := by decide +kernel
    have l10 : (" 1@9" : Str).length = 4 := by decide +kernel
    have l11 : (" 0,0=0" : Str).length = 6 := by decide +kernel
    refine dss_menu (by kspl_open x_ctx) (by kspl_open x_nm) (by kspl_open x_loc) (by kspl_open x_loc) ?_ rfl rfl
    kspl_open x_t
    refine ⟨by omega, fun z1 g1 => ?_⟩
    rw [l5] at g1
    kspl_open x_t
    intro pm
    kspl_open x_put
    refine dssT_cons (dst_m PySem.F.plainAttrs_list PySem.F.slot_list_extend PySem.F.type_list_extend ?_ rfl rfl rfl rfl rfl rfl)
    kspl_open x_go
    refine dat_cons (det_lst ?_) rfl
    kspl_open x_t
    refine ⟨by omega, fun z2 g2 => ?_⟩
    rw [l6] at g2
    kspl_open x_t
    refine ⟨by omega, fun z3 g3 => ?_⟩
    rw [l7] at g3
    kspl_open x_t
    refine ⟨by omega, fun z4 g4 => ?_⟩
    rw [l1] at g4
    kspl_open x_t
    refine mtd_extend .z .f .z (len_ok (Nat.le_of_ble_eq_true rfl)) ?_
    refine dssT_cons (dst_m PySem.F.plainAttrs_list PySem.F.slot_list_extend PySem.F.type_list_extend ?_ rfl rfl rfl rfl rfl rfl)
    kspl_open x_go
    refine dat_cons (det_lst ?_) rfl
    kspl_open x_t
    refine ⟨by omega, fun z5 g5 => ?_⟩
    rw [l8] at g5
    kspl_open x_t
    refine mtd_extend .z .f .z (len_ok (Nat.le_of_ble_eq_true rfl)) ?_
    have hall : ∀ x ∈ ([D.str "", D.str (" " ++ z), D.str (z ++ " "), D.str (z ++ " -"), D.str "-", D.str z1] ++ [D.str z2, D.str z3, D.str z4] ++ [D.str z5, D.str (z ++ " 0=1"), D.str (z ++ " 1@9"), D.str (z ++ " 0,0=0")]), ∃ o : Str, x = .str o ∧ o.length ≤ 3 * z.length + 60 := by
      intro x hx
      simp only [List.cons_append, List.nil_append, List.mem_cons, List.not_mem_nil, or_false] at hx
      rcases hx with rfl | rfl | rfl | rfl | rfl | rfl | rfl | rfl | rfl | rfl | rfl | rfl | rfl
      all_goals exact ⟨_, rfl, by (try simp only [str_app_len]); omega⟩
    have hlen : ([D.str "", D.str (" " ++ z), D.str (z ++ " "), D.str (z ++ " -"), D.str "-", D.str z1] ++ [D.str z2, D.str z3, D.str z4] ++ [D.str z5, D.str (z ++ " 0=1"), D.str (z ++ " 1@9"), D.str (z ++ " 0,0=0")]).length = 13 := rfl
    generalize ([D.str "", D.str (" " ++ z), D.str (z ++ " "), D.str (z ++ " -"), D.str "-", D.str z1] ++ [D.str z2, D.str z3, D.str z4] ++ [D.str z5, D.str (z ++ " 0=1"), D.str (z ++ " 1@9"), D.str (z ++ " 0,0=0")]) = L at hall hlen ⊢
    refine DSs.t (dss_cons ?_)
    kspl_open x_go
    refine ⟨_, ms_front (.s .z) (.s .z), p, _, n + 4, _, rfl, rfl, by omega, by omega, by omega, fun r r0 r1 => ?_⟩
    kspl_open x_go
    have hr : r.toNat < L.length := by omega
    obtain ⟨o, ho1, ho2⟩ := hall _ (List.getElem_mem hr)
    refine ixd_ls (.m (.s .z)) (atI_int r0 ((List.getElem?_eq_getElem hr).trans (congrArg some ho1))) (fun _ _ => rfl) ?_
    exact ⟨_, (MLe.del (.s .z)).trans (mle_more (by omega)), q _ ho2⟩
  kspl_open x_go
  kspl_open x_br <;> intro h5
  · kspl_open x_go
    exact ⟨_, MLe.refl _ _, p, z, n + 4, _, rfl, rfl, by omega, hz, fun z' hz' => done 6 z' (by decide) (by omega)⟩
  kspl_open x_go
  rw [str_space]
  intro pw
  have hw1 := split_weight z ⟨#[32]⟩ (Nat.le_refl 1)
  have hw2 := split_pos z ⟨#[32]⟩
  generalize Txt.split z ⟨#[32]⟩ = ws at hw1 hw2 ⊢
  kspl_open x_go
  refine ⟨_, ms_front (.s .z) (.s .z), p, _, n + 4, _, rfl, rfl, by omega, by rw [List.length_map]; omega, by rw [List.length_map]; omega, fun one o0 o1 => ?_⟩
  kspl_open x_go
  refine ⟨_, MLe.refl _ _, p, _, n + 5, _, rfl, rfl, by omega, by rw [List.length_map]; omega, by rw [List.length_map]; omega, fun two t0 t1 => ?_⟩
  rw [List.length_map] at o1 t1
  have hone : one.toNat < ws.length := by omega
  have htwo : two.toNat < ws.length := by omega
  have ea : (ws.map D.str)[one.toNat]? = some (.str ws[one.toNat]) := by rw [List.getElem?_map, List.getElem?_eq_getElem hone]; rfl
  have eb : (ws.map D.str)[two.toNat]? = some (.str ws[two.toNat]) := by rw [List.getElem?_map, List.getElem?_eq_getElem htwo]; rfl
  have each : ∀ (l : List Str) (x : Str), x ∈ l → x.length + l.length ≤ (l.map (·.length)).sum + l.length := by
    intro l
    induction l with
    | nil => intro x h; cases h
    | cons a r ih =>
      intro x h
      rw [List.map_cons, List.sum_cons, List.length_cons]
      rcases List.mem_cons.mp h with rfl | h
      · omega
      · have := ih x h; omega
  have la : ws[one.toNat].length ≤ z.length := by
    have := each ws _ (List.getElem_mem hone); omega
  have lb : ws[two.toNat].length ≤ z.length := by
    have := each ws _ (List.getElem_mem htwo); omega
  generalize ws[one.toNat] = a at ea la
  generalize ws[two.toNat] = b at eb lb
  kspl_open x_go
  refine ixd_ls (.m (.s .z)) (atI_int o0 ea) (fun _ _ => rfl) ?_
  kspl_open x_go
  refine ixd_ls (.m (.s .z)) (atI_int t0 eb) (fun _ _ => rfl) ?_
  kspl_open x_go
  refine std_list (.s .z) (ixN_pos o0 (by rw [List.length_map]; omega)) (.s .z) ?_
  kspl_open x_go
  refine std_list (.s .z) (ixN_pos t0 (by rw [List.length_set, List.length_map]; omega)) (.s .z) ?_
  kspl_open x_go
  have em : (((ws.map D.str).set one.toNat (D.str b)).set two.toNat (D.str a)) = ((ws.set one.toNat b).set two.toNat a).map D.str := by
    rw [List.map_set, List.map_set]
  rw [em]
  have sw := swap_len (ws := ws) (i := one.toNat) (j := two.toNat) (a := b) (b := a)
  have jl := txt_join_len ((ws.set one.toNat b).set two.toNat a)
  rw [List.length_set, List.length_set] at jl
  have h1 : (⟨#[32]⟩ : Str).length = 1 := rfl
  refine mtd_join (.m (.s .z)) (by rw [List.length_set, List.length_set, h1]; omega) ?_
  rw [← str_space]
  exact ⟨_, (MLe.del (.s .z)).trans (mle_more (by omega)), q _ (by omega)⟩
end

end
section
open PySem PySem.Spec PyProof.Rows L2 DL Tx
section
variable {P : Program} {w : World} {K : PySem.W.Frag} {mg : Str → Option Value} {base : Heap}
set_option maxHeartbeats 8000000 in
theorem ok_right {f f2 f3 f4 f5 f6 f7 Cu : Addr} {fd fd2 fd3 fd4 fd5 fd6 fd7 : FuncData} (F : Fun K "_law_right" "_law_right" s__law_right f fd) (gl : mg "_law_right" = some (.ref f)) (bn : Binds K fd ["pool"] []) (mrange : mg "range" = none) (mstr : mg "str" = none) (mrepr : mg "repr" = none)
    (Gd : DefAt P w K mg base 1 "_law_draw" f2 fd2 ["pool", "many"] spDraw) (Gc : DefAt P w K mg base 3 "_law_changed" f3 fd3 ["pool", "wording"] (spTxt 60 6)) (Gs : DefAt P w K mg base 1 "show_seen" f4 fd4 ["seen_cells"] spShow) (Gr : DefAt P w K mg base 3 "read_seen" f5 fd5 ["text"] (spRead Cu))
    (Gt : DefAt P w K mg base 4 "_law_told" f6 fd6 ["wording"] spTold) (Gu : DefAt P w K mg base 3 "_law_due" f7 fd7 ["wording"] spDue) (Ks : KwB K fd4 ["seen_cells"] ["seen_cells"]) (Kr : KwB K fd5 ["text"] ["text"])
     : DefAtG P w K mg base 5 "_law_right" f fd ["pool"] (spRight 68) := by
  refine def_okG F sc__law_right gl bn (fun vs ms kd xk h => by obtain ⟨_, _, _, rfl, _⟩ := h; rfl) fun cdv A outer s H E C gd own vs ms kd xk h => ?_
  obtain ⟨p, n, ms0, rfl, rfl, hn, q⟩ := h
  kspl_open x_in
  kspl_open x_go
  refine de_lstM ?_
  kspl_open x_go
  intro pl
  kspl_open x_go
  refine de_lst ?_
  kspl_open x_go
  refine opd_pow (powW_of (a := 4) (by decide) (by decide) (by decide) (by decide)) ?_
  kspl_open x_go
  refine ⟨_, ms_front (.s .z) (.s .z), p, _, n, _, rfl, rfl, by omega, by decide, by decide, fun r r0 r1 => ?_⟩
  have hfar : ∃ far : Int, atI [D.int 9, D.int (10 ^ (30 : Int).toNat)] r = some (.int far) ∧ 9 ≤ far ∧ far ≤ 10 ^ 30 := by
    rcases (show r = 0 ∨ r = 1 by omega) with rfl | rfl
    · exact ⟨9, rfl, by decide, by decide⟩
    · exact ⟨10 ^ 30, rfl, by decide, by decide⟩
  obtain ⟨far, hat, far1, far2⟩ := hfar
  refine ixd_ls .f hat (fun _ _ => rfl) ?_
  kspl_open x_go
  kspl_open x_for
  kspl_open x_rng
  kspl_open x_go
  refine ⟨_, MLe.refl _ _, p, _, n + 1, _, rfl, rfl, by omega, by decide, by decide, fun many many0 many1 => ?_⟩
  refine ⟨_, rfl, by omega, by omega, ?_⟩
  refine ⟨fun i ds' ms' => ∃ (rows : List (Int × Int × Int)) (o1 : Option D), (∀ t ∈ rows, Fit t) ∧ rows.length = i ∧ ds' = [some (.adr p), some (.adr pl), some (.int far), o1, none, none, none, none, none, none, none] ∧ ms' = (p, poolM (n + 1 + 1 + 3 * i)) :: (pl, .lst (rows.map tri)) :: ms0, ⟨[], _, (by simp), rfl, rfl, rfl⟩, fun _ _ _ _ _ => trivial, ?_, ?_⟩
  · rintro i x ds' ms' hx ⟨rows, o1, fit, hl, rfl, rfl⟩
    obtain ⟨hi, rfl⟩ := rangeD_get hx
    have hi2 : i < 13 := by omega
    have hrl : (rows.map tri).length < 100000 := by rw [List.length_map]; omega
    kspl_open x_go
    refine ⟨_, MLe.refl _ _, p, _, _, _, rfl, rfl, by omega, by omega, by omega, fun a a0 a1 => ?_⟩
    kspl_open x_go
    refine ⟨_, MLe.refl _ _, p, _, _, _, rfl, rfl, by omega, by omega, by omega, fun b b0 b1 => ?_⟩
    kspl_open x_go
    refine ⟨_, MLe.refl _ _, p, _, _, _, rfl, rfl, by omega, by omega, by omega, fun c c0 c1 => ?_⟩
    kspl_open x_go
    refine ⟨_, MLe.refl _ _, rows ++ [(a, b - far, c)], _, ?_, by rw [List.length_append, hl]; rfl, rfl, ?_⟩
    · intro t ht
      rcases List.mem_append.mp ht with ht | ht
      · exact fit t ht
      · rw [List.mem_singleton] at ht
        subst ht
        exact ⟨a0, c0, by show a.natAbs < _; omega, by show (b - far).natAbs < _; omega, by show c.natAbs < _; omega⟩
    · rw [List.map_append, show n + 1 + 1 + 3 * (i + 1) = n + 1 + 1 + 3 * i + 1 + 1 + 1 by omega]
      rfl
  · rintro ds' ms' ⟨rows, o1, fit, hl, rfl, rfl⟩
    rw [rangeD_len] at hl
    have hr12 : rows.length ≤ 12 := by omega
    have hpool : n + 1 + 1 + 3 * (rangeD 0 many.toNat).length ≤ n + 38 := by rw [rangeD_len]; omega
    generalize n + 1 + 1 + 3 * (rangeD 0 many.toNat).length = n1 at hpool ⊢
    kspl_open x_go
    refine ds_setLc (by kspl_open x_ctx) (sc := defScope s__law_right) [("many", 8), ("spot", 9), ("size", 10)] (by kspl_open x_nm) rfl rfl (by decide +kernel) ?_ rfl (by intro _; rfl)
    refine dit_ls ?_
    kspl_open x_go
    refine ⟨_, .m (.s .z), ?_⟩
    refine lct_map1 (sl := [8] ++ ([9] ++ ([10] ++ []))) (fun d => match d with | .tup [.int a, .int b, .int c] => .str (⟨(wordT (a, b, c)).toArray⟩) | _ => .non) (by decide) (by rw [List.length_map]; omega) (fun _ _ => LsOf.m (.s (.s .z))) ?_ ?_
    · intro i x acc L hx s H Cc cl fp
      simp only [wipeD, List.map, List.set]
      rw [List.getElem?_map] at hx
      cases ht : rows[i]? with
      | none => rw [ht] at hx; cases hx
      | some t =>
        rw [ht] at hx
        cases hx
        have f := fit t (List.mem_of_getElem? ht)
        unfold tri
        kspl_open x_go
        refine ⟨rfl, ?_⟩
        intro s H Cc cl fp
        have lc : ("," : Str).length = 1 := by decide +kernel
        have le : ("=" : Str).length = 1 := by decide +kernel
        have l1 := len_int f.a1
        have l2 := len_int f.b1
        have l3 := len_int f.c1
        kspl_open x_go
        refine cad_strI (fit_log f.a1) ?_
        kspl_open x_go
        refine cad_strI (fit_log f.b1) ?_
        refine opd_addS (len_ok (by simp only [str_app_len]; omega)) ?_
        kspl_open x_go
        refine opd_addS (len_ok (by simp only [str_app_len]; omega)) ?_
        kspl_open x_go
        refine cad_strI (fit_log f.c1) ?_
        refine opd_addS (len_ok (by simp only [str_app_len]; omega)) ?_
        refine ⟨congrArg D.str (tl_ext ?_), rfl⟩
        simp only [tl_app, tl_int, tl_comma, tl_is]
        show _ = (wordT (t.1, t.2.1, t.2.2)).toArray.toList
        rw [List.toList_toArray]
        unfold wordT
        simp
    rw [List.map_map]
    have em : (List.map ((fun d => match d with | .tup [.int a, .int b, .int c] => D.str (⟨(wordT (a, b, c)).toArray⟩) | _ => .non) ∘ tri) rows) = (rows.map fun t => (⟨(wordT t).toArray⟩ : Str)).map D.str := by
      rw [List.map_map]
      rfl
    rw [em]
    have W : Wds rows (rows.map fun t => (⟨(wordT t).toArray⟩ : Str)) := ⟨by
      rw [List.map_map]
      refine List.map_congr_left fun t _ => ?_
      show (wordT t).toArray.toList = _
      rw [List.toList_toArray], fit⟩
    generalize (rows.map fun t => (⟨(wordT t).toArray⟩ : Str)) = ws at W ⊢
    obtain ⟨w1, w2⟩ := wds_sum W
    obtain ⟨w3, w4⟩ := wds_text W
    have w5 := wds_len W
    have h2 : (" " : Str).length = 1 := by decide +kernel
    kspl_open x_put
    refine dss_cut (fun ds' ms' => ∃ zz : Str, tl zz = textL rows ∧ zz.length ≤ 1600 ∧ ds' = [some (.adr p), some (.adr pl), some (.int far), o1, some (.lst (ws.map D.str)), some (.str zz), none, none, none, none, none] ∧ ms' = (p, poolM n1) :: (pl, .lst (rows.map tri)) :: ms0) ?_ ?_
    · kspl_open x_go
      refine mtd_join .f (by rw [w2, h2]; omega) ?_
      refine trd_str (len_ok (by omega)) ?_
      rw [w3]
      cases rows with
      | nil =>
        refine br_is false rfl ?_
        rw [if_neg Bool.false_ne_true]
        kspl_open x_go
        exact ⟨_, (by decide +kernel), (by decide +kernel), rfl, rfl⟩
      | cons t r =>
        refine br_is true rfl ?_
        rw [if_pos rfl]
        kspl_open x_go
        exact ⟨_, w4 rfl, by omega, rfl, rfl⟩
    rintro ds' ms' ⟨zz, hzz, lzz, rfl, rfl⟩
    have hdue : dueL (tl zz) = some rows := by rw [hzz]; exact due_text fit
    clear w1 w2 w3 w4 w5 em W
    refine dss_cons ?_
    kspl_open x_go
    have hrl : (rows.map tri).length < 100000 := by rw [List.length_map]; omega
    refine ⟨_, MLe.refl _ _, _, rows, rfl, .m (.s .z), by omega, fit, fun y hy => ?_⟩
    obtain rfl : y = zz := tl_ext (hy.trans hzz.symm)
    kspl_open x_go
    refine br_nyes rfl ?_
    kspl_open x_go
    refine ⟨rfl, _, MLe.refl _ _, _, rows, rfl, .m (.s .z), by omega, fit, fun y' hy' => ?_⟩
    obtain rfl : y' = y := tl_ext (hy'.trans hzz.symm)
    kspl_open x_go
    refine br_nyes rfl ?_
    kspl_open x_go
    refine ⟨rfl, _, MLe.refl _ _, _, rfl, by omega, fun r hr pt => ?_, fun hn => by rw [hdue] at hn; cases hn⟩
    rw [hdue] at hr
    cases hr
    kspl_open x_go
    refine opd_neX (by kspl_open x_ctx) (EqS.map eqs_tri rows rows) (.m (.m .z)) (.m (.m (.s (.s .z)))) (by decide) ?_
    kspl_open x_go
    refine br_nyes rfl ?_
    kspl_open x_go
    refine ⟨_, MLe.refl _ _, _, rfl, by omega, fun r hr pt2 => ?_, fun hn => by rw [hdue] at hn; cases hn⟩
    rw [hdue] at hr
    cases hr
    kspl_open x_go
    refine opd_neX (by kspl_open x_ctx) (EqS.map eqs_tri rows rows) (.m (.m .z)) (.m (.m (.s (.s (.s .z))))) (by decide) ?_
    kspl_open x_go
    refine br_nyes rfl ?_
    kspl_open x_go
    refine ds_st (ms' := (p, poolM n1) :: ms0) ((MLe.tail.trans MLe.tail).trans (MLe.del (.s .z))) ?_
    kspl_open x_for
    kspl_open x_rng
    kspl_open x_go
    refine ⟨by decide, by decide, ?_⟩
    refine ⟨fun i ds' ms' => ∃ (o3 o7 : Option D), ds' = [some (.adr p), some (.adr pl), some (.int far), o3, some (.lst (ws.map D.str)), some (.str y'), some (.adr pt), o7, none, none, none] ∧ ms' = (p, poolM (n1 + 6 * i)) :: ms0, ⟨_, _, rfl, rfl⟩, fun _ _ _ _ _ => trivial, ?_, ?_⟩
    · rintro i x ds' ms' hx ⟨o3, o7, rfl, rfl⟩
      obtain ⟨hi, rfl⟩ := rangeD_get hx
      have hi2 : i < 5 := hi
      kspl_open x_go
      refine ⟨_, MLe.refl _ _, p, _, _, _, rfl, rfl, by omega, by omega, fun bent hbent => ?_⟩
      kspl_open x_go
      obtain ⟨xs, hx1, hx2⟩ := due_shw (l := tl bent) (by rw [← tl_len]; omega)
      refine ⟨_, MLe.refl _ _, _, rfl, by omega, ?_⟩
      rw [hx1]
      kspl_open x_go
      refine cad_reprS (by kspl_open x_ctx) gd .f hx2 (by decide) (by decide) ?_
      kspl_open x_go
      refine ⟨_, MLe.refl _ _, _, rfl, by omega, ?_⟩
      rw [hx1]
      kspl_open x_go
      refine cad_reprS (by kspl_open x_ctx) gd .f hx2 (by decide) (by decide) ?_
      kspl_open x_go
      refine br_nyes rfl ?_
      kspl_open x_go
      exact ⟨_, mle_more (by omega), _, _, rfl, rfl⟩
    · rintro ds' ms' ⟨o3, o7, rfl, rfl⟩
      have h5 : (rangeD 0 (5 : Int).toNat).length = 5 := rfl
      rw [h5]
      have he : dueL (tl "") = none := by decide +kernel
      kspl_open x_go
      refine ⟨_, MLe.refl _ _, _, rfl, by decide +kernel, ?_⟩
      rw [he, show dueD none = D.lst [] from rfl]
      kspl_open x_go
      kspl_open x_emp
      exact ⟨_, mle_more (by omega), q⟩
end

end
section
open PySem PySem.Spec PyProof.Rows L2 DL Tx
section
variable {P : Program} {w : World} {K : PySem.W.Frag} {mg : Str → Option Value} {base : Heap}
set_option maxHeartbeats 8000000 in
theorem ok_law {f f2 f3 : Addr} {fd fd2 fd3 : FuncData} (F : Fun K "law" "law" s_law f fd) (gl : mg "law" = some (.ref f)) (bn : Binds K fd ["script"] []) (mrange : mg "range" = none) (mlen : mg "len" = none) (mmax : mg "max" = none) (mmin : mg "min" = none)
    (Gp : DefAt P w K mg base 1 "_law_pool" f2 fd2 ["script", "spot"] spPool) (Gr : DefAtG P w K mg base 5 "_law_right" f3 fd3 ["pool"] (spRight 68))
     : DefAtG P w K mg base 6 "law" f fd ["script"] spLaw := by
  refine def_okG F sc_law gl bn (fun vs ms kd xk h => by obtain ⟨_, rfl, _⟩ := h; rfl) fun cdv A outer s H E C gd own vs ms kd xk h => ?_
  obtain ⟨ns, rfl, hl, q⟩ := h
  kspl_open x_in
  kspl_open x_for
  kspl_open x_rng
  kspl_open x_go
  have hv : ∀ v : Int, v = (if (if (ns.length : Int) < 8 then (ns.length : Int) else 8) > 1 then if (ns.length : Int) < 8 then (ns.length : Int) else 8 else 1) → 1 ≤ v ∧ v ≤ 8 := by
    intro v hv
    split at hv
    · split at hv <;> omega
    · omega
  generalize (if (if (ns.length : Int) < 8 then (ns.length : Int) else 8) > 1 then if (ns.length : Int) < 8 then (ns.length : Int) else 8 else 1) = v at hv ⊢
  obtain ⟨v1, v8⟩ := hv v rfl
  refine ⟨by omega, by omega, ?_⟩
  refine ⟨fun i ds' ms' => ∃ (o1 o2 o3 : Option D), ds' = [some (.scr ns), o1, o2, o3] ∧ ms' = ms, ⟨_, _, _, rfl, rfl⟩, fun _ _ _ _ _ => trivial, ?_, ?_⟩
  · rintro i x ds' msA hx ⟨o1, o2, o3, rfl, rfl⟩
    obtain ⟨hi, rfl⟩ := rangeD_get hx
    have hi2 : i < 8 := by omega
    kspl_open x_go
    refine ⟨_, MLe.refl _ _, _, _, rfl, by omega, by omega, fun p => ?_⟩
    kspl_open x_go
    kspl_open x_for
    kspl_open x_rng
    kspl_open x_go
    refine ⟨by decide, by decide, ?_⟩
    refine ⟨fun i2 ds' ms' => ∃ (o1 o3 : Option D), ds' = [some (.scr ns), o1, some (.adr p), o3] ∧ ms' = (p, poolM (0 + 68 * i2)) :: msA, ⟨_, _, rfl, rfl⟩, fun _ _ _ _ _ => trivial, ?_, ?_⟩
    · rintro i2 x ds' ms' hx ⟨o1, o3, rfl, rfl⟩
      obtain ⟨hi, rfl⟩ := rangeD_get hx
      have hi3 : i2 < 2 := hi
      kspl_open x_go
      kspl_open x_callG
      kspl_open x_go
      refine ⟨_, MLe.refl _ _, p, _, _, rfl, rfl, by omega, ?_⟩
      kspl_open x_go
      exact ⟨_, mle_more (by omega), _, _, rfl, rfl⟩
    · rintro ds' ms' ⟨o1, o3, rfl, rfl⟩
      kspl_open x_go
      exact ⟨_, MLe.tail, _, _, _, rfl, rfl⟩
  · rintro ds' ms' ⟨o1, o2, o3, rfl, rfl⟩
    kspl_open x_go
    exact ⟨_, MLe.refl _ _, q⟩
end

end
end K63
namespace K63
open PySem PySem.Spec PyProof.Rows L2 DL Tx
section
set_option maxHeartbeats 4000000 in
theorem all_mk {l : PySem.W.OpenLaw} {w : World} {K : PySem.W.Frag} {h : Heap} {mg : Str → Option Value} {fa f0 f1 f2 f3 f4 f5 f6 f7 f8 f9 f10 f11 f12 f13 : Addr} (X : K.In h) (G : h.Ns mainGlobals mg) (hfa : mg "law" = some (.ref fa))
    {od0 an0 od1 an1 od2 an2 od3 an3 od4 an4 od5 an5 od6 an6 od7 an7 od8 an8 od9 an9 od10 an10 od11 an11 od12 an12 od13 an13 : Option Addr} {sl0 sl1 sl2 sl3 sl4 sl5 sl6 sl7 sl8 sl9 sl10 sl11 sl12 sl13 : Array (Option Value)} {oc0 kV0 dc0 pm0 cd0 ct0 oc1 kV1 dc1 pm1 cd1 ct1 oc2 kV2 dc2 pm2 cd2 ct2 oc3 kV3 dc3 pm3 cd3 ct3 oc4 kV4 dc4 pm4 cd4 ct4 oc5 kV5 dc5 pm5 cd5 ct5 oc6 kV6 dc6 pm6 cd6 ct6 oc7 kV7 dc7 pm7 cd7 ct7 oc8 kV8 dc8 pm8 cd8 ct8 oc9 kV9 dc9 pm9 cd9 ct9 oc10 kV10 dc10 pm10 cd10 ct10 oc11 kV11 dc11 pm11 cd11 ct11 oc12 kV12 dc12 pm12 cd12 ct12 oc13 kV13 dc13 pm13 cd13 ct13 : Value} {tk0 tk1 tk2 : Tok}
    {C Dg fI N cda cc : Addr} {nm q file : Str} {bs : List Value} {sn : List Str} {sub : List Value} {ab : Bool} {col : Option Bool} {dd odI anI cdd cdd2 : Option Addr} {m0 m1 m2 m3 m5 : Option Value} {ocI kVI dcI pmI ctI ccl ccl2 : Value} {slI ccs ccs2 : Array (Option Value)} {tf : Tok} {cvs : Array Value} {Ci : Addr}
    (a0 : PySem.W.nsIn K mainGlobals "number_in" = some (some (.ref f0))) (l0 : K.lookup f0 = some ⟨oc0, od0, .func (PySem.W.fnOf "number_in" "number_in" (defArgs s_number_in) (defBody s_number_in) (defScope s_number_in) .none kV0 dc0 pm0 an0 cd0 ct0), sl0⟩) (c0 : PySem.W.codeIn K cd0 "number_in" = true) (k0 : PySem.W.keepIn K (.ref f0) = true)
    (a1 : PySem.W.nsIn K mainGlobals "pair_in" = some (some (.ref f1))) (l1 : K.lookup f1 = some ⟨oc1, od1, .func (PySem.W.fnOf "pair_in" "pair_in" (defArgs s_pair_in) (defBody s_pair_in) (defScope s_pair_in) .none kV1 dc1 pm1 an1 cd1 ct1), sl1⟩) (c1 : PySem.W.codeIn K cd1 "pair_in" = true) (k1 : PySem.W.keepIn K (.ref f1) = true)
    (a2 : PySem.W.nsIn K mainGlobals "read_seen" = some (some (.ref f2))) (l2 : K.lookup f2 = some ⟨oc2, od2, .func (PySem.W.fnOf "read_seen" "read_seen" (defArgs s_read_seen) (defBody s_read_seen) (defScope s_read_seen) .none kV2 dc2 pm2 an2 cd2 ct2), sl2⟩) (c2 : PySem.W.codeIn K cd2 "read_seen" = true) (k2 : PySem.W.keepIn K (.ref f2) = true)
    (a3 : PySem.W.nsIn K mainGlobals "show_seen" = some (some (.ref f3))) (l3 : K.lookup f3 = some ⟨oc3, od3, .func (PySem.W.fnOf "show_seen" "show_seen" (defArgs s_show_seen) (defBody s_show_seen) (defScope s_show_seen) .none kV3 dc3 pm3 an3 cd3 ct3), sl3⟩) (c3 : PySem.W.codeIn K cd3 "show_seen" = true) (k3 : PySem.W.keepIn K (.ref f3) = true)
    (a4 : PySem.W.nsIn K mainGlobals "_law_pool" = some (some (.ref f4))) (l4 : K.lookup f4 = some ⟨oc4, od4, .func (PySem.W.fnOf "_law_pool" "_law_pool" (defArgs s__law_pool) (defBody s__law_pool) (defScope s__law_pool) .none kV4 dc4 pm4 an4 cd4 ct4), sl4⟩) (c4 : PySem.W.codeIn K cd4 "_law_pool" = true) (k4 : PySem.W.keepIn K (.ref f4) = true)
    (a5 : PySem.W.nsIn K mainGlobals "_law_draw" = some (some (.ref f5))) (l5 : K.lookup f5 = some ⟨oc5, od5, .func (PySem.W.fnOf "_law_draw" "_law_draw" (defArgs s__law_draw) (defBody s__law_draw) (defScope s__law_draw) .none kV5 dc5 pm5 an5 cd5 ct5), sl5⟩) (c5 : PySem.W.codeIn K cd5 "_law_draw" = true) (k5 : PySem.W.keepIn K (.ref f5) = true)
    (a6 : PySem.W.nsIn K mainGlobals "_law_integer" = some (some (.ref f6))) (l6 : K.lookup f6 = some ⟨oc6, od6, .func (PySem.W.fnOf "_law_integer" "_law_integer" (defArgs s__law_integer) (defBody s__law_integer) (defScope s__law_integer) .none kV6 dc6 pm6 an6 cd6 ct6), sl6⟩) (c6 : PySem.W.codeIn K cd6 "_law_integer" = true) (k6 : PySem.W.keepIn K (.ref f6) = true)
    (a7 : PySem.W.nsIn K mainGlobals "_law_two" = some (some (.ref f7))) (l7 : K.lookup f7 = some ⟨oc7, od7, .func (PySem.W.fnOf "_law_two" "_law_two" (defArgs s__law_two) (defBody s__law_two) (defScope s__law_two) .none kV7 dc7 pm7 an7 cd7 ct7), sl7⟩) (c7 : PySem.W.codeIn K cd7 "_law_two" = true) (k7 : PySem.W.keepIn K (.ref f7) = true)
    (a8 : PySem.W.nsIn K mainGlobals "_law_longer" = some (some (.ref f8))) (l8 : K.lookup f8 = some ⟨oc8, od8, .func (PySem.W.fnOf "_law_longer" "_law_longer" (defArgs s__law_longer) (defBody s__law_longer) (defScope s__law_longer) .none kV8 dc8 pm8 an8 cd8 ct8), sl8⟩) (c8 : PySem.W.codeIn K cd8 "_law_longer" = true) (k8 : PySem.W.keepIn K (.ref f8) = true)
    (a9 : PySem.W.nsIn K mainGlobals "_law_changed" = some (some (.ref f9))) (l9 : K.lookup f9 = some ⟨oc9, od9, .func (PySem.W.fnOf "_law_changed" "_law_changed" (defArgs s__law_changed) (defBody s__law_changed) (defScope s__law_changed) .none kV9 dc9 pm9 an9 cd9 ct9), sl9⟩) (c9 : PySem.W.codeIn K cd9 "_law_changed" = true) (k9 : PySem.W.keepIn K (.ref f9) = true)
    (a10 : PySem.W.nsIn K mainGlobals "_law_due" = some (some (.ref f10))) (l10 : K.lookup f10 = some ⟨oc10, od10, .func (PySem.W.fnOf "_law_due" "_law_due" (defArgs s__law_due) (defBody s__law_due) (defScope s__law_due) .none kV10 dc10 pm10 an10 cd10 ct10), sl10⟩) (c10 : PySem.W.codeIn K cd10 "_law_due" = true) (k10 : PySem.W.keepIn K (.ref f10) = true)
    (a11 : PySem.W.nsIn K mainGlobals "_law_told" = some (some (.ref f11))) (l11 : K.lookup f11 = some ⟨oc11, od11, .func (PySem.W.fnOf "_law_told" "_law_told" (defArgs s__law_told) (defBody s__law_told) (defScope s__law_told) .none kV11 dc11 pm11 an11 cd11 ct11), sl11⟩) (c11 : PySem.W.codeIn K cd11 "_law_told" = true) (k11 : PySem.W.keepIn K (.ref f11) = true)
    (a12 : PySem.W.nsIn K mainGlobals "_law_right" = some (some (.ref f12))) (l12 : K.lookup f12 = some ⟨oc12, od12, .func (PySem.W.fnOf "_law_right" "_law_right" (defArgs s__law_right) (defBody s__law_right) (defScope s__law_right) .none kV12 dc12 pm12 an12 cd12 ct12), sl12⟩) (c12 : PySem.W.codeIn K cd12 "_law_right" = true) (k12 : PySem.W.keepIn K (.ref f12) = true)
    (a13 : PySem.W.nsIn K mainGlobals "law" = some (some (.ref f13))) (l13 : K.lookup f13 = some ⟨oc13, od13, .func (PySem.W.fnOf "law" "law" (defArgs s_law) (defBody s_law) (defScope s_law) .none kV13 dc13 pm13 an13 cd13 ct13), sl13⟩) (c13 : PySem.W.codeIn K cd13 "law" = true) (k13 : PySem.W.keepIn K (.ref f13) = true)
    (yy0 : PySem.W.nsIn K mainGlobals "MOST_DIGITS" = some (some (.int 40 tk0)))
    (yy1 : PySem.W.nsIn K mainGlobals "DIGITS" = some (some (.str "0123456789" tk1)))
    (yy2 : PySem.W.nsIn K mainGlobals "NOTHING" = some (some (.str "-" tk2)))
    (z0 : PySem.W.nsIn K mainGlobals "int" = some none)
    (z1 : PySem.W.nsIn K mainGlobals "len" = some none)
    (z2 : PySem.W.nsIn K mainGlobals "all" = some none)
    (z3 : PySem.W.nsIn K mainGlobals "max" = some none)
    (z4 : PySem.W.nsIn K mainGlobals "abs" = some none)
    (z5 : PySem.W.nsIn K mainGlobals "min" = some none)
    (z6 : PySem.W.nsIn K mainGlobals "range" = some none)
    (z7 : PySem.W.nsIn K mainGlobals "str" = some none)
    (z8 : PySem.W.nsIn K mainGlobals "repr" = some none)
    (z9 : PySem.W.nsIn K mainGlobals "isinstance" = some none)
    (z10 : PySem.W.nsIn K mainGlobals "super" = some none)
    (z11 : PySem.W.nsIn K mainGlobals "tuple" = some none)
    (eC : PySem.W.nsIn K mainGlobals "Unreadable" = some (some (.ref C)))
    (eL : K.lookup C = some (PySem.excClassObj nm q C N bs [.ref Dg, .type "ValueError", .type "Exception", .type "BaseException", .type "object"] true sn sub ab col dd m0 m1 m2 m3 m5 "ValueError.__new__"))
    (e1 : PySem.W.findIn K (.ref C) "__setattr__" = some (some (.builtin "object.__setattr__"))) (e2 : PySem.W.findIn K (.ref C) "__getattribute__" = some (some (.builtin "BaseException.__getattribute__"))) (e3 : PySem.W.findIn K (.ref C) "__getattr__" = some none) (e4 : PySem.W.findIn K (.ref C) "value" = some none)
    (e5 : PySem.W.findIn K (.ref C) "__init__" = some (some (.ref fI))) (e6 : PySem.W.typeIn K (.ref fI) = some (.type "function")) (e7 : PySem.W.keepIn K (.ref C) = true) (e8 : PySem.W.subIn K (.ref C) (.type "BaseException") = some true) (e9 : PySem.W.typeIn K (.ref C) = some (.type "type"))
    (e10 : PySem.W.hasDictIn K C = true) (e11 : PySem.W.isClsIn K Dg = true) (e12 : PySem.W.mroIn K C (.ref Dg) = some true) (e13 : PySem.W.subIn K (.ref C) (.type "ValueError") = some true) (e14 : PySem.W.ks_superIn K C Dg "__init__" = some (some (.builtin "ValueError.__init__"))) (e15 : PySem.W.nsIn K cStatics "thirdparty.any" = some none)
    (e16 : K.lookup fI = some ⟨ocI, odI, .func (PySem.W.ksFn "__init__" "GrowthError.__init__" (defArgs s_GrowthError_init) (defBody s_GrowthError_init) (defScope s_GrowthError_init) .none kVI dcI pmI anI (.ref cda) ctI cc), slI⟩) (e17 : PySem.W.codeIn K (.ref cda) "GrowthError.__init__" = true) (e18 : K.lookup cda = some ⟨ccl, cdd, .fields cvs, ccs⟩) (e19 : cvs[2]? = some (.str file tf)) (e20 : ((l.prog.main.file : Str) == file) = true) (e21 : K.lookup cc = some ⟨ccl2, cdd2, .cell (some (.ref Dg)), ccs2⟩)
    (e22 : PySem.W.findIn K (.ref C) "__class__" = some (some (.builtin "object.__class__"))) (e23 : PySem.W.specialIn K (.builtin "object.__class__") "__get__" = some (some (.builtin "getset_descriptor.__get__"))) (e24 : PySem.W.takesIn K (.builtin "object.__class__") = some true) (e25 : PySem.W.mroIn K C (.type "object") = some true) (e26 : PySem.W.subIn K (.ref C) (.ref C) = some true) (e27 : (l.prog.main.scope.names.lookup ("super" : Str)).isSome = false)
    (iCi : PySem.W.nsIn K mainGlobals "InvalidSeen" = some (some (.ref Ci))) (jCi : PySem.W.kitOne K (.ref C) (.ref Ci) = some false)
    : ∃ fd : FuncData, (∀ (s : Shared) (u : Value), BindsTo s fd ⟨[u], []⟩ [("script", u)]) ∧ ∀ base : Heap, K.In base → base.Ns mainGlobals mg → FnOkG l.prog w K mg base (L2.CX l.prog w) 6 fa fd ["script"] (toSp K spLaw) := by
  have e := hfa.symm.trans (PySem.W.mg_of X G a13)
  cases e
  have F0 := fun_mk (st := s_number_in) l0 c0 k0
  have B0 := F0.binds (ps := ["text"]) fun _ _ _ _ _ _ us hl => match us, hl with | [_], _ => rfl
  have F1 := fun_mk (st := s_pair_in) l1 c1 k1
  have B1 := F1.binds (ps := ["text", "glue"]) fun _ _ _ _ _ _ us hl => match us, hl with | [_, _], _ => rfl
  have F2 := fun_mk (st := s_read_seen) l2 c2 k2
  have B2 := F2.binds (ps := ["text"]) fun _ _ _ _ _ _ us hl => match us, hl with | [_], _ => rfl
  have F3 := fun_mk (st := s_show_seen) l3 c3 k3
  have B3 := F3.binds (ps := ["seen_cells"]) fun _ _ _ _ _ _ us hl => match us, hl with | [_], _ => rfl
  have F4 := fun_mk (st := s__law_pool) l4 c4 k4
  have B4 := F4.binds (ps := ["script", "spot"]) fun _ _ _ _ _ _ us hl => match us, hl with | [_, _], _ => rfl
  have F5 := fun_mk (st := s__law_draw) l5 c5 k5
  have B5 := F5.binds (ps := ["pool", "many"]) fun _ _ _ _ _ _ us hl => match us, hl with | [_, _], _ => rfl
  have F6 := fun_mk (st := s__law_integer) l6 c6 k6
  have B6 := F6.binds (ps := ["wording"]) fun _ _ _ _ _ _ us hl => match us, hl with | [_], _ => rfl
  have F7 := fun_mk (st := s__law_two) l7 c7 k7
  have B7 := F7.binds (ps := ["wording", "glue"]) fun _ _ _ _ _ _ us hl => match us, hl with | [_, _], _ => rfl
  have F8 := fun_mk (st := s__law_longer) l8 c8 k8
  have B8 := F8.binds (ps := ["pool", "wording"]) fun _ _ _ _ _ _ us hl => match us, hl with | [_, _], _ => rfl
  have F9 := fun_mk (st := s__law_changed) l9 c9 k9
  have B9 := F9.binds (ps := ["pool", "wording"]) fun _ _ _ _ _ _ us hl => match us, hl with | [_, _], _ => rfl
  have F10 := fun_mk (st := s__law_due) l10 c10 k10
  have B10 := F10.binds (ps := ["wording"]) fun _ _ _ _ _ _ us hl => match us, hl with | [_], _ => rfl
  have F11 := fun_mk (st := s__law_told) l11 c11 k11
  have B11 := F11.binds (ps := ["wording"]) fun _ _ _ _ _ _ us hl => match us, hl with | [_], _ => rfl
  have F12 := fun_mk (st := s__law_right) l12 c12 k12
  have B12 := F12.binds (ps := ["pool"]) fun _ _ _ _ _ _ us hl => match us, hl with | [_], _ => rfl
  have F13 := fun_mk (st := s_law) l13 c13 k13
  have B13 := F13.binds (ps := ["script"]) fun _ _ _ _ _ _ us hl => match us, hl with | [_], _ => rfl
  have T : SupTxt l.prog K mg "Unreadable" C Dg fI :=
    { oex := ⟨⟨nm, q, N, bs, _, sn, sub, ab, col, dd, m0, m1, m2, m3, m5, eL, by first | rfl | decide⟩, e1, e8, e9, e7⟩, xf := ⟨e2, e3, e8, e10⟩, gC := PySem.W.mg_of X G eC, noV := e4, iC := e5, tI := e6, hD := Option.isSome_iff_exists.mp e11, sub := e12, subV := e13, sup := e14, opq := e15, mgs := (PySem.W.mg_none_of X G z10), top := e27,
      fn := ⟨ocI, odI, kVI, dcI, pmI, anI, cda, ctI, slI, cc, file, tf, cvs, ccl, cdd, ccs, ccl2, cdd2, ccs2, _, _, _, _, _, _, _, _, _, _, _, _, _, by rfl, e16, e17, e18, e19, e20, e21⟩ }
  have Te : ExcC K C := ⟨e2, e3, e8, e10, e22, e23, e24, e25⟩
  have ks : KwB K _ ["seen_cells"] ["seen_cells"] := kw_one F3 fun _ _ _ _ _ _ _ => rfl
  have kr : KwB K _ ["text"] ["text"] := kw_one F2 fun _ _ _ _ _ _ _ => rfl
  refine ⟨PySem.W.fnOf "law" "law" (defArgs s_law) (defBody s_law) (defScope s_law) .none kV13 dc13 pm13 an13 cd13 ct13, fun s v => .of_eq rfl, fun base _ _ => ?_⟩
  have Gnum := ok_number_in (P := l.prog) (w := w) (base := base) F0 (PySem.W.mg_of X G a0) B0 (PySem.W.mg_none_of X G z0) (PySem.W.mg_none_of X G z1) (PySem.W.mg_none_of X G z2) (PySem.W.mg_of X G yy0) (PySem.W.mg_of X G yy1)
  have Gpair := ok_pair (P := l.prog) (w := w) (base := base) F1 (PySem.W.mg_of X G a1) B1 Gnum
  have Gread := ok_read (P := l.prog) (w := w) (base := base) F2 (PySem.W.mg_of X G a2) B2 (PySem.W.mg_of X G yy2) Gnum Gpair T
  have Gshow := ok_show (P := l.prog) (w := w) (base := base) F3 (PySem.W.mg_of X G a3) B3 (PySem.W.mg_of X G yy2)
  have Gpool := ok_pool (P := l.prog) (w := w) (base := base) F4 (PySem.W.mg_of X G a4) B4 (PySem.W.mg_none_of X G z0) (PySem.W.mg_none_of X G z1) (PySem.W.mg_none_of X G z3) (PySem.W.mg_none_of X G z4)
  have Gdraw := ok_draw (P := l.prog) (w := w) (base := base) F5 (PySem.W.mg_of X G a5) B5 (PySem.W.mg_none_of X G z0)
  have Gint := ok_integer (P := l.prog) (w := w) (base := base) F6 (PySem.W.mg_of X G a6) B6 (PySem.W.mg_none_of X G z0) (PySem.W.mg_none_of X G z1)
  have Gtwo := ok_two (P := l.prog) (w := w) (base := base) F7 (PySem.W.mg_of X G a7) B7 (PySem.W.mg_none_of X G z1) Gint
  have Glong := ok_longer (P := l.prog) (w := w) (base := base) F8 (PySem.W.mg_of X G a8) B8 (PySem.W.mg_none_of X G z1) (PySem.W.mg_none_of X G z3) (PySem.W.mg_none_of X G z6) Gdraw
  have Gchg := ok_changed (P := l.prog) (w := w) (base := base) F9 (PySem.W.mg_of X G a9) B9 (PySem.W.mg_none_of X G z1) Gdraw Glong
  have Gdue := ok_due (P := l.prog) (w := w) (base := base) F10 (PySem.W.mg_of X G a10) B10 (PySem.W.mg_none_of X G z1) (PySem.W.mg_none_of X G z11) Gint Gtwo
  have Gtold := ok_told (P := l.prog) (w := w) (base := base) F11 (PySem.W.mg_of X G a11) B11 (PySem.W.mg_none_of X G z9) (PySem.W.mg_of X G iCi) Gread T (exm_own e8 e10 e9 e26) Te jCi
  have Gright := ok_right (P := l.prog) (w := w) (base := base) F12 (PySem.W.mg_of X G a12) B12 (PySem.W.mg_none_of X G z6) (PySem.W.mg_none_of X G z7) (PySem.W.mg_none_of X G z8) Gdraw Gchg Gshow Gread Gtold Gdue ks kr
  have Glaw := ok_law (P := l.prog) (w := w) (base := base) F13 (PySem.W.mg_of X G a13) B13 (PySem.W.mg_none_of X G z6) (PySem.W.mg_none_of X G z1) (PySem.W.mg_none_of X G z3) (PySem.W.mg_none_of X G z5) Gpool Gright
  exact Glaw.fn
end
end K63
open PySem PySem.W PyProof.Rows
set_option maxRecDepth 100000 in
set_option maxHeartbeats 0 in
theorem PySem.Challenge.cw_grownrows_k63_seen_cells_in_texts_holds : PySem.Challenge.rw_grownrows_k63_seen_cells_in_texts.Holds := by
  w_on; o_law; k_head; (case hw => w_witness2)
  k_fill
  refine DL.walk_ofG (l := PySem.Challenge.rw_grownrows_k63_seen_cells_in_texts) (n := 63) (k := 6) (x := "script") (CX := fun w => L2.CX (PySem.Challenge.rw_grownrows_k63_seen_cells_in_texts).prog w) (sp := fun w => DL.toSp _ Tx.spLaw) rfl (by decide) rfl ⟨rfl, by decide, by decide⟩ (fun w h Y => PySem.W.kIn_of Y) ?F (fun w H a ns hl _ hS => DL.toSp_script hS ⟨ns, rfl, Nat.le_trans hl (by decide), rfl⟩) (fun w => DL.quietL)
  case F =>
    intro w mg fa h KX G hmg
    refine' K63.all_mk KX G hmg ?a0 ?l0 ?c0 ?k0 ?a1 ?l1 ?c1 ?k1 ?a2 ?l2 ?c2 ?k2 ?a3 ?l3 ?c3 ?k3 ?a4 ?l4 ?c4 ?k4 ?a5 ?l5 ?c5 ?k5 ?a6 ?l6 ?c6 ?k6 ?a7 ?l7 ?c7 ?k7 ?a8 ?l8 ?c8 ?k8 ?a9 ?l9 ?c9 ?k9 ?a10 ?l10 ?c10 ?k10 ?a11 ?l11 ?c11 ?k11 ?a12 ?l12 ?c12 ?k12 ?a13 ?l13 ?c13 ?k13 ?yy0 ?yy1 ?yy2 ?z0 ?z1 ?z2 ?z3 ?z4 ?z5 ?z6 ?z7 ?z8 ?z9 ?z10 ?z11 ?eC ?eL ?e1 ?e2 ?e3 ?e4 ?e5 ?e6 ?e7 ?e8 ?e9 ?e10 ?e11 ?e12 ?e13 ?e14 ?e15 ?e16 ?e17 ?e18 ?e19 ?e20 ?e21 ?e22 ?e23 ?e24 ?e25 ?e26 ?e27 ?iCi ?jCi
    (case a0 => k_is)
    (case l0 => k_is)
    (case c0 => k_is)
    (case k0 => k_is)
    (case a1 => k_is)
    (case l1 => k_is)
    (case c1 => k_is)
    (case k1 => k_is)
    (case a2 => k_is)
    (case l2 => k_is)
    (case c2 => k_is)
    (case k2 => k_is)
    (case a3 => k_is)
    (case l3 => k_is)
    (case c3 => k_is)
    (case k3 => k_is)
    (case a4 => k_is)
    (case l4 => k_is)
    (case c4 => k_is)
    (case k4 => k_is)
    (case a5 => k_is)
    (case l5 => k_is)
    (case c5 => k_is)
    (case k5 => k_is)
    (case a6 => k_is)
    (case l6 => k_is)
    (case c6 => k_is)
    (case k6 => k_is)
    (case a7 => k_is)
    (case l7 => k_is)
    (case c7 => k_is)
    (case k7 => k_is)
    (case a8 => k_is)
    (case l8 => k_is)
    (case c8 => k_is)
    (case k8 => k_is)
    (case a9 => k_is)
    (case l9 => k_is)
    (case c9 => k_is)
    (case k9 => k_is)
    (case a10 => k_is)
    (case l10 => k_is)
    (case c10 => k_is)
    (case k10 => k_is)
    (case a11 => k_is)
    (case l11 => k_is)
    (case c11 => k_is)
    (case k11 => k_is)
    (case a12 => k_is)
    (case l12 => k_is)
    (case c12 => k_is)
    (case k12 => k_is)
    (case a13 => k_is)
    (case l13 => k_is)
    (case c13 => k_is)
    (case k13 => k_is)
    (case yy0 => k_is)
    (case yy1 => k_is)
    (case yy2 => k_is)
    (case z0 => k_is)
    (case z1 => k_is)
    (case z2 => k_is)
    (case z3 => k_is)
    (case z4 => k_is)
    (case z5 => k_is)
    (case z6 => k_is)
    (case z7 => k_is)
    (case z8 => k_is)
    (case z9 => k_is)
    (case z10 => k_is)
    (case z11 => k_is)
    (case eC => k_is)
    (case eL => k_is)
    (case e1 => k_is)
    (case e2 => k_is)
    (case e3 => k_is)
    (case e4 => k_is)
    (case e5 => k_is)
    (case e6 => k_is)
    (case e7 => k_is)
    (case e8 => k_is)
    (case e9 => k_is)
    (case e10 => k_is)
    (case e11 => k_is)
    (case e12 => k_is)
    (case e13 => k_is)
    (case e14 => ks_is)
    (case e15 => k_is)
    (case e16 => k_is)
    (case e17 => k_is)
    (case e18 => k_is)
    (case e19 => rfl)
    (case e20 => first | rfl | decide +kernel)
    (case e21 => k_is)
    (case e22 => k_is)
    (case e23 => k_is)
    (case e24 => k_is)
    (case e25 => k_is)
    (case e26 => first | rfl | k_is)
    (case e27 => first | rfl | decide +kernel | k_is)
    (case iCi => k_is)
    (case jCi => kit_is)

