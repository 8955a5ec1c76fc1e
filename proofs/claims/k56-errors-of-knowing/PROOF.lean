import PyProof.Rows.All
import Wide.All
import OpenK.AllK
import Wide.FinOn
import HandS.ForMost
import HandS.Exc
import HandS.TryOnly
import HandS.WordsExc
import HandS.Flow
import HandS.Iter
import HandS.Wide
import HandS.FStr
import HandS.Style
import HandS.More
import HandS.CallSlots
import HandS.ExcOwn
import PyProof.EqAt
import PyProof.EqKinds
import PyProof.NeKinds
import KE.KExcSuper
import KE.KSuper
import HandS.ExcInit
import HandS.ExcField
import HandS.ExcIs
import HandS.Star
import HandS.EndBits
import PyProof.ReprRoads
import PyProof.FitsInt
import HandS.Replace
import HandS.ReplaceLit
import PyProof.Rows.StrMul
import HandS.DictTup
import HandS.SortInts
import HandS.Property
import HandS.OwnEq
import HandS.IsInst
import HandS.MakeKw
import HandS.SortRule
import HandS.Conv
import KE.KDictPairs
import KE.KDictWalk
import PyProof.MinMaxWalk
import HandS.HotCalls
import HandS.DictComp
import HandS.WideMore
import KE.IntTextLaws
import KE.IntTextText
import KE.KIntText
import KE.RegKSuper
import KE.RegKIsAll
import PySem.Challenge.RW_grownrows_k56_errors_of_knowing
set_option Elab.async false
set_option linter.all false
set_option maxRecDepth 100000
/-! DL0: data, what stands for it, the store, the judgements on data. -/
namespace DL
open PySem PySem.Spec PyProof.Rows L2
/-- deep data; adr: an object that may change (it stands in the store) -/
inductive D where
  | non | bl (b : Bool) | int (i : Int) | str (x : Str)
  | lst (xs : List D) | tup (xs : List D) | ttp (xs : List D) | dic (kvs : List (Key × D)) | ins (C : Addr) (fs : List (Str × D)) | adr (a : Addr)
  | ty (n : String) | scr (ns : List Int) | err (a dx : Addr) (d : D)
abbrev DEnv := List (Option D)
/-- a tuple of the built-in class itself, without a dict -/
def ExT (o : Obj) : Prop := o.cls = .type "tuple" ∧ o.dict = none ∧ ∃ its n, o.data = .seq its n
section
variable (K : PySem.W.Frag) (F : Hp)
mutual
def Rep : D → V → Prop
  | .non, v => v = .non
  | .bl b, v => v = .bl b
  | .int i, v => v = .int i
  | .str x, v => v = .str x
  | .ty n, v => v = .ty n
  | .lst ds, v => ∃ a vs, v = .ref a ∧ F a = some (.lst vs) ∧ RepL ds vs
  | .scr ns, v => ∃ a, v = .ref a ∧ SqL K F a (ns.map V.int)
  | .err a dx d, v => v = .ref a ∧ ∃ u, F dx = some (.xd [("value", u)]) ∧ Rep d u
  | .tup ds, v => ∃ a vs, v = .ref a ∧ SqT K F a vs ∧ RepL ds vs
  | .ttp ds, v => ∃ a vs, v = .ref a ∧ (∃ o, F a = some (.frz o (.tup vs)) ∧ ExT o) ∧ RepL ds vs
  | .dic kds, v => ∃ a kvs, v = .ref a ∧ (∃ o, F a = some (.frz o (.dK kvs))) ∧ RepK kds kvs
  | .ins C fds, v => ∃ a dx fs, v = .ref a ∧ F a = some (.ins C dx fs) ∧ RepF fds fs
  | .adr a, v => v = .ref a
def RepL : List D → List V → Prop
  | [], vs => vs = []
  | d :: ds, vs => ∃ v r, vs = v :: r ∧ Rep d v ∧ RepL ds r
def RepK : List (Key × D) → List (Key × V) → Prop
  | [], vs => vs = []
  | (k, d) :: ds, vs => ∃ v r, vs = (k, v) :: r ∧ Rep d v ∧ RepK ds r
def RepF : List (Str × D) → List (Str × V) → Prop
  | [], vs => vs = []
  | (k, d) :: ds, vs => ∃ v r, vs = (k, v) :: r ∧ Rep d v ∧ RepF ds r
end
end
/-- an object of the store -/
inductive MO where
  | lst (xs : List D) | dic (kvs : List (Key × D)) | ins (C : Addr) (fs : List (Str × D)) | oth (u : HO) | sm (φ : HO → Prop)
abbrev MS := List (Addr × MO)
def MRep (K : PySem.W.Frag) (F : Hp) : MO → HO → Prop
  | .lst ds, u => ∃ vs, u = .lst vs ∧ RepL K F ds vs
  | .dic kds, u => ∃ kvs, u = .dK kvs ∧ RepK K F kds kvs
  | .ins C fds, u => ∃ dx fs, u = .ins C dx fs ∧ RepF K F fds fs
  | .oth w, u => u = w
  | .sm φ, u => φ u

/-! ### the frozen part grows -/
def isDk : HO → Bool
  | .dK _ => true
  | .dT _ => true
  | _ => false
structure Le (F F' : Hp) : Prop where
  nd : ∀ a o, F a = some o → isDk o = false → F' a = some o
  dk : ∀ a o, F a = some o → isDk o = true → Rd F' a o
theorem Le.refl (F : Hp) : Le F F := ⟨fun _ _ h _ => h, fun _ _ h _ => .inl h⟩
theorem Le.rd {F F' : Hp} (e : Le F F') {a : Addr} {u : HO} (h : Rd F a u) : Rd F' a u := by
  rcases h with h | ⟨o, h⟩
  · cases hu : isDk u with
    | true => exact e.dk a u h hu
    | false => exact .inl (e.nd a u h hu)
  · exact .inr ⟨o, e.nd a _ h rfl⟩
theorem Le.trans {F F1 F2 : Hp} (e : Le F F1) (f : Le F1 F2) : Le F F2 :=
  ⟨fun a o h hu => f.nd a o (e.nd a o h hu) hu, fun a o h hu => f.rd (e.dk a o h hu)⟩
theorem Le.new {F : Hp} {p : Addr} {o : HO} (h : F p = none) : Le F (upd F p o) :=
  ⟨fun a u e _ => by rw [upd_ne (ne_of_none e h)]; exact e, fun a u e _ => .inl (by rw [upd_ne (ne_of_none e h)]; exact e)⟩
theorem Le.sqL {K : PySem.W.Frag} {F F' : Hp} (e : Le F F') {a : Addr} {vs : List V} (h : SqL K F a vs) : SqL K F' a vs := h.elim (fun h => .inl (e.rd h)) .inr
theorem Le.sqT {K : PySem.W.Frag} {F F' : Hp} (e : Le F F') {a : Addr} {vs : List V} (h : SqT K F a vs) : SqT K F' a vs := h.elim (fun h => .inl (e.rd h)) .inr
section
variable {K : PySem.W.Frag} {F F' : Hp}
mutual
theorem Rep.mono (e : Le F F') : ∀ {d : D} {v : V}, Rep K F d v → Rep K F' d v
  | .non, _, h => h
  | .bl _, _, h => h
  | .int _, _, h => h
  | .str _, _, h => h
  | .ty _, _, h => h
  | .adr _, _, h => h
  | .lst _, _, ⟨a, vs, h1, h2, h3⟩ => ⟨a, vs, h1, e.nd _ _ h2 rfl, RepL.mono e h3⟩
  | .scr _, _, ⟨a, h1, h2⟩ => ⟨a, h1, e.sqL h2⟩
  | .err _ _ _, _, ⟨h1, u, h2, h3⟩ => ⟨h1, u, e.nd _ _ h2 rfl, Rep.mono e h3⟩
  | .tup _, _, ⟨a, vs, h1, h2, h3⟩ => ⟨a, vs, h1, e.sqT h2, RepL.mono e h3⟩
  | .ttp _, _, ⟨a, vs, h1, ⟨o, h2, h4⟩, h3⟩ => ⟨a, vs, h1, ⟨o, e.nd _ _ h2 rfl, h4⟩, RepL.mono e h3⟩
  | .dic _, _, ⟨a, vs, h1, ⟨o, h2⟩, h3⟩ => ⟨a, vs, h1, ⟨o, e.nd _ _ h2 rfl⟩, RepK.mono e h3⟩
  | .ins _ _, _, ⟨a, dx, fs, h1, h2, h3⟩ => ⟨a, dx, fs, h1, e.nd _ _ h2 rfl, RepF.mono e h3⟩
theorem RepL.mono (e : Le F F') : ∀ {ds : List D} {vs : List V}, RepL K F ds vs → RepL K F' ds vs
  | [], _, h => h
  | _ :: _, _, ⟨v, r, h1, h2, h3⟩ => ⟨v, r, h1, Rep.mono e h2, RepL.mono e h3⟩
theorem RepK.mono (e : Le F F') : ∀ {ds : List (Key × D)} {vs : List (Key × V)}, RepK K F ds vs → RepK K F' ds vs
  | [], _, h => h
  | (_, _) :: _, _, ⟨v, r, h1, h2, h3⟩ => ⟨v, r, h1, Rep.mono e h2, RepK.mono e h3⟩
theorem RepF.mono (e : Le F F') : ∀ {ds : List (Str × D)} {vs : List (Str × V)}, RepF K F ds vs → RepF K F' ds vs
  | [], _, h => h
  | (_, _) :: _, _, ⟨v, r, h1, h2, h3⟩ => ⟨v, r, h1, Rep.mono e h2, RepF.mono e h3⟩
end
theorem Rep.tt {d : List D} {v : V} (h : Rep K F (.ttp d) v) : Rep K F (.tup d) v := by
  obtain ⟨a, vs, h1, ⟨o, h2, _⟩, h3⟩ := h
  exact ⟨a, vs, h1, .inl (.inr ⟨o, h2⟩), h3⟩
theorem MRep.mono (e : Le F F') : ∀ {o : MO} {u : HO}, MRep K F o u → MRep K F' o u
  | .lst _, _, ⟨vs, h1, h2⟩ => ⟨vs, h1, h2.mono e⟩
  | .dic _, _, ⟨vs, h1, h2⟩ => ⟨vs, h1, h2.mono e⟩
  | .ins _ _, _, ⟨dx, fs, h1, h2⟩ => ⟨dx, fs, h1, h2.mono e⟩
  | .oth _, _, h => h
  | .sm _, _, h => h
theorem RepL.length : ∀ {ds : List D} {vs : List V}, RepL K F ds vs → vs.length = ds.length
  | [], _, h => by cases h; rfl
  | _ :: _, _, ⟨v, r, h1, _, h3⟩ => by cases h1; rw [List.length_cons, List.length_cons, RepL.length h3]
theorem RepL.get : ∀ {ds : List D} {vs : List V} {i : Nat} {d : D}, RepL K F ds vs → ds[i]? = some d → ∃ v, vs[i]? = some v ∧ Rep K F d v
  | [], _, _, _, _, e => by simp at e
  | _ :: _, _, 0, _, ⟨v, r, h1, h2, _⟩, e => by cases h1; simp at e; subst e; exact ⟨v, rfl, h2⟩
  | _ :: _, _, i + 1, _, ⟨v, r, h1, _, h3⟩, e => by
    cases h1
    obtain ⟨w, q1, q2⟩ := RepL.get (i := i) h3 (by simpa using e)
    exact ⟨w, by simpa using q1, q2⟩
theorem RepL.geti : ∀ {ds : List D} {vs : List V} {i : Nat} {v : V}, RepL K F ds vs → vs[i]? = some v → ∃ d, ds[i]? = some d ∧ Rep K F d v := fun {ds vs i v} h e => by
  have hl := h.length
  have hi : i < vs.length := (List.getElem?_eq_some_iff.mp e).1
  obtain ⟨w, q1, q2⟩ := h.get (List.getElem?_eq_getElem (show i < ds.length by omega))
  rw [e] at q1
  cases q1
  exact ⟨_, List.getElem?_eq_getElem (show i < ds.length by omega), q2⟩
theorem RepL.append : ∀ {ds es : List D} {vs ws : List V}, RepL K F ds vs → RepL K F es ws → RepL K F (ds ++ es) (vs ++ ws)
  | [], _, _, _, h, g => by cases h; exact g
  | _ :: _, _, _, _, ⟨v, r, h1, h2, h3⟩, g => by cases h1; exact ⟨v, _, rfl, h2, RepL.append h3 g⟩
theorem RepL.one {d : D} {v : V} (h : Rep K F d v) : RepL K F [d] [v] := ⟨v, [], rfl, h, rfl⟩
theorem RepL.set : ∀ {ds : List D} {vs : List V} {d : D} {v : V} (i : Nat), RepL K F ds vs → Rep K F d v → RepL K F (ds.set i d) (vs.set i v)
  | [], _, _, _, _, h, _ => by cases h; rfl
  | _ :: _, _, _, v, 0, ⟨_, r, h1, _, h3⟩, g => by cases h1; exact ⟨v, r, rfl, g, h3⟩
  | _ :: _, _, _, _, i + 1, ⟨v, r, h1, h2, h3⟩, g => by cases h1; exact ⟨v, _, rfl, h2, RepL.set i h3 g⟩
theorem RepL.take : ∀ {ds : List D} {vs : List V} (n : Nat), RepL K F ds vs → RepL K F (ds.take n) (vs.take n)
  | _, _, 0, _ => rfl
  | [], _, _ + 1, h => by cases h; rfl
  | _ :: _, _, n + 1, ⟨v, r, h1, h2, h3⟩ => by cases h1; exact ⟨v, _, rfl, h2, RepL.take n h3⟩
theorem RepL.drop : ∀ {ds : List D} {vs : List V} (n : Nat), RepL K F ds vs → RepL K F (ds.drop n) (vs.drop n)
  | _, _, 0, h => h
  | [], _, _ + 1, h => by cases h; rfl
  | _ :: _, _, n + 1, ⟨v, r, h1, _, h3⟩ => by cases h1; exact RepL.drop n h3
theorem RepL.ints : ∀ {ns : List Int} {vs : List V}, RepL K F (ns.map D.int) vs → vs = ns.map V.int
  | [], _, h => h
  | n :: ns, _, ⟨v, r, h1, h2, h3⟩ => by cases h1; cases h2; rw [RepL.ints h3]; rfl
theorem RepL.of_ints : ∀ (ns : List Int), RepL K F (ns.map D.int) (ns.map V.int)
  | [] => rfl
  | n :: ns => ⟨_, _, rfl, rfl, RepL.of_ints ns⟩
theorem RepL.strs : ∀ {ns : List Str} {vs : List V}, RepL K F (ns.map D.str) vs → vs = ns.map V.str
  | [], _, h => h
  | n :: ns, _, ⟨v, r, h1, h2, h3⟩ => by cases h1; cases h2; rw [RepL.strs h3]; rfl
theorem RepL.of_strs : ∀ (ns : List Str), RepL K F (ns.map D.str) (ns.map V.str)
  | [] => rfl
  | n :: ns => ⟨_, _, rfl, rfl, RepL.of_strs ns⟩
theorem RepL.bools : ∀ {ns : List Bool} {vs : List V}, RepL K F (ns.map D.bl) vs → vs = ns.map V.bl
  | [], _, h => h
  | n :: ns, _, ⟨v, r, h1, h2, h3⟩ => by cases h1; cases h2; rw [RepL.bools h3]; rfl
end

/-! ### the store -/
structure Sep (K : PySem.W.Frag) (F : Hp) (ms : MS) (H : Hp) : Prop where
  ex : ∀ a o, F a = some o → H a = some o
  at_ : ∀ p ∈ ms, F p.1 = none ∧ ∃ u, H p.1 = some u ∧ MRep K F p.2 u
  nd : (ms.map (·.1)).Nodup
section
variable {K : PySem.W.Frag} {F F' H : Hp} {ms : MS} {p : Addr} {o : MO} {u : HO}
theorem Sep.get (S : Sep K F ms H) {i : Nat} (h : ms[i]? = some (p, o)) : F p = none ∧ ∃ u, H p = some u ∧ MRep K F o u := S.at_ (p, o) (List.mem_of_getElem? h)
theorem Sep.rd (S : Sep K F ms H) {a : Addr} {u : HO} (h : Rd F a u) : Rd H a u := h.elim (fun h => .inl (S.ex _ _ h)) fun ⟨o, h⟩ => .inr ⟨o, S.ex _ _ h⟩
theorem Sep.sqL (S : Sep K F ms H) {a : Addr} {vs : List V} (h : SqL K F a vs) : SqL K H a vs := h.elim (fun h => .inl (S.rd h)) .inr
theorem Sep.sqT (S : Sep K F ms H) {a : Addr} {vs : List V} (h : SqT K F a vs) : SqT K H a vs := h.elim (fun h => .inl (S.rd h)) .inr
theorem Sep.free (S : Sep K F ms H) (h : H p = none) : F p = none := by
  cases e : F p with
  | none => rfl
  | some q => rw [S.ex _ _ e] at h; cases h
theorem Sep.notin (S : Sep K F ms H) (h : H p = none) : p ∉ ms.map (·.1) := fun hp => by
  obtain ⟨q, hq, e⟩ := List.mem_map.mp hp
  obtain ⟨_, u, hu, _⟩ := S.at_ q hq
  rw [e, h] at hu
  cases hu
/-- a new object that may change -/
theorem Sep.new (S : Sep K F ms H) (h : H p = none) (r : MRep K F o u) : Sep K F ((p, o) :: ms) (upd H p u) where
  ex := fun a w e => by
    have ne : a ≠ p := fun z => by rw [z, S.free h] at e; cases e
    rw [upd_ne ne]; exact S.ex a w e
  at_ := fun q hq => by
    rcases List.mem_cons.mp hq with rfl | hq
    · exact ⟨S.free h, u, upd_same, r⟩
    · obtain ⟨h1, w, h2, h3⟩ := S.at_ q hq
      exact ⟨h1, w, by rw [upd_ne (ne_of_none h2 h)]; exact h2, h3⟩
  nd := List.nodup_cons.mpr ⟨S.notin h, S.nd⟩
/-- a new object that stays -/
theorem Sep.newF (S : Sep K F ms H) (h : H p = none) : Sep K (upd F p u) ms (upd H p u) where
  ex := fun a w e => by
    by_cases ha : a = p
    · subst ha; rw [upd_same] at e ⊢; exact e
    · rw [upd_ne ha] at e ⊢; exact S.ex a w e
  at_ := fun q hq => by
    obtain ⟨h1, w, h2, h3⟩ := S.at_ q hq
    have ne := ne_of_none h2 h
    exact ⟨by rw [upd_ne ne]; exact h1, w, by rw [upd_ne ne]; exact h2, h3.mono (Le.new (S.free h))⟩
  nd := S.nd
/-- an untracked change: an address that nobody speaks of -/
theorem Sep.newU (S : Sep K F ms H) (h : H p = none) : Sep K F ms (upd H p u) where
  ex := fun a w e => by
    have ne : a ≠ p := fun z => by rw [z, S.free h] at e; cases e
    rw [upd_ne ne]; exact S.ex a w e
  at_ := fun q hq => by
    obtain ⟨h1, w, h2, h3⟩ := S.at_ q hq
    exact ⟨h1, w, by rw [upd_ne (ne_of_none h2 h)]; exact h2, h3⟩
  nd := S.nd
theorem map_fst_set {ms : MS} {i : Nat} {p : Addr} {o o' : MO} (h : ms[i]? = some (p, o)) : (ms.set i (p, o')).map (·.1) = ms.map (·.1) := by
  rw [List.map_set]
  apply List.ext_getElem?
  intro j
  rw [List.getElem?_set]
  split
  · next e =>
    subst e
    rw [List.getElem?_map, h]
    have hi : i < ms.length := (List.getElem?_eq_some_iff.mp h).1
    simp [hi]
  · rfl
theorem Sep.apart (S : Sep K F ms H) {i : Nat} (h : ms[i]? = some (p, o)) {q : Addr × MO} {j : Nat} (hq : ms[j]? = some q) (hij : i ≠ j) : q.1 ≠ p := fun z => by
  have hi : i < ms.length := (List.getElem?_eq_some_iff.mp h).1
  have hj : j < ms.length := (List.getElem?_eq_some_iff.mp hq).1
  have e1 : (ms.map (·.1))[i]? = some p := by rw [List.getElem?_map, h]; rfl
  have e2 : (ms.map (·.1))[j]? = some p := by rw [List.getElem?_map, hq, ← z]; rfl
  exact hij ((List.getElem?_inj (by rw [List.length_map]; exact hi) S.nd).mp (e1.trans e2.symm))
/-- an object of the store is changed -/
theorem Sep.set (S : Sep K F ms H) {i : Nat} {o' : MO} {u' : HO} (h : ms[i]? = some (p, o)) (r : MRep K F o' u') : Sep K F (ms.set i (p, o')) (upd H p u') where
  ex := fun a w e => by
    have ne : a ≠ p := fun z => by rw [z, (S.get h).1] at e; cases e
    rw [upd_ne ne]; exact S.ex a w e
  at_ := fun q hq => by
    obtain ⟨j, hj, e⟩ := List.getElem_of_mem hq
    rw [List.length_set] at hj
    rw [List.getElem_set] at e
    split at e
    · subst e; exact ⟨(S.get h).1, u', upd_same, r⟩
    · next hij =>
      have hq' : ms[j]? = some q := by rw [List.getElem?_eq_getElem hj, e]
      obtain ⟨h1, w, h2, h3⟩ := S.at_ q (List.mem_of_getElem? hq')
      exact ⟨h1, w, by rw [upd_ne (S.apart h hq' hij)]; exact h2, h3⟩
  nd := by rw [map_fst_set h]; exact S.nd
/-- an object of the store stays from now on -/
theorem Sep.freeze (S : Sep K F ms H) {i : Nat} (h : ms[i]? = some (p, o)) : ∃ u, Le F (upd F p u) ∧ Sep K (upd F p u) (ms.eraseIdx i) H ∧ MRep K F o u := by
  obtain ⟨h0, u, hu, r⟩ := S.get h
  refine ⟨u, Le.new h0, ⟨fun a w e => ?_, fun q hq => ?_, ?_⟩, r⟩
  · by_cases ha : a = p
    · subst ha; rw [upd_same] at e; cases e; exact hu
    · rw [upd_ne ha] at e; exact S.ex a w e
  · obtain ⟨j, hj⟩ := List.mem_iff_getElem?.mp hq
    rw [List.getElem?_eraseIdx] at hj
    have : ∃ k, ms[k]? = some q ∧ i ≠ k := by
      split at hj
      · exact ⟨j, hj, by omega⟩
      · exact ⟨j + 1, hj, by omega⟩
    obtain ⟨k, hk, hik⟩ := this
    obtain ⟨h1, w, h2, h3⟩ := S.at_ q (List.mem_of_getElem? hk)
    exact ⟨by rw [upd_ne (S.apart h hk hik)]; exact h1, w, h2, h3.mono (Le.new h0)⟩
  · have : ((ms.eraseIdx i).map (·.1)).Sublist (ms.map (·.1)) := (List.eraseIdx_sublist _ _).map _
    exact S.nd.sublist this
/-- an object of the store is let go -/
theorem Sep.drop (S : Sep K F ms H) (i : Nat) : Sep K F (ms.eraseIdx i) H where
  ex := S.ex
  at_ := fun q hq => S.at_ q (List.mem_of_mem_eraseIdx hq)
  nd := by
    have : ((ms.eraseIdx i).map (·.1)).Sublist (ms.map (·.1)) := (List.eraseIdx_sublist _ _).map _
    exact S.nd.sublist this
end

/-- what the store says may be said otherwise -/
def MLe (K : PySem.W.Frag) (ms ms' : MS) : Prop := ∀ F H, Sep K F ms H → Sep K F ms' H
section
variable {K : PySem.W.Frag} {ms ms1 ms2 : MS} {p : Addr} {o o' : MO}
theorem MLe.refl (K : PySem.W.Frag) (ms : MS) : MLe K ms ms := fun _ _ h => h
theorem MLe.trans (a : MLe K ms ms1) (b : MLe K ms1 ms2) : MLe K ms ms2 := fun F H h => b F H (a F H h)
theorem MLe.perm (h : ms.Perm ms1) : MLe K ms ms1 := fun F H S => ⟨S.ex, fun q hq => S.at_ q (h.mem_iff.mpr hq), (h.map (·.1)).nodup_iff.mp S.nd⟩
theorem perm_front {α : Type} : ∀ {l : List α} {i : Nat} {x : α}, l[i]? = some x → l.Perm (x :: l.eraseIdx i)
  | [], _, _, h => by simp at h
  | y :: l, 0, x, h => by simp at h; subst h; exact List.Perm.refl _
  | y :: l, i + 1, x, h => by
    have h' : l[i]? = some x := by simpa using h
    exact ((perm_front h').cons y).trans (List.Perm.swap x y _)
theorem MLe.drop (i : Nat) : MLe K ms (ms.eraseIdx i) := fun F H S => S.drop i
theorem MLe.tail {q : Addr × MO} : MLe K (q :: ms) ms := fun F H S => S.drop 0
/-- the object at the front is told otherwise -/
theorem MLe.head (h : ∀ F u, MRep K F o u → MRep K F o' u) : MLe K ((p, o) :: ms) ((p, o') :: ms) := fun F H S => by
  refine ⟨S.ex, fun q hq => ?_, ?_⟩
  · rcases List.mem_cons.mp hq with rfl | hq
    · obtain ⟨h1, u, h2, h3⟩ := S.at_ (p, o) List.mem_cons_self
      exact ⟨h1, u, h2, h F u h3⟩
    · exact S.at_ q (List.mem_cons_of_mem _ hq)
  · exact S.nd
theorem MLe.cons {q : Addr × MO} (h : MLe K ms ms1) (hs : ∀ a ∈ ms1.map (·.1), a ∈ ms.map (·.1)) : MLe K (q :: ms) (q :: ms1) := fun F H S => by
  have T := h F H (S.drop 0)
  refine ⟨S.ex, fun r hr => ?_, List.nodup_cons.mpr ⟨fun z => (List.nodup_cons.mp S.nd).1 (hs _ z), T.nd⟩⟩
  rcases List.mem_cons.mp hr with rfl | hr
  · exact S.at_ _ List.mem_cons_self
  · exact T.at_ r hr
end

/-! ### slots -/
structure SR (K : PySem.W.Frag) (F : Hp) (ds : DEnv) (σ : L2.St) : Prop where
  len : ds.length = σ.length
  at_ : ∀ (i : Nat) (d : D), ds[i]? = some (some d) → ∃ v, σ[i]? = some (some v) ∧ Rep K F d v
section
variable {K : PySem.W.Frag} {F F' : Hp} {ds : DEnv} {σ : L2.St}
theorem SR.mono (e : Le F F') (h : SR K F ds σ) : SR K F' ds σ := ⟨h.len, fun i d q => let ⟨v, h1, h2⟩ := h.at_ i d q; ⟨v, h1, h2.mono e⟩⟩
theorem SR.set (h : SR K F ds σ) (i : Nat) {d : D} {v : V} (r : Rep K F d v) : SR K F (ds.set i (some d)) (σ.set i (some v)) := by
  refine ⟨by rw [List.length_set, List.length_set, h.len], fun j e q => ?_⟩
  rw [List.getElem?_set] at q
  split at q
  · next hij =>
    subst hij
    split at q
    · next hl =>
      cases q
      exact ⟨v, by rw [List.getElem?_set_self (by rw [← h.len]; exact hl)], r⟩
    · cases q
  · next hij =>
    obtain ⟨w, h1, h2⟩ := h.at_ j e q
    exact ⟨w, by rw [List.getElem?_set_ne hij]; exact h1, h2⟩
/-- a slot is forgotten -/
theorem SR.setN (h : SR K F ds σ) (i : Nat) (x : Option V) : SR K F (ds.set i none) (σ.set i x) := by
  refine ⟨by rw [List.length_set, List.length_set, h.len], fun j e q => ?_⟩
  rw [List.getElem?_set] at q
  split at q
  · split at q
    · cases q
    · cases q
  · next hij =>
    obtain ⟨w, h1, h2⟩ := h.at_ j e q
    exact ⟨w, by rw [List.getElem?_set_ne hij]; exact h1, h2⟩
theorem SR.forget (h : SR K F ds σ) {es : DEnv} (hl : es.length = ds.length) (hs : ∀ (i : Nat) (d : D), es[i]? = some (some d) → ds[i]? = some (some d)) : SR K F es σ :=
  ⟨by rw [hl, h.len], fun i d q => h.at_ i d (hs i d q)⟩
end

/-! ### wishes -/
/-- what is wanted of a value | of an exception: its class, the value it holds, slots, store -/
abbrev DK := D → MS → Prop
abbrev DX := Addr → D → DEnv → MS → Prop
def VC (K : PySem.W.Frag) (F : Hp) (kd : DK) (Q : VK) : Prop := ∀ F' v d ms' H', Le F F' → Rep K F' d v → Sep K F' ms' H' → kd d ms' → Q v H'
def VCs (K : PySem.W.Frag) (F : Hp) (kd : List D → MS → Prop) (Q : List V → Hp → Prop) : Prop := ∀ F' vs ds ms' H', Le F F' → RepL K F' ds vs → Sep K F' ms' H' → kd ds ms' → Q vs H'
def VCb (K : PySem.W.Frag) (F : Hp) (kb : Bool → MS → Prop) (Q : Bool → Hp → Prop) : Prop := ∀ F' b ms' H', Le F F' → Sep K F' ms' H' → kb b ms' → Q b H'
def VCe (K : PySem.W.Frag) (F : Hp) (ke : DEnv → MS → Prop) (Q : L2.St → Hp → Prop) : Prop := ∀ F' ds' σ' ms' H', Le F F' → SR K F' ds' σ' → Sep K F' ms' H' → ke ds' ms' → Q σ' H'
def XC (K : PySem.W.Frag) (F : Hp) (xw : DX) (W : WX) : Prop :=
  ∀ F' C dx dv v ds' σ' ms' H', Le F F' → SR K F' ds' σ' → Rep K F' dv v → Sep K F' ms' H' → F' dx = some (.xd [("value", v)]) → xw C dv ds' ms' → W (.ref C) (some dx) σ' H'
structure DEnds where
  nx : DEnv → MS → Prop
  rt : DK
  bk : DEnv → MS → Prop := fun _ _ => False
  ct : DEnv → MS → Prop := fun _ _ => False
structure EC (K : PySem.W.Frag) (F : Hp) (E : DEnds) (D : Ends) : Prop where
  nx : VCe K F E.nx D.nx
  rt : VC K F E.rt D.rt
  bk : VCe K F E.bk D.bk
  ct : VCe K F E.ct D.ct
section
variable {K : PySem.W.Frag} {F F' : Hp}
theorem VC.mono (e : Le F F') {kd : DK} {Q : VK} (h : VC K F kd Q) : VC K F' kd Q := fun F2 v d ms H a => h F2 v d ms H (e.trans a)
theorem VCs.mono (e : Le F F') {kd : List D → MS → Prop} {Q : List V → Hp → Prop} (h : VCs K F kd Q) : VCs K F' kd Q := fun F2 v d ms H a => h F2 v d ms H (e.trans a)
theorem VCb.mono (e : Le F F') {kd : Bool → MS → Prop} {Q : Bool → Hp → Prop} (h : VCb K F kd Q) : VCb K F' kd Q := fun F2 v ms H a => h F2 v ms H (e.trans a)
theorem VCe.mono (e : Le F F') {kd : DEnv → MS → Prop} {Q : L2.St → Hp → Prop} (h : VCe K F kd Q) : VCe K F' kd Q := fun F2 v d ms H a => h F2 v d ms H (e.trans a)
theorem XC.mono (e : Le F F') {xw : DX} {W : WX} (h : XC K F xw W) : XC K F' xw W := fun F2 C dx dv v ds' σ' ms' H' a => h F2 C dx dv v ds' σ' ms' H' (e.trans a)
theorem EC.mono (e : Le F F') {E : DEnds} {D : Ends} (h : EC K F E D) : EC K F' E D := ⟨h.nx.mono e, h.rt.mono e, h.bk.mono e, h.ct.mono e⟩
end

/-! ### the strongest readings -/
def wE (X : Cx) (e : Expr) : TE := fun σ H Q => ∀ pins s, Inv X pins σ H s → wpAny (model X.prog X.w) X.A (eval e X.env) (EP X pins σ Q) X.xe s
def wT (X : Cx) (e : Expr) : TT := fun σ H Q => ∀ pins s, Inv X pins σ H s → wpAny (model X.prog X.w) X.A (isTrue e X.env (eval e X.env)) (TP X pins σ Q) X.xe s
def wW (X : Cx) (e : Expr) : TT := fun σ H Q => ∀ pins s, Inv X pins σ H s → ∀ whole, wpAny (model X.prog X.w) X.A (isTrue e X.env whole) (TP X pins σ Q) X.xe s
def wS (X : Cx) (st : Stmt) : TS := fun D σ H => ∀ pins s, Inv X pins σ H s → wpAny (model X.prog X.w) X.A (exec st X.env) (SP X pins D) X.xe s
def wSs (X : Cx) (st : List Stmt) : TS := fun D σ H => ∀ pins s, Inv X pins σ H s → wpAny (model X.prog X.w) X.A (execs st X.env) (SP X pins D) X.xe s
def wA (X : Cx) (es : List Expr) : TA := fun σ H Q => ∀ (pos : Pos) pins s, Inv X pins σ H s → wpAny (model X.prog X.w) X.A (spliced (backTo pos (starEach es X.env))) (AP X pins σ Q) X.xe s
theorem pe_w {X : Cx} {e : Expr} : PE X e (wE X e) := ⟨fun pins s σ H Q I h => h pins s I⟩
theorem pt_w {X : Cx} {e : Expr} : PT X e (wT X e) := ⟨fun pins s σ H Q I h => h pins s I⟩
theorem pw_w {X : Cx} {e : Expr} : PW X e (wW X e) := ⟨fun whole pins s σ H Q I h => h pins s I whole⟩
theorem ps_w {X : Cx} {e : Stmt} : PS X e (wS X e) := ⟨fun pins s σ H D I h => h pins s I⟩
theorem pss_w {X : Cx} {e : List Stmt} : PSs X e (wSs X e) := ⟨fun pins s σ H D I h => h pins s I⟩
theorem pa_w {X : Cx} {es : List Expr} : PA X es (wA X es) := ⟨fun pos pins s σ H Q I h => h pos pins s I⟩

/-! ### the judgements on data -/
/-- what stands around an evaluation -/
structure At (X : Cx) (xw : DX) (F : Hp) (ds : DEnv) (σ : L2.St) (ms : MS) (H : Hp) (W : WX) : Prop where
  sr : SR X.K F ds σ
  sep : Sep X.K F ms H
  tk : Takes X W
  xc : XC X.K F xw W
theorem At.mv {X : Cx} {xw : DX} {F F' : Hp} {ds : DEnv} {σ : L2.St} {ms ms' : MS} {H H' : Hp} {W : WX} (a : At X xw F ds σ ms H W) (e : Le F F') (S : Sep X.K F' ms' H') : At X xw F' ds σ ms' H' W := ⟨a.sr.mono e, S, a.tk, a.xc.mono e⟩
theorem At.mvE {X : Cx} {xw : DX} {F F' : Hp} {ds ds' : DEnv} {σ σ' : L2.St} {ms ms' : MS} {H H' : Hp} {W : WX} (a : At X xw F ds σ ms H W) (e : Le F F') (r : SR X.K F' ds' σ') (S : Sep X.K F' ms' H') : At X xw F' ds' σ' ms' H' W := ⟨r, S, a.tk, a.xc.mono e⟩
def DE (X : Cx) (xw : DX) (e : Expr) (ds : DEnv) (ms : MS) (kd : DK) : Prop := ∀ F σ H Q W, At X xw F ds σ ms H W → VC X.K F kd Q → wE X e σ H Q
def DT (X : Cx) (xw : DX) (e : Expr) (ds : DEnv) (ms : MS) (kb : Bool → MS → Prop) : Prop := ∀ F σ H Q W, At X xw F ds σ ms H W → VCb X.K F kb Q → wT X e σ H Q
def DW (X : Cx) (xw : DX) (e : Expr) (ds : DEnv) (ms : MS) (kb : Bool → MS → Prop) : Prop := ∀ F σ H Q W, At X xw F ds σ ms H W → VCb X.K F kb Q → wW X e σ H Q
def DA (X : Cx) (xw : DX) (es : List Expr) (ds : DEnv) (ms : MS) (kd : List D → MS → Prop) : Prop := ∀ F σ H Q W, At X xw F ds σ ms H W → VCs X.K F kd Q → wA X es σ H Q
def DS (X : Cx) (xw : DX) (st : Stmt) (ds : DEnv) (ms : MS) (E : DEnds) : Prop := ∀ F σ H D W, At X xw F ds σ ms H W → EC X.K F E D → wS X st D σ H
def DSs (X : Cx) (xw : DX) (st : List Stmt) (ds : DEnv) (ms : MS) (E : DEnds) : Prop := ∀ F σ H D W, At X xw F ds σ ms H W → EC X.K F E D → wSs X st D σ H
end DL

/-! DL1: rules on data for expressions. -/
namespace DL
open PySem PySem.Spec PyProof.Rows L2

inductive Nm : List Str → DEnv → Str → Nat → D → Prop
  | z {x : Str} {ns : List Str} {d : D} {ds : DEnv} : Nm (x :: ns) (some d :: ds) x 0 d
  | s {x y : Str} {ns : List Str} {o : Option D} {ds : DEnv} {i : Nat} {d : D} : Nm ns ds x i d → Nm (y :: ns) (o :: ds) x (i + 1) d
theorem Nm.at {ns : List Str} {ds : DEnv} {x : Str} {i : Nat} {d : D} (h : Nm ns ds x i d) : ns[i]? = some x ∧ ds[i]? = some (some d) := by
  induction h with
  | z => exact ⟨rfl, rfl⟩
  | s _ ih => exact ⟨by simpa using ih.1, by simpa using ih.2⟩
/-- the place of a name among the names -/
inductive Ix : List Str → Str → Nat → Prop
  | z {x : Str} {ns : List Str} : Ix (x :: ns) x 0
  | s {x y : Str} {ns : List Str} {i : Nat} : Ix ns x i → Ix (y :: ns) x (i + 1)
theorem Ix.at {ns : List Str} {x : Str} {i : Nat} (h : Ix ns x i) : ns[i]? = some x := by
  induction h with
  | z => rfl
  | s _ ih => simpa using ih
/-- ds with d at place i, written out -/
inductive Put : DEnv → Nat → Option D → DEnv → Prop
  | z {o d : Option D} {ds : DEnv} : Put (o :: ds) 0 d (d :: ds)
  | s {o d : Option D} {ds es : DEnv} {i : Nat} : Put ds i d es → Put (o :: ds) (i + 1) d (o :: es)
theorem Put.eq {ds es : DEnv} {i : Nat} {d : Option D} (h : Put ds i d es) : es = ds.set i d := by
  induction h with
  | z => rfl
  | s _ ih => rw [ih]; rfl
theorem ex_put {ds es : DEnv} {i : Nat} {d : Option D} {Q : DEnv → Prop} (h : Put ds i d es) (q : Q es) : ∃ ds', Put ds i d ds' ∧ Q ds' := ⟨es, h, q⟩
/-- the i-th object of the store -/
inductive Ms : MS → Nat → Addr → MO → Prop
  | z {a : Addr} {o : MO} {ms : MS} : Ms ((a, o) :: ms) 0 a o
  | s {a : Addr} {o : MO} {q : Addr × MO} {ms : MS} {i : Nat} : Ms ms i a o → Ms (q :: ms) (i + 1) a o
theorem Ms.at {ms : MS} {i : Nat} {a : Addr} {o : MO} (h : Ms ms i a o) : ms[i]? = some (a, o) := by
  induction h with
  | z => rfl
  | s _ ih => simpa using ih
inductive MPut : MS → Nat → MO → MS → Prop
  | z {a : Addr} {o o' : MO} {ms : MS} : MPut ((a, o) :: ms) 0 o' ((a, o') :: ms)
  | s {q : Addr × MO} {o' : MO} {ms ms' : MS} {i : Nat} : MPut ms i o' ms' → MPut (q :: ms) (i + 1) o' (q :: ms')
theorem MPut.eq {ms ms' : MS} {i : Nat} {o' : MO} (h : MPut ms i o' ms') : ∃ a o, ms[i]? = some (a, o) ∧ ms' = ms.set i (a, o') := by
  induction h with
  | z => exact ⟨_, _, rfl, rfl⟩
  | s _ ih =>
    obtain ⟨a, o, h1, h2⟩ := ih
    exact ⟨a, o, by simpa using h1, by rw [h2]; rfl⟩
inductive MDel : MS → Nat → MS → Prop
  | z {q : Addr × MO} {ms : MS} : MDel (q :: ms) 0 ms
  | s {q : Addr × MO} {ms ms' : MS} {i : Nat} : MDel ms i ms' → MDel (q :: ms) (i + 1) (q :: ms')
theorem MDel.eq {ms ms' : MS} {i : Nat} (h : MDel ms i ms') : ms' = ms.eraseIdx i := by
  induction h with
  | z => rfl
  | s _ ih => rw [ih]; rfl

theorem MLe.del {K : PySem.W.Frag} {ms ms' : MS} {i : Nat} (h : MDel ms i ms') : MLe K ms ms' := by rw [h.eq]; exact MLe.drop i
/-- what holds of a context -/
structure Ctx (X : Cx) (N : List Str) (k : Nat) : Prop where
  names : X.N = N
  nd : N.Nodup
  calm : X.calm = true
  room : Room k X.A
theorem Ctx.hu {X : Cx} {N : List Str} {k : Nat} (C : Ctx X N k) : X.A.units + 1 < cLine := hu_of C.room
theorem Ctx.ix {X : Cx} {N : List Str} {k : Nat} (C : Ctx X N k) {x : Str} {i : Nat} (h : Ix N x i) : X.N[i]? = some x := by rw [C.names]; exact h.at
theorem Ctx.ndX {X : Cx} {N : List Str} {k : Nat} (C : Ctx X N k) : X.N.Nodup := by rw [C.names]; exact C.nd

section
variable {X : Cx} {xw : DX} {N : List Str} {k : Nat} {ds : DEnv} {ms : MS} {kd : DK} {kb : Bool → MS → Prop} {e a b c : Expr} {pos : Pos}

theorem DE.of {t : TE} (h : PE X e t) (q : ∀ F σ H Q W, At X xw F ds σ ms H W → VC X.K F kd Q → t σ H Q) : DE X xw e ds ms kd :=
  fun F σ H Q W a v pins s I => h.run pins s σ H Q I (q F σ H Q W a v)
theorem DT.of {t : TT} (h : PT X e t) (q : ∀ F σ H Q W, At X xw F ds σ ms H W → VCb X.K F kb Q → t σ H Q) : DT X xw e ds ms kb :=
  fun F σ H Q W a v pins s I => h.run pins s σ H Q I (q F σ H Q W a v)
theorem DW.of {t : TT} (h : PW X e t) (q : ∀ F σ H Q W, At X xw F ds σ ms H W → VCb X.K F kb Q → t σ H Q) : DW X xw e ds ms kb :=
  fun F σ H Q W a v pins s I wh => h.run wh pins s σ H Q I (q F σ H Q W a v)
theorem dt_bool {op} {es : List Expr} (h : DW X xw (.BoolOp op es pos) ds ms kb) : DT X xw (.BoolOp op es pos) ds ms kb := fun F σ H Q W a v pins s I => h F σ H Q W a v pins s I _
theorem DW.dt (h : DW X xw e ds ms kb) : DT X xw e ds ms kb := fun F σ H Q W a v pins s I => h F σ H Q W a v pins s I _
theorem VC.val {K : PySem.W.Frag} {F H : Hp} {Q : VK} {d : D} {v : V} (V : VC K F kd Q) (S : Sep K F ms H) (r : Rep K F d v) (q : kd d ms) : Q v H := V F v d ms H (Le.refl F) r S q
theorem DE.imp {kd' : DK} (h : DE X xw e ds ms kd') (i : ∀ d ms', kd' d ms' → kd d ms') : DE X xw e ds ms kd :=
  fun F σ H Q W a v => h F σ H Q W a fun F' w d ms' H' e r S q => v F' w d ms' H' e r S (i d ms' q)

/-! ### names, constants -/
theorem de_name (C : Ctx X N k) {x : Str} {i : Nat} {d : D} (h : Nm N ds x i d) (hv : Vis X.env.scope x) (hd : (x == ("__debug__" : Str)) = false) (hcd : (x == ("__classdict__" : Str)) = false) (q : kd d ms) : DE X xw (.Name x pos) ds ms kd :=
  .of (pe_var (i := i) (by rw [C.names]; exact h.at.1) hv hd hcd) fun F σ H Q W A V => by
    obtain ⟨v, h1, h2⟩ := A.sr.at_ i d h.at.2
    exact ⟨v, h1, V.val A.sep h2 q⟩
theorem de_int {i : Int} {j} (q : kd (.int i) ms) : DE X xw (.Constant (.int i) j pos) ds ms kd := .of pe_int fun F σ H Q W A V => V.val (d := .int i) A.sep rfl q
theorem de_bl {i : Bool} {j} (q : kd (.bl i) ms) : DE X xw (.Constant (.bool i) j pos) ds ms kd := .of pe_bl fun F σ H Q W A V => V.val (d := .bl i) A.sep rfl q
theorem de_non {j} (q : kd .non ms) : DE X xw (.Constant .none j pos) ds ms kd := .of pe_non fun F σ H Q W A V => V.val (d := .non) A.sep rfl q
theorem de_str {x : Str} {j} (q : kd (.str x) ms) : DE X xw (.Constant (.str x) j pos) ds ms kd := .of pe_str fun F σ H Q W A V => V.val (d := .str x) A.sep rfl q
/-- a module's constant -/
theorem de_glob {x : Str} {d : D} {v : V} {u : Value} (hm : X.mg x = some u) (r : RelV v u) (hg : Gl X x) (hd : (x == ("__debug__" : Str)) = false) (hr : ∀ F, Rep X.K F d v) (q : kd d ms) : DE X xw (.Name x pos) ds ms kd :=
  .of (pe_glob hg hm r hd) fun F σ H Q W A V => V.val A.sep (hr F) q

theorem de_globI {x : Str} {i : Int} {t : Tok} (hm : X.mg x = some (.int i t)) (hg : Gl X x) (hd : (x == ("__debug__" : Str)) = false) (q : kd (.int i) ms) : DE X xw (.Name x pos) ds ms kd := de_glob (d := .int i) (v := .int i) hm ⟨t, rfl⟩ hg hd (fun _ => rfl) q
theorem de_globS {x i : Str} {t : Tok} (hm : X.mg x = some (.str i t)) (hg : Gl X x) (hd : (x == ("__debug__" : Str)) = false) (q : kd (.str i) ms) : DE X xw (.Name x pos) ds ms kd := de_glob (d := .str i) (v := .str i) hm ⟨t, rfl⟩ hg hd (fun _ => rfl) q
/-! ### operators by their values -/
def wOp (X : Cx) (f : Value → Value → Sem Value) : R2 := fun x y H Q => ∀ pins s σ v u, Inv X pins σ H s → RelV x v → RelV y u → wpAny (model X.prog X.w) X.A (f v u) (EP X pins σ Q) X.xe s
theorem opr_w {f : Value → Value → Sem Value} : OpR X f (wOp X f) := fun pins s σ H x y v u Q I rx ry h => h pins s σ v u I rx ry
def OpD (X : Cx) (f : Value → Value → Sem Value) (x y : D) (ms : MS) (kd : DK) : Prop := ∀ F v u H Q, Rep X.K F x v → Rep X.K F y u → Sep X.K F ms H → VC X.K F kd Q → wOp X f v u H Q
theorem OpD.of {f : Value → Value → Sem Value} {r : R2} {x y : D} (ho : OpR X f r) (q : ∀ F v u H Q, Rep X.K F x v → Rep X.K F y u → Sep X.K F ms H → VC X.K F kd Q → r v u H Q) : OpD X f x y ms kd :=
  fun F v u H Q rv ru S V pins s σ v' u' I r1 r2 => ho pins s σ H v u v' u' Q I r1 r2 (q F v u H Q rv ru S V)
def wUn (X : Cx) (f : Value → Sem Value) : V → Hp → VK → Prop := fun x H Q => ∀ pins s σ v, Inv X pins σ H s → RelV x v → wpAny (model X.prog X.w) X.A (f v) (EP X pins σ Q) X.xe s
theorem unr_w {f : Value → Sem Value} : UnR X f (wUn X f) := fun pins s σ H x v Q I rx h => h pins s σ v I rx
def UnD (X : Cx) (f : Value → Sem Value) (x : D) (ms : MS) (kd : DK) : Prop := ∀ F v H Q, Rep X.K F x v → Sep X.K F ms H → VC X.K F kd Q → wUn X f v H Q
theorem UnD.of {f : Value → Sem Value} {r : V → Hp → VK → Prop} {x : D} (ho : UnR X f r) (q : ∀ F v H Q, Rep X.K F x v → Sep X.K F ms H → VC X.K F kd Q → r v H Q) : UnD X f x ms kd :=
  fun F v H Q rv S V pins s σ v' I r1 => ho pins s σ H v v' Q I r1 (q F v H Q rv S V)

theorem de_bin {op : Operator} (h : DE X xw a ds ms fun x ms1 => DE X xw b ds ms1 fun y ms2 => OpD X (binaryOp op) x y ms2 kd) : DE X xw (.BinOp a op b pos) ds ms kd :=
  .of (pe_op (opr_w (f := binaryOp op)) pe_w pe_w) fun F σ H Q W A V => h F σ H _ W A fun F1 x d ms1 H1 e1 r1 S1 k1 => k1 F1 σ H1 _ W (A.mv e1 S1) fun F2 y d2 ms2 H2 e2 r2 S2 k2 =>
    k2 F2 x y H2 Q (r1.mono e2) r2 S2 (V.mono (e1.trans e2))
theorem de_un {op : UnaryOp} (h : DE X xw a ds ms fun x ms1 => UnD X (unaryOp op) x ms1 kd) : DE X xw (.UnaryOp op a pos) ds ms kd :=
  .of (pe_un (unr_w (f := unaryOp op)) pe_w) fun F σ H Q W A V => h F σ H _ W A fun F1 x d ms1 H1 e1 r1 S1 k1 => k1 F1 x H1 Q r1 S1 (V.mono e1)
theorem de_cmp {op : CmpOp} (h : DE X xw a ds ms fun x ms1 => DE X xw b ds ms1 fun y ms2 => OpD X (compareOp op) x y ms2 kd) (hm : behindInMarks op b = false) : DE X xw (.Compare a [op] [b] pos) ds ms kd :=
  .of (pe_cmpR (opr_w (f := compareOp op)) pe_w pe_w hm) fun F σ H Q W A V => h F σ H _ W A fun F1 x d ms1 H1 e1 r1 S1 k1 => k1 F1 σ H1 _ W (A.mv e1 S1) fun F2 y d2 ms2 H2 e2 r2 S2 k2 =>
    k2 F2 x y H2 Q (r1.mono e2) r2 S2 (V.mono (e1.trans e2))
theorem dt_cmp {op : CmpOp} (h : DE X xw a ds ms fun x ms1 => DE X xw b ds ms1 fun y ms2 => OpD X (compareOp op) x y ms2 fun d ms3 => ∃ k, d = .bl k ∧ kb k ms3) (hm : behindInMarks op b = false) : DT X xw (.Compare a [op] [b] pos) ds ms kb :=
  .of (pt_cmpR (opr_w (f := compareOp op)) pe_w pe_w hm) fun F σ H Q W A V => h F σ H _ W A fun F1 x d ms1 H1 e1 r1 S1 k1 => k1 F1 σ H1 _ W (A.mv e1 S1) fun F2 y d2 ms2 H2 e2 r2 S2 k2 =>
    k2 F2 x y H2 _ (r1.mono e2) r2 S2 fun F3 z d3 ms3 H3 e3 r3 S3 ⟨k, ek, qk⟩ => by
      subst ek
      exact ⟨k, r3, V F3 k ms3 H3 ((e1.trans e2).trans e3) S3 qk⟩
/-- a op b op' c -/
theorem de_chain {op op' : CmpOp} (h : DE X xw a ds ms fun x ms1 => DE X xw b ds ms1 fun y ms2 => OpD X (compareOp op) x y ms2 fun d ms3 => ∃ k, d = .bl k ∧ (k = true → DE X xw c ds ms3 fun z ms4 => OpD X (compareOp op') y z ms4 kd) ∧ (k = false → kd (.bl false) ms3))
    (hm : lastMarks [op, op'] [b, c] = false) : DE X xw (.Compare a [op, op'] [b, c] pos) ds ms kd :=
  .of (pe_chain (opr_w (f := compareOp op)) (opr_w (f := compareOp op')) pe_w pe_w pe_w hm) fun F σ H Q W A V => h F σ H _ W A fun F1 x d ms1 H1 e1 r1 S1 k1 => k1 F1 σ H1 _ W (A.mv e1 S1) fun F2 y d2 ms2 H2 e2 r2 S2 k2 =>
    k2 F2 x y H2 _ (r1.mono e2) r2 S2 fun F3 z d3 ms3 H3 e3 r3 S3 ⟨k, ek, q1, q0⟩ => by
      subst ek
      refine ⟨k, r3, ?_⟩
      cases k with
      | true => exact q1 rfl F3 σ H3 _ W (A.mv ((e1.trans e2).trans e3) S3) fun F4 w d4 ms4 H4 e4 r4 S4 k4 => k4 F4 y w H4 Q ((r2.mono e3).mono e4) r4 S4 (V.mono (((e1.trans e2).trans e3).trans e4))
      | false => exact V F3 (.bl false) (.bl false) ms3 H3 ((e1.trans e2).trans e3) rfl S3 (q0 rfl)
theorem dt_chain {op op' : CmpOp} (h : DE X xw a ds ms fun x ms1 => DE X xw b ds ms1 fun y ms2 => OpD X (compareOp op) x y ms2 fun d ms3 => ∃ k, d = .bl k ∧ (k = true → DE X xw c ds ms3 fun z ms4 => OpD X (compareOp op') y z ms4 fun d ms5 => ∃ k, d = .bl k ∧ kb k ms5) ∧ (k = false → kb false ms3))
    (hm : lastMarks [op, op'] [b, c] = false) : DT X xw (.Compare a [op, op'] [b, c] pos) ds ms kb :=
  .of (pt_chain (opr_w (f := compareOp op)) (opr_w (f := compareOp op')) pe_w pe_w pe_w hm) fun F σ H Q W A V => h F σ H _ W A fun F1 x d ms1 H1 e1 r1 S1 k1 => k1 F1 σ H1 _ W (A.mv e1 S1) fun F2 y d2 ms2 H2 e2 r2 S2 k2 =>
    k2 F2 x y H2 _ (r1.mono e2) r2 S2 fun F3 z d3 ms3 H3 e3 r3 S3 ⟨k, ek, q1, q0⟩ => by
      subst ek
      refine ⟨k, r3, ?_⟩
      cases k with
      | true =>
        refine q1 rfl F3 σ H3 _ W (A.mv ((e1.trans e2).trans e3) S3) fun F4 w d4 ms4 H4 e4 r4 S4 k4 => k4 F4 y w H4 _ ((r2.mono e3).mono e4) r4 S4 fun F5 z5 d5 ms5 H5 e5 r5 S5 q5 => ?_
        obtain ⟨k5, ek5, q5⟩ := q5
        subst ek5
        exact ⟨k5, r5, V F5 k5 ms5 H5 ((((e1.trans e2).trans e3).trans e4).trans e5) S5 q5⟩
      | false => exact ⟨false, rfl, V F3 false ms3 H3 ((e1.trans e2).trans e3) S3 (q0 rfl)⟩

/-! ### truth -/
def wTru (X : Cx) : V → Hp → (Bool → Hp → Prop) → Prop := fun x H Q => ∀ pins s σ v, Inv X pins σ H s → RelV x v → wpAny (model X.prog X.w) X.A (truthy v) (TP X pins σ Q) X.xe s
def TrD (X : Cx) (x : D) (ms : MS) (kb : Bool → MS → Prop) : Prop := ∀ F v H Q, Rep X.K F x v → Sep X.K F ms H → VCb X.K F kb Q → wTru X v H Q
theorem TrD.of {x : D} (q : ∀ F v H, Rep X.K F x v → Sep X.K F ms H → ∃ k, TruV X.K v H k ∧ kb k ms) : TrD X x ms kb := fun F v H Q r S V pins s σ v' I r1 => by
  obtain ⟨k, h1, h2⟩ := q F v H r S
  exact tru_ok pins s σ H v v' Q I r1 ⟨k, h1, V F k ms H (Le.refl F) S h2⟩
theorem trd_bl {b : Bool} (q : kb b ms) : TrD X (.bl b) ms kb := .of fun F v H r S => ⟨b, by cases r; exact rfl, q⟩
theorem trd_int {i : Int} (q : kb (i != 0) ms) : TrD X (.int i) ms kb := .of fun F v H r S => ⟨_, by cases r; exact rfl, q⟩
theorem trd_str {x : Str} (hl : x.length ≤ sizeLine) (q : kb ((x.length : Int) != 0) ms) : TrD X (.str x) ms kb := .of fun F v H r S => ⟨_, by cases r; exact ⟨hl, rfl⟩, q⟩
theorem trd_non (q : kb false ms) : TrD X .non ms kb := .of fun F v H r S => ⟨_, by cases r; exact rfl, q⟩
theorem RepL.isEmpty {K : PySem.W.Frag} {F : Hp} {ds : List D} {vs : List V} (h : RepL K F ds vs) : vs.isEmpty = ds.isEmpty := by
  have := h.length
  cases vs <;> cases ds <;> simp_all
theorem trd_tup {xs : List D} (q : kb (!xs.isEmpty) ms) : TrD X (.tup xs) ms kb := .of fun F v H r S => by
  obtain ⟨p, vs, rfl, h1, h2⟩ := r
  exact ⟨_, .inr (.inl ⟨vs, S.sqT h1, rfl⟩), by rw [h2.isEmpty]; exact q⟩
/-- d is the list xs: one that stays, or one of the store -/
def LsOf (ms : MS) (d : D) (xs : List D) : Prop := d = .lst xs ∨ ∃ p i, d = .adr p ∧ Ms ms i p (.lst xs)
theorem LsOf.f {ms : MS} {xs : List D} : LsOf ms (.lst xs) xs := .inl rfl
theorem LsOf.m {ms : MS} {xs : List D} {p : Addr} {i : Nat} (h : Ms ms i p (.lst xs)) : LsOf ms (.adr p) xs := .inr ⟨p, i, rfl, h⟩
theorem LsOf.at {K : PySem.W.Frag} {F H : Hp} {ms : MS} {d : D} {xs : List D} {v : V} (h : LsOf ms d xs) (r : Rep K F d v) (S : Sep K F ms H) : ∃ p vs, v = .ref p ∧ H p = some (.lst vs) ∧ RepL K F xs vs := by
  rcases h with rfl | ⟨p, i, rfl, h⟩
  · obtain ⟨p, vs, rfl, h1, h2⟩ := r
    exact ⟨p, vs, rfl, S.ex _ _ h1, h2⟩
  · obtain ⟨_, u, h1, vs, rfl, h2⟩ := S.get h.at
    exact ⟨p, vs, r, h1, h2⟩
theorem LsOf.cons {ms : MS} {d : D} {xs : List D} {q : Addr × MO} (h : LsOf ms d xs) : LsOf (q :: ms) d xs := by
  rcases h with rfl | ⟨p, i, rfl, h⟩
  · exact .f
  · exact .m (.s h)
def DcOf (ms : MS) (d : D) (kvs : List (Key × D)) : Prop := d = .dic kvs ∨ ∃ p i, d = .adr p ∧ Ms ms i p (.dic kvs)
theorem DcOf.f {ms : MS} {xs : List (Key × D)} : DcOf ms (.dic xs) xs := .inl rfl
theorem DcOf.m {ms : MS} {xs : List (Key × D)} {p : Addr} {i : Nat} (h : Ms ms i p (.dic xs)) : DcOf ms (.adr p) xs := .inr ⟨p, i, rfl, h⟩
theorem DcOf.at {K : PySem.W.Frag} {F H : Hp} {ms : MS} {d : D} {xs : List (Key × D)} {v : V} (h : DcOf ms d xs) (r : Rep K F d v) (S : Sep K F ms H) : ∃ p vs, v = .ref p ∧ Rd H p (.dK vs) ∧ RepK K F xs vs := by
  rcases h with rfl | ⟨p, i, rfl, h⟩
  · obtain ⟨p, vs, rfl, ⟨o, h1⟩, h2⟩ := r
    exact ⟨p, vs, rfl, .inr ⟨o, S.ex _ _ h1⟩, h2⟩
  · obtain ⟨_, u, h1, vs, rfl, h2⟩ := S.get h.at
    exact ⟨p, vs, r, .inl h1, h2⟩
theorem trd_ls {d : D} {xs : List D} (h : LsOf ms d xs) (q : kb (!xs.isEmpty) ms) : TrD X d ms kb := .of fun F v H r S => by
  obtain ⟨p, vs, rfl, h1, h2⟩ := h.at r S
  exact ⟨_, .inl ⟨vs, SqL.of h1, rfl⟩, by rw [h2.isEmpty]; exact q⟩
theorem dt_truth (h : DE X xw a ds ms fun x ms1 => TrD X x ms1 kb) (he : ∀ whole, isTrue a X.env whole = (do let v ← whole; standAt a.pos; holding [v] (truthy v))) : DT X xw a ds ms kb :=
  fun F σ H Q W A V pins s I => isTrue_plain (thn (h F σ H (fun x H1 => wTru X x H1 Q) W A (fun F1 x d ms1 H1 e1 r1 S1 k1 => k1 F1 x H1 Q r1 S1 (V.mono e1)) pins s I) fun v s1 ⟨x, H1, I1, r1, q1⟩ => q1 pins s1 σ v I1 r1) (he _)

/-! ### and, or, not, if -/
theorem dw_and1 (h : DT X xw a ds ms kb) : DW X xw (.BoolOp .And [a] pos) ds ms kb := .of (pw_and1 pt_w) fun F σ H Q W A V => h F σ H Q W A V
theorem dw_or1 (h : DT X xw a ds ms kb) : DW X xw (.BoolOp .Or [a] pos) ds ms kb := .of (pw_or1 pt_w) fun F σ H Q W A V => h F σ H Q W A V
theorem dw_and {rest : List Expr} (h : DT X xw a ds ms fun c ms1 => (c = true → DW X xw (.BoolOp .And (b :: rest) pos) ds ms1 kb) ∧ (c = false → kb false ms1)) : DW X xw (.BoolOp .And (a :: b :: rest) pos) ds ms kb :=
  .of (pw_and pt_w pw_w) fun F σ H Q W A V => h F σ H _ W A fun F1 c ms1 H1 e1 S1 ⟨q1, q0⟩ => by
    cases c with
    | true => exact q1 rfl F1 σ H1 Q W (A.mv e1 S1) (V.mono e1)
    | false => exact V F1 false ms1 H1 e1 S1 (q0 rfl)
theorem dw_or {rest : List Expr} (h : DT X xw a ds ms fun c ms1 => (c = true → kb true ms1) ∧ (c = false → DW X xw (.BoolOp .Or (b :: rest) pos) ds ms1 kb)) : DW X xw (.BoolOp .Or (a :: b :: rest) pos) ds ms kb :=
  .of (pw_or pt_w pw_w) fun F σ H Q W A V => h F σ H _ W A fun F1 c ms1 H1 e1 S1 ⟨q1, q0⟩ => by
    cases c with
    | true => exact V F1 true ms1 H1 e1 S1 (q1 rfl)
    | false => exact q0 rfl F1 σ H1 Q W (A.mv e1 S1) (V.mono e1)
theorem dt_not (h : DT X xw a ds ms fun c ms1 => kb (!c) ms1) : DT X xw (.UnaryOp .Not a pos) ds ms kb := .of (pt_not pt_w) fun F σ H Q W A V => h F σ H _ W A fun F1 c ms1 H1 e1 S1 q => V F1 (!c) ms1 H1 e1 S1 q
theorem de_one {op} (h : DE X xw a ds ms kd) : DE X xw (.BoolOp op [a] pos) ds ms kd := .of (pe_one pe_w) fun F σ H Q W A V => h F σ H Q W A V
/-- and, or as values, by truth -/
theorem de_and {rest : List Expr} (h : DE X xw a ds ms fun x ms1 => TrD X x ms1 fun c ms2 => (c = true → DE X xw (.BoolOp .And (b :: rest) pos) ds ms2 kd) ∧ (c = false → kd x ms2)) : DE X xw (.BoolOp .And (a :: b :: rest) pos) ds ms kd := by
  refine fun F σ H Q W A V pins s I => ?_
  refine BoolOp_and (thn (h F σ H (fun x H1 => wTru X x H1 fun c H2 => if c = true then wE X (.BoolOp .And (b :: rest) pos) σ H2 Q else Q x H2) W A ?_ pins s I) fun v s1 ⟨x, H1, I1, r1, q1⟩ => thn (q1 pins s1 σ v I1 r1) fun c s2 ⟨H2, I2, q2⟩ => ?_)
  · intro F1 x d ms1 H1 e1 r1 S1 k1
    refine k1 F1 x H1 _ r1 S1 fun F2 c ms2 H2 e2 S2 ⟨q1, q0⟩ => ?_
    cases c with
    | true => exact q1 rfl F2 σ H2 Q W (A.mv (e1.trans e2) S2) (V.mono (e1.trans e2))
    | false => exact V F2 x d ms2 H2 (e1.trans e2) (r1.mono e2) S2 (q0 rfl)
  · cases c with
    | true => exact q2 pins s2 I2
    | false => exact ⟨x, H2, I2, r1, q2⟩
theorem de_or {rest : List Expr} (h : DE X xw a ds ms fun x ms1 => TrD X x ms1 fun c ms2 => (c = true → kd x ms2) ∧ (c = false → DE X xw (.BoolOp .Or (b :: rest) pos) ds ms2 kd)) : DE X xw (.BoolOp .Or (a :: b :: rest) pos) ds ms kd := by
  refine fun F σ H Q W A V pins s I => ?_
  refine BoolOp_or (thn (h F σ H (fun x H1 => wTru X x H1 fun c H2 => if c = true then Q x H2 else wE X (.BoolOp .Or (b :: rest) pos) σ H2 Q) W A ?_ pins s I) fun v s1 ⟨x, H1, I1, r1, q1⟩ => thn (q1 pins s1 σ v I1 r1) fun c s2 ⟨H2, I2, q2⟩ => ?_)
  · intro F1 x d ms1 H1 e1 r1 S1 k1
    refine k1 F1 x H1 _ r1 S1 fun F2 c ms2 H2 e2 S2 ⟨q1, q0⟩ => ?_
    cases c with
    | true => exact V F2 x d ms2 H2 (e1.trans e2) (r1.mono e2) S2 (q1 rfl)
    | false => exact q0 rfl F2 σ H2 Q W (A.mv (e1.trans e2) S2) (V.mono (e1.trans e2))
  · cases c with
    | true => exact ⟨x, H2, I2, r1, q2⟩
    | false => exact q2 pins s2 I2
theorem de_not (h : DE X xw a ds ms fun x ms1 => ∃ c, x = .bl c ∧ kd (.bl (!c)) ms1) : DE X xw (.UnaryOp .Not a pos) ds ms kd :=
  .of (pe_not pe_w) fun F σ H Q W A V => h F σ H _ W A fun F1 x d ms1 H1 e1 r1 S1 ⟨c, ec, q⟩ => by
    subst ec
    exact ⟨c, r1, V F1 (.bl (!c)) (.bl (!c)) ms1 H1 e1 rfl S1 q⟩
theorem de_ifExp (h : DT X xw c ds ms fun t ms1 => (t = true → DE X xw a ds ms1 kd) ∧ (t = false → DE X xw b ds ms1 kd)) : DE X xw (.IfExp c a b pos) ds ms kd :=
  .of (pe_ifExp pt_w pe_w pe_w) fun F σ H Q W A V => h F σ H _ W A fun F1 t ms1 H1 e1 S1 ⟨q1, q0⟩ => by
    cases t with
    | true => exact q1 rfl F1 σ H1 Q W (A.mv e1 S1) (V.mono e1)
    | false => exact q0 rfl F1 σ H1 Q W (A.mv e1 S1) (V.mono e1)

/-! ### branches -/
theorem br_dec {p : Prop} [Decidable p] {A B : Prop} (h1 : p → A) (h2 : ¬ p → B) : (decide p = true → A) ∧ (decide p = false → B) := ⟨fun h => h1 (of_decide_eq_true h), fun h => h2 (of_decide_eq_false h)⟩
theorem br_nec {p : Prop} [Decidable p] {A B : Prop} (h1 : ¬ p → A) (h2 : p → B) : ((!decide p) = true → A) ∧ ((!decide p) = false → B) := by
  by_cases hp : p
  · rw [decide_eq_true hp]; exact ⟨fun h => absurd h (by decide), fun _ => h2 hp⟩
  · rw [decide_eq_false hp]; exact ⟨fun _ => h1 hp, fun h => absurd h (by decide)⟩
theorem br_bl {b : Bool} {A B : Prop} (h1 : b = true → A) (h2 : b = false → B) : (b = true → A) ∧ (b = false → B) := ⟨h1, h2⟩
theorem br_nb {b : Bool} {A B : Prop} (h1 : b = false → A) (h2 : b = true → B) : ((!b) = true → A) ∧ ((!b) = false → B) := by
  cases b
  · exact ⟨fun _ => h1 rfl, fun h => absurd h (by decide)⟩
  · exact ⟨fun h => absurd h (by decide), fun _ => h2 rfl⟩
theorem br_t {A B : Prop} (h : A) : (true = true → A) ∧ (true = false → B) := ⟨fun _ => h, fun h => absurd h (by decide)⟩
theorem br_f {A B : Prop} (h : B) : (false = true → A) ∧ (false = false → B) := ⟨fun h => absurd h (by decide), fun _ => h⟩
theorem br_yes {p : Prop} [Decidable p] {A B : Prop} (h : p) (a : A) : (decide p = true → A) ∧ (decide p = false → B) := br_dec (fun _ => a) fun n => absurd h n
theorem br_no {p : Prop} [Decidable p] {A B : Prop} (h : ¬ p) (b : B) : (decide p = true → A) ∧ (decide p = false → B) := br_dec (fun n => absurd n h) fun _ => b
theorem br_nyes {p : Prop} [Decidable p] {A B : Prop} (h : p) (b : B) : ((!decide p) = true → A) ∧ ((!decide p) = false → B) := br_nec (fun n => absurd h n) fun _ => b
theorem br_nno {p : Prop} [Decidable p] {A B : Prop} (h : ¬ p) (a : A) : ((!decide p) = true → A) ∧ ((!decide p) = false → B) := br_nec (fun _ => a) fun n => absurd n h
theorem br_yes' {b : Bool} {A B : Prop} (h : b = true) (a : A) : (b = true → A) ∧ (b = false → B) := ⟨fun _ => a, fun z => by rw [h] at z; cases z⟩
theorem br_no' {b : Bool} {A B : Prop} (h : b = false) (a : B) : (b = true → A) ∧ (b = false → B) := ⟨fun z => (by rw [h] at z; cases z), fun _ => a⟩
theorem br_is {b : Bool} {A B : Prop} (c : Bool) (h : b = c) (q : if c = true then A else B) : (b = true → A) ∧ (b = false → B) := by
  subst h
  cases b
  · exact ⟨fun z => absurd z (by decide), fun _ => q⟩
  · exact ⟨fun _ => q, fun z => absurd z (by decide)⟩
theorem br_nt {A B : Prop} (h : B) : ((!true) = true → A) ∧ ((!true) = false → B) := ⟨fun h => absurd h (by decide), fun _ => h⟩
theorem br_nf {A B : Prop} (h : A) : ((!false) = true → A) ∧ ((!false) = false → B) := ⟨fun _ => h, fun h => absurd h (by decide)⟩
/-! ### argument lists, displays -/
theorem da_nil {kd : List D → MS → Prop} (q : kd [] ms) : DA X xw [] ds ms kd := fun F σ H Q W A V pos pins s I => pa_nil.run pos pins s σ H Q I (V F [] [] ms H (Le.refl F) rfl A.sep q)
theorem da_cons {kd : List D → MS → Prop} {es : List Expr} (h : DE X xw e ds ms fun x ms1 => DA X xw es ds ms1 fun xs ms2 => kd (x :: xs) ms2) (hs : starEach (e :: es) X.env = (false, eval e X.env) :: starEach es X.env) : DA X xw (e :: es) ds ms kd :=
  fun F σ H Q W A V pos pins s I => (pa_cons pe_w pa_w hs).run pos pins s σ H Q I (h F σ H _ W A fun F1 x d ms1 H1 e1 r1 S1 k1 => k1 F1 σ H1 _ W (A.mv e1 S1) fun F2 xs d2 ms2 H2 e2 r2 S2 k2 =>
    V F2 (x :: xs) (d :: d2) ms2 H2 (e1.trans e2) ⟨x, xs, rfl, r1.mono e2, r2⟩ S2 k2)
theorem de_tup {es : List Expr} {x1} (h : DA X xw es ds ms fun xs ms1 => xs.length ≤ sizeLine ∧ kd (.tup xs) ms1) : DE X xw (.Tuple es x1 pos) ds ms kd :=
  .of (pe_tup pa_w) fun F σ H Q W A V => h F σ H _ W A fun F1 xs d ms1 H1 e1 r1 S1 ⟨hl, q⟩ => ⟨by rw [r1.length]; exact hl, fun p hp =>
    V (upd F1 p (.tup xs)) (.ref p) (.tup d) ms1 _ (e1.trans (Le.new (S1.free hp))) ⟨p, xs, rfl, SqT.of upd_same, r1.mono (Le.new (S1.free hp))⟩ (S1.newF hp) q⟩
/-- a list that stays as it is made -/
theorem de_lst {es : List Expr} (h : DA X xw es ds ms fun xs ms1 => xs.length ≤ sizeLine ∧ kd (.lst xs) ms1) : DE X xw (.List es pos) ds ms kd :=
  .of (pe_lst pa_w) fun F σ H Q W A V => h F σ H _ W A fun F1 xs d ms1 H1 e1 r1 S1 ⟨hl, q⟩ => ⟨by rw [r1.length]; exact hl, fun p hp =>
    V (upd F1 p (.lst xs)) (.ref p) (.lst d) ms1 _ (e1.trans (Le.new (S1.free hp))) ⟨p, xs, rfl, upd_same, r1.mono (Le.new (S1.free hp))⟩ (S1.newF hp) q⟩
/-- a list that may change -/
theorem de_lstM {es : List Expr} (h : DA X xw es ds ms fun xs ms1 => xs.length ≤ sizeLine ∧ ∀ p, kd (.adr p) ((p, .lst xs) :: ms1)) : DE X xw (.List es pos) ds ms kd :=
  .of (pe_lst pa_w) fun F σ H Q W A V => h F σ H _ W A fun F1 xs d ms1 H1 e1 r1 S1 ⟨hl, q⟩ => ⟨by rw [r1.length]; exact hl, fun p hp =>
    V F1 (.ref p) (.adr p) _ _ e1 rfl (S1.new (o := .lst d) hp ⟨xs, rfl, r1⟩) (q p)⟩
theorem de_dicM (q : ∀ p, kd (.adr p) ((p, .dic []) :: ms)) : DE X xw (.Dict [] [] pos) ds ms kd :=
  .of pe_dnewK fun F σ H Q W A V p hp => V F (.ref p) (.adr p) _ _ (Le.refl F) rfl (A.sep.new (o := .dic []) hp ⟨[], rfl, rfl⟩) (q p)
/-- an object of the store stays from now on: the value, or what is wanted of it, is its content -/
def frz : MO → D
  | .lst xs => .lst xs
  | .dic kvs => .dic kvs
  | .ins C fs => .ins C fs
  | .oth _ => .non
  | .sm _ => .non
def canFrz : MO → Bool
  | .oth _ => false
  | .sm _ => false
  | .dic _ => false
  | _ => true
theorem frz_rep {K : PySem.W.Frag} {F : Hp} {p : Addr} {o : MO} {u : HO} (h : F p = some u) (r : MRep K F o u) (hn : canFrz o = true) : Rep K F (frz o) (.ref p) := by
  cases o with
  | lst xs => obtain ⟨vs, rfl, r⟩ := r; exact ⟨p, vs, rfl, h, r⟩
  | dic kvs => exact absurd hn Bool.false_ne_true
  | ins C fs => obtain ⟨dx, vs, rfl, r⟩ := r; exact ⟨p, dx, vs, rfl, h, r⟩
  | oth w => exact absurd hn Bool.false_ne_true
  | sm w => exact absurd hn Bool.false_ne_true
theorem de_freeze (h : DE X xw e ds ms fun d ms1 => ∃ p i o ms2, d = .adr p ∧ Ms ms1 i p o ∧ MDel ms1 i ms2 ∧ canFrz o = true ∧ kd (frz o) ms2) : DE X xw e ds ms kd :=
  fun F σ H Q W A V => h F σ H Q W A fun F1 v d ms1 H1 e1 r1 S1 ⟨p, i, o, ms2, ed, hm, hd, ho, q⟩ => by
    subst ed
    obtain ⟨u, l, S2, r⟩ := S1.freeze hm.at
    have r1' : v = .ref p := r1
    subst r1'
    exact V _ (.ref p) (frz o) ms2 H1 (e1.trans l) (frz_rep upd_same (r.mono l) ho) (by rw [hd.eq]; exact S2) q
/-- a dict of the store is locked for good -/
theorem Sep.freezeD {K : PySem.W.Frag} {F H : Hp} {ms : MS} {p : Addr} {i : Nat} {kds : List (Key × D)} (S : Sep K F ms H) (h : ms[i]? = some (p, .dic kds)) : ∃ kvs, H p = some (.dK kvs) ∧ ∀ o, Le F (upd F p (.frz o (.dK kvs))) ∧ Sep K (upd F p (.frz o (.dK kvs))) (ms.eraseIdx i) (upd H p (.frz o (.dK kvs))) ∧ Rep K (upd F p (.frz o (.dK kvs))) (.dic kds) (.ref p) := by
  obtain ⟨h0, u, hu, vs, rfl, r⟩ := S.get h
  refine ⟨vs, hu, fun o => ⟨Le.new h0, ⟨fun a w e => ?_, fun q hq => ?_, ?_⟩, ⟨p, vs, rfl, ⟨o, upd_same⟩, r.mono (Le.new h0)⟩⟩⟩
  · by_cases ha : a = p
    · subst ha; rw [upd_same] at e ⊢; exact e
    · rw [upd_ne ha] at e ⊢; exact S.ex a w e
  · obtain ⟨j, hj⟩ := List.mem_iff_getElem?.mp hq
    rw [List.getElem?_eraseIdx] at hj
    have : ∃ k, ms[k]? = some q ∧ i ≠ k := by
      split at hj
      · exact ⟨j, hj, by omega⟩
      · exact ⟨j + 1, hj, by omega⟩
    obtain ⟨k, hk, hik⟩ := this
    obtain ⟨h1, w, h2, h3⟩ := S.at_ q (List.mem_of_getElem? hk)
    have ne := S.apart h hk hik
    exact ⟨by rw [upd_ne ne]; exact h1, w, by rw [upd_ne ne]; exact h2, h3.mono (Le.new h0)⟩
  · have : ((ms.eraseIdx i).map (·.1)).Sublist (ms.map (·.1)) := (List.eraseIdx_sublist _ _).map _
    exact S.nd.sublist this
theorem de_freezeD (h : DE X xw e ds ms fun d ms1 => ∃ p i kds ms2, d = .adr p ∧ Ms ms1 i p (.dic kds) ∧ MDel ms1 i ms2 ∧ kd (.dic kds) ms2) : DE X xw e ds ms kd :=
  fun F σ H Q W A V pins s I => thn (h F σ H (fun v H1 => ∃ p u, v = .ref p ∧ H1 p = some u ∧ Mut (some u) ∧ ∀ o, Q (.ref p) (upd H1 p (.frz o u))) W A (fun F1 v d ms1 H1 e1 r1 S1 ⟨p, i, kds, ms2, ed, hm, hd, q⟩ => by
    subst ed
    obtain ⟨kvs, hu, g⟩ := S1.freezeD hm.at
    refine ⟨p, _, r1, hu, trivial, fun o => ?_⟩
    obtain ⟨l, S2, r⟩ := g o
    exact V _ (.ref p) (.dic kds) ms2 _ (e1.trans l) r (by rw [hd.eq]; exact S2) q) pins s I) fun v s1 ⟨x, H1, I1, r1, p, u, ex, hu, mu, q⟩ => by
      subst ex
      obtain ⟨od, I2⟩ := I1.lock hu mu
      exact ⟨.ref p, _, I2, r1, q od⟩
/-- the store told otherwise -/
theorem de_st {ms' : MS} (l : MLe X.K ms ms') (h : DE X xw e ds ms' kd) : DE X xw e ds ms kd := fun F σ H Q W A V => h F σ H Q W ⟨A.sr, l _ _ A.sep, A.tk, A.xc⟩ V
theorem dt_st {ms' : MS} (l : MLe X.K ms ms') (h : DT X xw e ds ms' kb) : DT X xw e ds ms kb := fun F σ H Q W A V => h F σ H Q W ⟨A.sr, l _ _ A.sep, A.tk, A.xc⟩ V
theorem ds_st {ms' : MS} {st : Stmt} {E : DEnds} (l : MLe X.K ms ms') (h : DS X xw st ds ms' E) : DS X xw st ds ms E := fun F σ H D W A V => h F σ H D W ⟨A.sr, l _ _ A.sep, A.tk, A.xc⟩ V
theorem dss_st {ms' : MS} {st : List Stmt} {E : DEnds} (l : MLe X.K ms ms') (h : DSs X xw st ds ms' E) : DSs X xw st ds ms E := fun F σ H D W A V => h F σ H D W ⟨A.sr, l _ _ A.sep, A.tk, A.xc⟩ V
theorem dss_env {ds' : DEnv} {st : List Stmt} {E : DEnds} (hl : ds'.length = ds.length) (hs : ∀ (i : Nat) (d : D), ds'[i]? = some (some d) → ds[i]? = some (some d)) (h : DSs X xw st ds' ms E) : DSs X xw st ds ms E := fun F σ H D W A V => h F σ H D W ⟨A.sr.forget hl hs, A.sep, A.tk, A.xc⟩ V
/-- an object that is known by what holds of it is opened -/
theorem dss_open {p : Addr} {φ : HO → Prop} {st : List Stmt} {E : DEnds} (h : ∀ u, φ u → DSs X xw st ds ((p, .oth u) :: ms) E) : DSs X xw st ds ((p, .sm φ) :: ms) E := fun F σ H D W A V => by
  obtain ⟨h1, u, h2, h3⟩ := A.sep.at_ _ List.mem_cons_self
  refine h u h3 F σ H D W ⟨A.sr, ⟨A.sep.ex, fun q hq => ?_, A.sep.nd⟩, A.tk, A.xc⟩ V
  rcases List.mem_cons.mp hq with rfl | hq
  · exact ⟨h1, u, h2, rfl⟩
  · exact A.sep.at_ q (List.mem_cons_of_mem _ hq)
theorem ms_front {K : PySem.W.Frag} {ms1 : MS} {i : Nat} {p : Addr} {o : MO} (h : Ms ms i p o) (d : MDel ms i ms1) : MLe K ms ((p, o) :: ms1) := .perm (by rw [d.eq]; exact perm_front h.at)
end
end DL

/-! DL2: operators, subscripts, slices, calls of built-ins, methods, by data. -/
namespace DL
open PySem PySem.Spec PyProof.Rows L2
section
variable {X : Cx} {xw : DX} {N : List Str} {k : Nat} {ds : DEnv} {ms : MS} {kd : DK} {kb : Bool → MS → Prop} {e a b c o : Expr} {es : List Expr} {pos p apos cpos : Pos}

/-! ### names of built-ins -/
theorem bt_len : bootBuiltins "len" = some (.builtin "len") := by first | exact PyProof.Rows.boot_len | exact PySem.boot_len | decide +kernel
theorem bt_abs : bootBuiltins "abs" = some (.builtin "abs") := by first | exact PyProof.Rows.boot_abs | exact PySem.boot_abs | decide +kernel
theorem bt_max : bootBuiltins "max" = some (.builtin "max") := by first | exact PyProof.Rows.boot_max | exact PySem.boot_max | decide +kernel
theorem bt_min : bootBuiltins "min" = some (.builtin "min") := by first | exact PyProof.Rows.boot_min | exact PySem.boot_min | decide +kernel
theorem bt_all : bootBuiltins "all" = some (.builtin "all") := by first | exact PyProof.Rows.boot_all | exact PySem.boot_all | decide +kernel
theorem bt_any : bootBuiltins "any" = some (.builtin "any") := by first | exact PyProof.Rows.boot_any | exact PySem.boot_any | decide +kernel
theorem bt_sum : bootBuiltins "sum" = some (.builtin "sum") := by first | exact PyProof.Rows.boot_sum | exact PySem.boot_sum | decide +kernel
theorem bt_sorted : bootBuiltins "sorted" = some (.builtin "sorted") := by first | exact PyProof.Rows.boot_sorted | exact PySem.boot_sorted | decide +kernel
theorem bt_repr : bootBuiltins "repr" = some (.builtin "repr") := by first | exact PyProof.Rows.boot_repr | exact PySem.boot_repr | decide +kernel
theorem bt_isinstance : bootBuiltins "isinstance" = some (.builtin "isinstance") := by first | exact PyProof.Rows.boot_isinstance | exact PySem.boot_isinstance | decide +kernel
theorem bt_int : bootBuiltins "int" = some (.type "int") := by first | exact PyProof.Rows.boot_int | exact PySem.boot_int | decide +kernel
theorem bt_str : bootBuiltins "str" = some (.type "str") := by first | exact PyProof.Rows.boot_str | exact PySem.boot_str | decide +kernel
theorem bt_list : bootBuiltins "list" = some (.type "list") := by first | exact PyProof.Rows.boot_list | exact PySem.boot_list | decide +kernel
theorem bt_tuple : bootBuiltins "tuple" = some (.type "tuple") := by first | exact PyProof.Rows.boot_tuple | exact PySem.boot_tuple | decide +kernel
theorem bt_dict : bootBuiltins "dict" = some (.type "dict") := by first | exact PyProof.Rows.boot_dict | exact PySem.boot_dict | decide +kernel
theorem bt_set : bootBuiltins "set" = some (.type "set") := by first | exact PyProof.Rows.boot_set | exact PySem.boot_set | decide +kernel
theorem bt_bool : bootBuiltins "bool" = some (.type "bool") := by first | exact PyProof.Rows.boot_bool | exact PySem.boot_bool | decide +kernel

/-! ### ints -/
theorem opd_add {i j : Int} (q : kd (.int (i + j)) ms) : OpD X (binaryOp .Add) (.int i) (.int j) ms kd := .of op_add fun F v u H Q rv ru S V => ⟨i, j, rv, ru, V.val (d := .int _) S rfl q⟩
theorem opd_sub {i j : Int} (q : kd (.int (i - j)) ms) : OpD X (binaryOp .Sub) (.int i) (.int j) ms kd := .of op_sub fun F v u H Q rv ru S V => ⟨i, j, rv, ru, V.val (d := .int _) S rfl q⟩
theorem opd_mul {i j : Int} (hc : CMul i j) (q : kd (.int (i * j)) ms) : OpD X (binaryOp .Mult) (.int i) (.int j) ms kd := .of op_mul fun F v u H Q rv ru S V => ⟨i, j, rv, ru, hc, V.val (d := .int _) S rfl q⟩
theorem opd_mulW {i j : Int} (hc : CMulW i j) (q : kd (.int (i * j)) ms) : OpD X (binaryOp .Mult) (.int i) (.int j) ms kd := .of op_mulW fun F v u H Q rv ru S V => ⟨i, j, rv, ru, hc, V.val (d := .int _) S rfl q⟩
theorem opd_div {i j : Int} (hc : CDivW i j) (q : kd (.int (i / j)) ms) : OpD X (binaryOp .FloorDiv) (.int i) (.int j) ms kd := .of op_fdivW fun F v u H Q rv ru S V => ⟨i, j, rv, ru, hc, V.val (d := .int _) S rfl q⟩
theorem opd_mod {i j : Int} (hc : 0 < j) (q : kd (.int (i % j)) ms) : OpD X (binaryOp .Mod) (.int i) (.int j) ms kd := .of op_mod fun F v u H Q rv ru S V => ⟨i, j, rv, ru, hc, V.val (d := .int _) S rfl q⟩
theorem divW_small {i j : Int} (h : 0 < j) (hj : j < 2 ^ 62) : CDivW i j := wide_div h (show j.natAbs < 2 ^ 62 by omega) (by decide) (by decide)
theorem divW_mid {i j : Int} (h : 0 < j) (hj : j.natAbs < 2 ^ 200) : CDivW i j := wide_div h hj (by decide) (by decide)
theorem mul_l {i j : Int} (h : -(2 ^ 64) < i) (h' : i < 2 ^ 64) : CMul i j := .inl ⟨h, h'⟩
theorem mul_r {i j : Int} (h : -(2 ^ 64) < j) (h' : j < 2 ^ 64) : CMul i j := .inr ⟨h, h'⟩
def CPowW (i j : Int) : Prop := 0 ≤ j ∧ (Builtin.Int.intBits i : Int) * j ≤ 2 ^ 27
theorem powW_of {i j : Int} {a : Nat} (h : 0 ≤ j) (hi : i.natAbs < 2 ^ a) (ha : 0 < a) (hj : (a : Int) * j ≤ 2 ^ 27) : CPowW i j := by
  refine ⟨h, Int.le_trans (Int.mul_le_mul_of_nonneg_right ?_ h) hj⟩
  have x := PySem.Flt.log2_lt_of ha hi
  have b : Builtin.Int.intBits i ≤ i.natAbs.log2 + 1 := by
    unfold Builtin.Int.intBits
    split <;> omega
  omega
theorem op_powW : OpR X (binaryOp .Pow) (rI CPowW fun i j => .int (i ^ j.toNat)) := opI fun _ _ _ _ _ _ _ hc q => pow_int hc.1 hc.2 q
theorem opd_pow {i j : Int} (hc : CPowW i j) (q : kd (.int (i ^ j.toNat)) ms) : OpD X (binaryOp .Pow) (.int i) (.int j) ms kd := .of op_powW fun F v u H Q rv ru S V => ⟨i, j, rv, ru, hc, V.val (d := .int _) S rfl q⟩
theorem und_neg {i : Int} (q : kd (.int (-i)) ms) : UnD X (unaryOp .USub) (.int i) ms kd := .of un_neg fun F v H Q rv S V => ⟨i, rv, V.val (d := .int _) S rfl q⟩
theorem opd_lt {i j : Int} (q : kd (.bl (decide (i < j))) ms) : OpD X (compareOp .Lt) (.int i) (.int j) ms kd := .of op_lt fun F v u H Q rv ru S V => ⟨i, j, rv, ru, V.val (d := .bl _) S rfl q⟩
theorem opd_le {i j : Int} (q : kd (.bl (decide (i ≤ j))) ms) : OpD X (compareOp .LtE) (.int i) (.int j) ms kd := .of op_le fun F v u H Q rv ru S V => ⟨i, j, rv, ru, V.val (d := .bl _) S rfl q⟩
theorem opd_gt {i j : Int} (q : kd (.bl (decide (j < i))) ms) : OpD X (compareOp .Gt) (.int i) (.int j) ms kd := .of op_gt fun F v u H Q rv ru S V => ⟨i, j, rv, ru, V.val (d := .bl _) S rfl q⟩
theorem opd_ge {i j : Int} (q : kd (.bl (decide (j ≤ i))) ms) : OpD X (compareOp .GtE) (.int i) (.int j) ms kd := .of op_ge fun F v u H Q rv ru S V => ⟨i, j, rv, ru, V.val (d := .bl _) S rfl q⟩
theorem opd_eq {i j : Int} (q : kd (.bl (decide (i = j))) ms) : OpD X (compareOp .Eq) (.int i) (.int j) ms kd := .of op_eq fun F v u H Q rv ru S V => by
  have rv' : v = .int i := rv
  have ru' : u = .int j := ru
  subst rv' ru'
  refine ⟨rfl, V.val (d := .bl _) (v := .bl _) S rfl ?_⟩
  rw [show decide (L2.V.int i = L2.V.int j) = decide (i = j) from decide_eq_decide.mpr ⟨fun e => L2.V.int.inj e, fun e => by rw [e]⟩]
  exact q
theorem opd_ne {i j : Int} (q : kd (.bl (!decide (i = j))) ms) : OpD X (compareOp .NotEq) (.int i) (.int j) ms kd := .of op_ne fun F v u H Q rv ru S V => by
  have rv' : v = .int i := rv
  have ru' : u = .int j := ru
  subst rv' ru'
  refine ⟨rfl, V.val (d := .bl _) (v := .bl _) S rfl ?_⟩
  rw [show decide (L2.V.int i = L2.V.int j) = decide (i = j) from decide_eq_decide.mpr ⟨fun e => L2.V.int.inj e, fun e => by rw [e]⟩]
  exact q
theorem opd_eqB {i j : Bool} (q : kd (.bl (decide (i = j))) ms) : OpD X (compareOp .Eq) (.bl i) (.bl j) ms kd := .of op_eq fun F v u H Q rv ru S V => by
  have rv' : v = .bl i := rv
  have ru' : u = .bl j := ru
  subst rv' ru'
  refine ⟨rfl, V.val (d := .bl _) (v := .bl _) S rfl ?_⟩
  rw [show decide (L2.V.bl i = L2.V.bl j) = decide (i = j) from decide_eq_decide.mpr ⟨fun e => L2.V.bl.inj e, fun e => by rw [e]⟩]
  exact q
theorem opd_neB {i j : Bool} (q : kd (.bl (!decide (i = j))) ms) : OpD X (compareOp .NotEq) (.bl i) (.bl j) ms kd := .of op_ne fun F v u H Q rv ru S V => by
  have rv' : v = .bl i := rv
  have ru' : u = .bl j := ru
  subst rv' ru'
  refine ⟨rfl, V.val (d := .bl _) (v := .bl _) S rfl ?_⟩
  rw [show decide (L2.V.bl i = L2.V.bl j) = decide (i = j) from decide_eq_decide.mpr ⟨fun e => L2.V.bl.inj e, fun e => by rw [e]⟩]
  exact q
theorem opd_eqS {i j : Str} (q : kd (.bl (decide (i = j))) ms) : OpD X (compareOp .Eq) (.str i) (.str j) ms kd := .of op_eq fun F v u H Q rv ru S V => by
  have rv' : v = .str i := rv
  have ru' : u = .str j := ru
  subst rv' ru'
  refine ⟨rfl, V.val (d := .bl _) (v := .bl _) S rfl ?_⟩
  rw [show decide (L2.V.str i = L2.V.str j) = decide (i = j) from decide_eq_decide.mpr ⟨fun e => L2.V.str.inj e, fun e => by rw [e]⟩]
  exact q
theorem opd_neS {i j : Str} (q : kd (.bl (!decide (i = j))) ms) : OpD X (compareOp .NotEq) (.str i) (.str j) ms kd := .of op_ne fun F v u H Q rv ru S V => by
  have rv' : v = .str i := rv
  have ru' : u = .str j := ru
  subst rv' ru'
  refine ⟨rfl, V.val (d := .bl _) (v := .bl _) S rfl ?_⟩
  rw [show decide (L2.V.str i = L2.V.str j) = decide (i = j) from decide_eq_decide.mpr ⟨fun e => L2.V.str.inj e, fun e => by rw [e]⟩]
  exact q
/-! ### is None -/
def isNonD : D → Bool
  | .non => true
  | _ => false
theorem Rep.isNon {K : PySem.W.Frag} {F : Hp} {d : D} {v : V} (r : Rep K F d v) : decide (v = .non) = isNonD d := by
  cases d with
  | non => cases r; rfl
  | bl _ => cases r; rfl
  | int _ => cases r; rfl
  | str _ => cases r; rfl
  | ty _ => cases r; rfl
  | adr _ => cases r; rfl
  | lst _ => obtain ⟨_, _, rfl, _⟩ := r; rfl
  | tup _ => obtain ⟨_, _, rfl, _⟩ := r; rfl
  | ttp _ => obtain ⟨_, _, rfl, _⟩ := r; rfl
  | dic _ => obtain ⟨_, _, rfl, _⟩ := r; rfl
  | ins _ _ => obtain ⟨_, _, _, rfl, _⟩ := r; rfl
  | scr _ => obtain ⟨_, rfl, _⟩ := r; rfl
  | err _ _ _ => obtain ⟨rfl, _⟩ := r; rfl
theorem opd_isN {x : D} (q : kd (.bl (isNonD x)) ms) : OpD X (compareOp .Is) x .non ms kd := .of op_isN fun F v u H Q rv ru S V => ⟨ru, by rw [rv.isNon]; exact V.val (d := .bl _) S rfl q⟩
theorem opd_notN {x : D} (q : kd (.bl (!isNonD x)) ms) : OpD X (compareOp .IsNot) x .non ms kd := .of op_notN fun F v u H Q rv ru S V => ⟨ru, by rw [rv.isNon]; exact V.val (d := .bl _) S rfl q⟩

/-! ### texts -/
theorem opd_addS {i j : Str} (hl : i.length + j.length ≤ sizeLine) (q : kd (.str (i ++ j)) ms) : OpD X (binaryOp .Add) (.str i) (.str j) ms kd := .of op_add_str fun F v u H Q rv ru S V => ⟨i, j, rv, ru, hl, V.val (d := .str _) S rfl q⟩
theorem opd_inC {c : Nat} {z : Str} (q : kd (.bl (decide (c ∈ z.cps.toList))) ms) : OpD X (compareOp .In) (.str ⟨#[c]⟩) (.str z) ms kd := .of op_in_sign fun F v u H Q rv ru S V => ⟨c, z, rv, ru, V.val (d := .bl _) S rfl q⟩
theorem opd_notInC {c : Nat} {z : Str} (q : kd (.bl (!decide (c ∈ z.cps.toList))) ms) : OpD X (compareOp .NotIn) (.str ⟨#[c]⟩) (.str z) ms kd := .of op_notIn_sign fun F v u H Q rv ru S V => ⟨c, z, rv, ru, V.val (d := .bl _) S rfl q⟩

/-! ### lists, tuples -/
theorem opd_cat {d d' : D} {xs ys : List D} (h : LsOf ms d xs) (h' : LsOf ms d' ys) (hl : xs.length + ys.length ≤ sizeLine) (q : kd (.lst (xs ++ ys)) ms) : OpD X (binaryOp .Add) d d' ms kd := .of op_cat fun F v u H Q rv ru S V => by
  obtain ⟨a, vs, rfl, h1, h2⟩ := h.at rv S
  obtain ⟨b, us, rfl, g1, g2⟩ := h'.at ru S
  exact ⟨a, b, vs, us, rfl, rfl, h1, g1, by rw [h2.length, g2.length]; exact hl, fun p hp => V _ (.ref p) (.lst _) ms _ (Le.new (S.free hp)) ⟨p, _, rfl, upd_same, (h2.append g2).mono (Le.new (S.free hp))⟩ (S.newF hp) q⟩
theorem opd_catT {xs ys : List D} (hn : xs ≠ []) (hn' : ys ≠ []) (hl : xs.length + ys.length ≤ sizeLine) (q : kd (.tup (xs ++ ys)) ms) : OpD X (binaryOp .Add) (.tup xs) (.tup ys) ms kd := .of op_catT fun F v u H Q rv ru S V => by
  obtain ⟨a, vs, rfl, h1, h2⟩ := rv
  obtain ⟨b, us, rfl, g1, g2⟩ := ru
  have l1 := h2.length
  have l2 := g2.length
  refine ⟨a, b, vs, us, rfl, rfl, S.sqT h1, S.sqT g1, ?_, by omega, ?_, ?_⟩
  · rintro rfl
    simp at l1
    exact hn (List.length_eq_zero_iff.mp l1.symm)
  · intro e
    exfalso
    subst e
    simp at l2
    exact hn' (List.length_eq_zero_iff.mp l2.symm)
  · exact fun _ p hp => V _ (.ref p) (.tup _) ms _ (Le.new (S.free hp)) ⟨p, _, rfl, SqT.of upd_same, (h2.append g2).mono (Le.new (S.free hp))⟩ (S.newF hp) q
theorem RepL.rep {K : PySem.W.Frag} {F : Hp} {ds : List D} {vs : List V} (h : RepL K F ds vs) : ∀ n : Nat, RepL K F (List.replicate n ds).flatten (List.replicate n vs).flatten
  | 0 => rfl
  | n + 1 => by rw [List.replicate_succ, List.replicate_succ, List.flatten_cons, List.flatten_cons]; exact h.append (RepL.rep h n)
theorem opd_rep {d : D} {xs : List D} {n : Int} (h : LsOf ms d xs) (h1 : -(2 ^ 63) ≤ n) (h2 : n < 2 ^ 63) (hl : xs.length * n.toNat ≤ sizeLine) (q : kd (.lst (List.replicate n.toNat xs).flatten) ms) : OpD X (binaryOp .Mult) d (.int n) ms kd := .of op_rep fun F v u H Q rv ru S V => by
  obtain ⟨a, vs, rfl, g1, g2⟩ := h.at rv S
  exact ⟨a, n, vs, rfl, ru, g1, h1, h2, by rw [g2.length]; exact hl, fun p hp => V _ (.ref p) (.lst _) ms _ (Le.new (S.free hp)) ⟨p, _, rfl, upd_same, (g2.rep _).mono (Le.new (S.free hp))⟩ (S.newF hp) q⟩

/-! ### x in xs, of flat data -/
def flatD : D → Bool
  | .non => true
  | .bl _ => true
  | .int _ => true
  | .str _ => true
  | _ => false
def toV : D → V
  | .non => .non
  | .bl b => .bl b
  | .int i => .int i
  | .str x => .str x
  | _ => .non
theorem flat_rep {K : PySem.W.Frag} {F : Hp} {d : D} {v : V} (h : flatD d = true) (r : Rep K F d v) : v = toV d ∧ flatV v = true := by
  cases d <;> first | (exact absurd h Bool.false_ne_true) | (cases r; exact ⟨rfl, rfl⟩)
theorem flat_repL {K : PySem.W.Frag} {F : Hp} : ∀ {ds : List D} {vs : List V}, ds.all flatD = true → RepL K F ds vs → vs = ds.map toV ∧ vs.all flatV = true
  | [], _, _, r => by cases r; exact ⟨rfl, rfl⟩
  | d :: ds, _, h, ⟨v, r, e, h1, h2⟩ => by
    subst e
    rw [List.all_cons, Bool.and_eq_true] at h
    obtain ⟨a1, a2⟩ := flat_rep h.1 h1
    obtain ⟨b1, b2⟩ := flat_repL h.2 h2
    exact ⟨by rw [a1, b1]; rfl, by rw [List.all_cons, a2, b2]; rfl⟩
def inD (x : D) (xs : List D) : Bool := inV (toV x) (xs.map toV)
theorem opd_inT {x : D} {xs : List D} (hx : flatD x = true) (hs : xs.all flatD = true) (q : kd (.bl (inD x xs)) ms) : OpD X (compareOp .In) x (.tup xs) ms kd := .of op_in_seq fun F v u H Q rv ru S V => by
  obtain ⟨a, vs, rfl, h1, h2⟩ := ru
  obtain ⟨rfl, f1⟩ := flat_rep hx rv
  obtain ⟨rfl, f2⟩ := flat_repL hs h2
  exact ⟨a, _, rfl, .inr (S.sqT h1), f1, f2, V.val (d := .bl _) S rfl q⟩
theorem opd_notInT {x : D} {xs : List D} (hx : flatD x = true) (hs : xs.all flatD = true) (q : kd (.bl (!inD x xs)) ms) : OpD X (compareOp .NotIn) x (.tup xs) ms kd := .of op_notIn_seq fun F v u H Q rv ru S V => by
  obtain ⟨a, vs, rfl, h1, h2⟩ := ru
  obtain ⟨rfl, f1⟩ := flat_rep hx rv
  obtain ⟨rfl, f2⟩ := flat_repL hs h2
  exact ⟨a, _, rfl, .inr (S.sqT h1), f1, f2, V.val (d := .bl _) S rfl q⟩
theorem opd_inL {x d : D} {xs : List D} (hd : LsOf ms d xs) (hx : flatD x = true) (hs : xs.all flatD = true) (q : kd (.bl (inD x xs)) ms) : OpD X (compareOp .In) x d ms kd := .of op_in_seq fun F v u H Q rv ru S V => by
  obtain ⟨a, vs, rfl, h1, h2⟩ := hd.at ru S
  obtain ⟨rfl, f1⟩ := flat_rep hx rv
  obtain ⟨rfl, f2⟩ := flat_repL hs h2
  exact ⟨a, _, rfl, .inl (SqL.of h1), f1, f2, V.val (d := .bl _) S rfl q⟩
theorem opd_notInL {x d : D} {xs : List D} (hd : LsOf ms d xs) (hx : flatD x = true) (hs : xs.all flatD = true) (q : kd (.bl (!inD x xs)) ms) : OpD X (compareOp .NotIn) x d ms kd := .of op_notIn_seq fun F v u H Q rv ru S V => by
  obtain ⟨a, vs, rfl, h1, h2⟩ := hd.at ru S
  obtain ⟨rfl, f1⟩ := flat_rep hx rv
  obtain ⟨rfl, f2⟩ := flat_repL hs h2
  exact ⟨a, _, rfl, .inl (SqL.of h1), f1, f2, V.val (d := .bl _) S rfl q⟩

/-! ### == and != of data -/
mutual
def pd : D → PyData
  | .non => .none
  | .bl b => .bool b
  | .int i => .int i
  | .str x => .str x
  | .lst xs => .list (pdL xs)
  | .tup xs => .tuple (pdL xs)
  | _ => .none
def pdL : List D → List PyData
  | [] => []
  | d :: ds => pd d :: pdL ds
end
mutual
def plain : D → Bool
  | .non => true
  | .bl _ => true
  | .int _ => true
  | .str _ => true
  | .lst xs => plainL xs
  | .tup xs => plainL xs
  | _ => false
def plainL : List D → Bool
  | [] => true
  | d :: ds => plain d && plainL ds
end
section
variable {K : PySem.W.Frag} {F H : Hp}
mutual
theorem dp_of (S : Sep K F ms H) : ∀ {d : D} {v : V}, plain d = true → Rep K F d v → Dp K H v (pd d)
  | .non, _, _, r => by cases r; exact .non
  | .bl _, _, _, r => by cases r; exact .bl _
  | .int _, _, _, r => by cases r; exact .int _
  | .str _, _, _, r => by cases r; exact .str _
  | .lst xs, _, h, ⟨a, vs, e, h1, h2⟩ => by subst e; exact .lst (SqL.of (S.ex _ _ h1)) (dp_ofL S (show plainL xs = true from h) h2)
  | .tup xs, _, h, ⟨a, vs, e, h1, h2⟩ => by subst e; exact .tup (S.sqT h1) (dp_ofL S (show plainL xs = true from h) h2)
  | .dic _, _, h, _ => absurd h Bool.false_ne_true
  | .ttp _, _, h, _ => absurd h Bool.false_ne_true
  | .ins _ _, _, h, _ => absurd h Bool.false_ne_true
  | .adr _, _, h, _ => absurd h Bool.false_ne_true
  | .ty _, _, h, _ => absurd h Bool.false_ne_true
  | .scr _, _, h, _ => absurd h Bool.false_ne_true
  | .err _ _ _, _, h, _ => absurd h Bool.false_ne_true
theorem dp_ofL (S : Sep K F ms H) : ∀ {d : List D} {v : List V}, plainL d = true → RepL K F d v → DpAll K H v (pdL d)
  | [], _, _, r => by cases r; exact .nil
  | d :: ds, _, h, ⟨v, r, e, h1, h2⟩ => by
    subst e
    have h' : (plain d && plainL ds) = true := h
    rw [Bool.and_eq_true] at h'
    exact .cons (dp_of S h'.1 h1) (dp_ofL S h'.2 h2)
end
end
/-- d is the data x: plain data, or a list of the store of plain data -/
def PdOf (ms : MS) (d x : D) : Prop := plain x = true ∧ (d = x ∨ ∃ xs, x = .lst xs ∧ LsOf ms d xs)
theorem PdOf.f {x : D} (h : plain x = true) : PdOf ms x x := ⟨h, .inl rfl⟩
theorem PdOf.m {d : D} {xs : List D} (h : plainL xs = true) (l : LsOf ms d xs) : PdOf ms d (.lst xs) := ⟨h, .inr ⟨xs, rfl, l⟩⟩
theorem PdOf.dp {K : PySem.W.Frag} {F H : Hp} {d x : D} {v : V} (h : PdOf ms d x) (S : Sep K F ms H) (r : Rep K F d v) : Dp K H v (pd x) := by
  rcases h with ⟨h, rfl | ⟨xs, rfl, l⟩⟩
  · exact dp_of S h r
  · obtain ⟨p, vs, rfl, h1, h2⟩ := l.at r S
    exact .lst (SqL.of h1) (dp_ofL S h h2)
def eqD (x y : D) : Bool := PyData.eqv (pd x) (pd y)
def shapedD (x : D) : Bool := SeqAt.shaped (pd x)
theorem opd_eqD (C : Ctx X N k) {d e x y : D} (h1 : PdOf ms d x) (h2 : PdOf ms e y) (s1 : shapedD x = true) (s2 : shapedD y = true) (q : kd (.bl (eqD x y)) ms) : OpD X (compareOp .Eq) d e ms kd := .of (op_eqD C.room.units) fun F v u H Q rv ru S V =>
  ⟨_, _, h1.dp S rv, h2.dp S ru, s1, s2, V.val (d := .bl _) S rfl q⟩
theorem opd_neD (C : Ctx X N k) {d e x y : D} (h1 : PdOf ms d x) (h2 : PdOf ms e y) (s1 : shapedD x = true) (s2 : shapedD y = true) (q : kd (.bl (!eqD x y)) ms) : OpD X (compareOp .NotEq) d e ms kd := .of (op_neD C.room.units) fun F v u H Q rv ru S V =>
  ⟨_, _, h1.dp S rv, h2.dp S ru, s1, s2, V.val (d := .bl _) S rfl q⟩

/-! ### subscripts -/
def wIx (X : Cx) (a b : Expr) : R2 := fun x y H Q => ∀ pins s σ v u, Inv X pins σ H s → RelV x v → RelV y u → wpAny (model X.prog X.w) X.A (subscriptTail a b v u) (EP X pins σ Q) X.xe s
def IxD (X : Cx) (a b : Expr) (x y : D) (ms : MS) (kd : DK) : Prop := ∀ F v u H Q, Rep X.K F x v → Rep X.K F y u → Sep X.K F ms H → VC X.K F kd Q → wIx X a b v u H Q
theorem de_ix (h : DE X xw a ds ms fun x ms1 => DE X xw b ds ms1 fun y ms2 => IxD X a b x y ms2 kd) : DE X xw (.Subscript a b pos) ds ms kd := fun F σ H Q W A V pins s I =>
  Subscript_ (binT pe_w pe_w I (h F σ H (fun x H1 => wE X b σ H1 fun y H2 => wIx X a b x y H2 Q) W A fun F1 x d ms1 H1 e1 r1 S1 k1 => k1 F1 σ H1 _ W (A.mv e1 S1) fun F2 y d2 ms2 H2 e2 r2 S2 k2 =>
    k2 F2 x y H2 Q (r1.mono e2) r2 S2 (V.mono (e1.trans e2))) fun v u s2 x y H2 I2 rx ry q => q pins s2 σ v u I2 rx ry)
theorem IxD.of {r : R2} {x y : D} (hr : IxR X r) (hs : PlainIx b) (q : ∀ F v u H Q, Rep X.K F x v → Rep X.K F y u → Sep X.K F ms H → VC X.K F kd Q → r v u H Q) : IxD X a b x y ms kd :=
  fun F v u H Q rv ru S V pins s σ v' u' I r1 r2 => hr a b pins s σ H v u v' u' Q I r1 r2 (q F v u H Q rv ru S V) (hs _ _)
theorem RepL.atI {K : PySem.W.Frag} {F : Hp} {xs : List D} {vs : List V} {i : Int} {d : D} (h : RepL K F xs vs) (ha : atI xs i = some d) : ∃ v, atI vs i = some v ∧ Rep K F d v := by
  unfold L2.atI at ha ⊢
  rw [h.length]
  cases e : ixN xs.length i with
  | none => rw [e] at ha; cases ha
  | some j =>
    rw [e] at ha
    exact h.get ha
theorem ixd_ls {d x : D} {xs : List D} {i : Int} (h : LsOf ms d xs) (ha : atI xs i = some x) (hs : PlainIx b) (q : kd x ms) : IxD X a b d (.int i) ms kd := .of ix_list hs fun F v u H Q rv ru S V => by
  obtain ⟨p, vs, rfl, h1, h2⟩ := h.at rv S
  obtain ⟨v, h3, h4⟩ := h2.atI ha
  exact ⟨p, vs, i, v, rfl, ru, SqL.of h1, h3, V.val S h4 q⟩
theorem ixd_scr {ns : List Int} {n : Int} {i : Int} (ha : atI ns i = some n) (hs : PlainIx b) (q : kd (.int n) ms) : IxD X a b (.scr ns) (.int i) ms kd := .of ix_list hs fun F v u H Q rv ru S V => by
  obtain ⟨p, rfl, h1⟩ := rv
  refine ⟨p, _, i, .int n, rfl, ru, S.sqL h1, ?_, V.val (d := .int n) S rfl q⟩
  unfold L2.atI at ha ⊢
  rw [List.length_map]
  cases e : ixN ns.length i with
  | none => rw [e] at ha; cases ha
  | some j =>
    rw [e] at ha
    show (ns.map L2.V.int)[j]? = _
    rw [List.getElem?_map, show ns[j]? = some n from ha]
    rfl
theorem ixd_tup {x : D} {xs : List D} {i : Int} (ha : atI xs i = some x) (hs : PlainIx b) (q : kd x ms) : IxD X a b (.tup xs) (.int i) ms kd := .of ix_tup hs fun F v u H Q rv ru S V => by
  obtain ⟨p, vs, rfl, h1, h2⟩ := rv
  obtain ⟨v, h3, h4⟩ := h2.atI ha
  exact ⟨p, vs, i, v, rfl, ru, S.sqT h1, h3, V.val S h4 q⟩
theorem ixd_str {z : Str} {i : Int} {c : Nat} (hz : z.length ≤ sizeLine) (ha : atI z.cps.toList i = some c) (hs : PlainIx b) (q : kd (.str ⟨#[c]⟩) ms) : IxD X a b (.str z) (.int i) ms kd := .of ix_str hs fun F v u H Q rv ru S V =>
  ⟨z, i, c, rv, ru, hz, ha, V.val (d := .str _) S rfl q⟩
/-- a dict's value -/
def valD (kvs : List (Key × D)) (k : Key) : Option D := (kvs.find? fun kv => decide (kv.1 = k)).map (·.2)
def keyD : Key → D
  | .inl i => .int i
  | .inr x => .str x
theorem key_rep {K : PySem.W.Frag} {F : Hp} {k : Key} {v : V} (r : Rep K F (keyD k) v) : v = kV k := by cases k <;> exact r
theorem RepK.val {K : PySem.W.Frag} {F : Hp} {k : Key} : ∀ {kds : List (Key × D)} {kvs : List (Key × V)}, RepK K F kds kvs → (∀ d, valD kds k = some d → ∃ v, valV kvs k = some v ∧ Rep K F d v) ∧ (valD kds k = none → valV kvs k = none)
  | [], _, h => by
    have h' : _ = [] := h
    subst h'
    exact And.intro (fun d e => absurd (show (none : Option D) = some d from e) (fun z => nomatch z)) (fun _ => rfl)
  | (k', d') :: kds, _, ⟨v, r, e, h1, h2⟩ => by
    subst e
    by_cases hk : k' = k
    · have e1 : valD ((k', d') :: kds) k = some d' := by simp [valD, hk]
      have e2 : valV ((k', v) :: r) k = some v := valV_pos hk
      rw [e1, e2]
      exact ⟨fun d e => by cases e; exact ⟨v, rfl, h1⟩, fun e => by cases e⟩
    · have e1 : valD ((k', d') :: kds) k = valD kds k := by simp [valD, hk]
      have e2 : valV ((k', v) :: r) k = valV r k := valV_neg hk
      rw [e1, e2]
      exact RepK.val h2
theorem ixd_dic (C : Ctx X N k) {d x y : D} {kvs : List (Key × D)} {ky : Key} (h : DcOf ms d kvs) (hy : y = keyD ky) (ha : valD kvs ky = some x) (hs : NoSl b) (q : kd x ms) : IxD X a b d y ms kd := fun F v u H Q rv ru S V pins s σ v' u' I r1 r2 => by
  obtain ⟨p, vs, rfl, h1, h2⟩ := h.at rv S
  subst hy
  have eu := key_rep ru
  subst eu
  obtain ⟨w, g1, g2⟩ := (h2.val).1 x ha
  obtain rfl : v' = Value.ref p := r1
  have g : DGet H p (kV ky) (some w) := .inl ⟨vs, ky, h1, rfl, g1.symm⟩
  have hT := dict_typeIs I g
  have hl := PySem.F.slot_dict_getitem.lookup
  unfold subscriptTail
  refine wpAny_bind ?_
  rw [getitemInPython_of_ne hT.not_modules]
  refine wpAny_bind (wpAny_specialOf hT hl ?_)
  have fin : wpAny (model X.prog X.w) X.A (subscripted b false (.ref p) u') (fun r s₃ => wpAny (model X.prog X.w) X.A (letTemporaryGo a (.ref p) r >>= fun _ => pure r) (EP X pins σ Q) X.xe s₃) X.xe s := by
    rw [hs (.ref p) u']
    refine wpAny_operating (thn (d_getItem (Q := EP X pins σ Q) C.hu I g r2 fun w' s' I' rw' => ⟨w, H, I', rw', V.val S g2 q⟩) fun r s3 h3 => wpAny_bind (wpAny_letTemporaryGo (wpAny_pure h3)))
  first
    | exact wpAny_pure (wpAny_bind fin)
    | exact wpAny_bind (wpAny_pure (wpAny_bind fin))
    | exact wpAny_bind fin

/-! ### slices -/
def DO (X : Cx) (xw : DX) (eo : Option Expr) (ds : DEnv) (ms : MS) (ko : Option Int → MS → Prop) : Prop := match eo with
  | none => ko none ms
  | some e => DE X xw e ds ms fun x ms1 => ∃ i, x = .int i ∧ ko (some i) ms1
theorem do_none {ko : Option Int → MS → Prop} (h : ko none ms) : DO X xw none ds ms ko := h
theorem do_some {ko : Option Int → MS → Prop} (h : DE X xw e ds ms fun x ms1 => ∃ i, x = .int i ∧ ko (some i) ms1) : DO X xw (some e) ds ms ko := h
def toW (X : Cx) (eo : Option Expr) : TO := match eo with
  | none => tNoPart
  | some e => tPart (wE X e)
theorem po_w {eo : Option Expr} : PO X eo (toW X eo) := by
  cases eo with
  | none => exact po_none
  | some e => exact po_some pe_w
theorem DO.run {eo : Option Expr} {ko : Option Int → MS → Prop} (h : DO X xw eo ds ms ko) {F : Hp} {σ : L2.St} {H : Hp} {W : WX} {Q : Option Int → Hp → Prop} (A : At X xw F ds σ ms H W)
    (V : ∀ F' oi ms' H', Le F F' → Sep X.K F' ms' H' → ko oi ms' → Q oi H') : toW X eo σ H Q := by
  cases eo with
  | none => exact V F none ms H (Le.refl F) A.sep h
  | some e => exact h F σ H _ W A fun F1 x d ms1 H1 e1 r1 S1 ⟨i, ei, q⟩ => by subst ei; exact ⟨i, r1, V F1 (some i) ms1 H1 e1 S1 q⟩
/-- a slice by data -/
def SlD (X : Cx) (x : D) (lo hi : Option Int) (ms : MS) (kd : DK) : Prop := ∀ F v H Q, Rep X.K F x v → Sep X.K F ms H → VC X.K F kd Q → ∃ r, SlR X r ∧ r v lo hi H Q
def wSl (X : Cx) : V → Option Int → Option Int → Hp → VK → Prop := fun v lo hi H Q => ∃ r, SlR X r ∧ r v lo hi H Q
theorem slr_w : SlR X (wSl X) := fun pins s σ H x v vl vu lo hi sl Q I rx hs pl pu ⟨r, hr, q⟩ => hr pins s σ H x v vl vu lo hi sl Q I rx hs pl pu q
theorem de_slice {lo hi : Option Expr} {p2 : Pos} (h : DE X xw e ds ms fun x ms1 => DO X xw lo ds ms1 fun l ms2 => DO X xw hi ds ms2 fun u ms3 => SlD X x l u ms3 kd) : DE X xw (.Subscript e (.Slice lo hi none p2) pos) ds ms kd :=
  .of (pe_slice slr_w pe_w po_w po_w) fun F σ H Q W A V => h F σ H _ W A fun F1 x d ms1 H1 e1 r1 S1 k1 => k1.run (A.mv e1 S1) fun F2 l ms2 H2 e2 S2 k2 => k2.run (A.mv (e1.trans e2) S2) fun F3 u ms3 H3 e3 S3 k3 =>
    k3 F3 x H3 Q ((r1.mono e2).mono e3) S3 (V.mono ((e1.trans e2).trans e3))
def cutD (xs : List D) (lo hi : Option Int) : List D := (xs.drop (HT.sIx xs.length 0 lo)).take (HT.sIx xs.length xs.length hi - HT.sIx xs.length 0 lo)
theorem RepL.cut {K : PySem.W.Frag} {F : Hp} {xs : List D} {vs : List V} (h : RepL K F xs vs) (lo hi : Option Int) : RepL K F (cutD xs lo hi) (cutV vs lo hi) := by
  unfold cutD cutV
  rw [h.length]
  exact (h.drop _).take _
theorem sld_ls {d : D} {xs : List D} {lo hi : Option Int} (h : LsOf ms d xs) (q : kd (.lst (cutD xs lo hi)) ms) : SlD X d lo hi ms kd := fun F v H Q rv S V => by
  obtain ⟨a, vs, rfl, h1, h2⟩ := h.at rv S
  exact ⟨_, sl_list, a, vs, rfl, SqL.of h1, fun p hp => V _ (.ref p) (.lst _) ms _ (Le.new (S.free hp)) ⟨p, _, rfl, upd_same, (h2.cut lo hi).mono (Le.new (S.free hp))⟩ (S.newF hp) q⟩
theorem sld_str {z : Str} {lo hi : Option Int} (hz : z.length ≤ sizeLine) (q : kd (.str (cutS z lo hi)) ms) : SlD X (.str z) lo hi ms kd := fun F v H Q rv S V => ⟨_, sl_str, z, rv, hz, V.val (d := .str _) S rfl q⟩

/-! ### calls of built-ins -/
def wC (X : Cx) (f : Value) : List V → Hp → VK → Prop := fun xs H Q => ∀ pins s σ us, Inv X pins σ H s → Vals xs us → wpAny (model X.prog X.w) X.A (call f us) (EP X pins σ Q) X.xe s
theorem cr_w {f : Value} : CallR X f (wC X f) := fun pins s σ H xs us Q I r h => h pins s σ us I r
def CaD (X : Cx) (f : Value) (xs : List D) (ms : MS) (kd : DK) : Prop := ∀ F vs H Q, RepL X.K F xs vs → Sep X.K F ms H → VC X.K F kd Q → wC X f vs H Q
theorem CaD.of {f : Value} {r : List V → Hp → VK → Prop} {xs : List D} (hc : CallR X f r) (q : ∀ F vs H Q, RepL X.K F xs vs → Sep X.K F ms H → VC X.K F kd Q → r vs H Q) : CaD X f xs ms kd :=
  fun F vs H Q rv S V pins s σ us I r1 => hc pins s σ H vs us Q I r1 (q F vs H Q rv S V)
theorem de_callB {x : Str} {id : String} (hv : bootBuiltins x = some (.builtin id)) (hm : X.mg x = none) (h : DA X xw (e :: es) ds ms fun xs ms1 => CaD X (.builtin id) xs ms1 kd) (hg : Gl X x) (hn : x ≠ "__name__") (hdb : (x == ("__debug__" : Str)) = false)
    (he : starEach (e :: es) X.env = (false, eval e X.env) :: starEach es X.env) (hpl : (backTo pos (starEach es X.env)).any (·.1) = false) : DE X xw (.Call (.Name x p) (e :: es) [] pos) ds ms kd :=
  .of (pe_callB cr_w hg hm hv pa_w hn hdb he hpl) fun F σ H Q W A V => h F σ H _ W A fun F1 xs d ms1 H1 e1 r1 S1 k1 => k1 F1 xs H1 Q r1 S1 (V.mono e1)
theorem de_callT {x : Str} {T : String} (hv : bootBuiltins x = some (.type T)) (hm : X.mg x = none) (h : DA X xw (e :: es) ds ms fun xs ms1 => CaD X (.type T) xs ms1 kd) (hg : Gl X x) (hn : x ≠ "__name__") (hdb : (x == ("__debug__" : Str)) = false)
    (he : starEach (e :: es) X.env = (false, eval e X.env) :: starEach es X.env) (hpl : (backTo pos (starEach es X.env)).any (·.1) = false) : DE X xw (.Call (.Name x p) (e :: es) [] pos) ds ms kd :=
  .of (pe_callTy cr_w hg hm hv pa_w hn hdb he hpl) fun F σ H Q W A V => h F σ H _ W A fun F1 xs d ms1 H1 e1 r1 S1 k1 => k1 F1 xs H1 Q r1 S1 (V.mono e1)
theorem RepL.inv1 {K : PySem.W.Frag} {F : Hp} {d : D} {vs : List V} (h : RepL K F [d] vs) : ∃ v, vs = [v] ∧ Rep K F d v := by
  obtain ⟨v, r, e, h1, h2⟩ := h
  have h2' : r = [] := h2
  subst h2'
  exact ⟨v, e, h1⟩
theorem RepL.inv2 {K : PySem.W.Frag} {F : Hp} {d d' : D} {vs : List V} (h : RepL K F [d, d'] vs) : ∃ v u, vs = [v, u] ∧ Rep K F d v ∧ Rep K F d' u := by
  obtain ⟨v, r, e, h1, h2⟩ := h
  obtain ⟨u, rfl, h3⟩ := h2.inv1
  exact ⟨v, u, e, h1, h3⟩
theorem cad_lenL {d : D} {xs : List D} (h : LsOf ms d xs) (q : kd (.int xs.length) ms) : CaD X (.builtin "len") [d] ms kd := .of call_len_seq fun F vs H Q r S V => by
  obtain ⟨v, rfl, r1⟩ := r.inv1
  obtain ⟨p, us, rfl, h1, h2⟩ := h.at r1 S
  exact ⟨p, us, rfl, .inl (SqL.of h1), by rw [h2.length]; exact V.val (d := .int _) S rfl q⟩
theorem cad_lenT {xs : List D} (q : kd (.int xs.length) ms) : CaD X (.builtin "len") [.tup xs] ms kd := .of call_len_seq fun F vs H Q r S V => by
  obtain ⟨v, rfl, r1⟩ := r.inv1
  obtain ⟨p, us, rfl, h1, h2⟩ := r1
  exact ⟨p, us, rfl, .inr (S.sqT h1), by rw [h2.length]; exact V.val (d := .int _) S rfl q⟩
theorem cad_lenC {xs : List Int} (q : kd (.int xs.length) ms) : CaD X (.builtin "len") [.scr xs] ms kd := .of call_len_seq fun F vs H Q r S V => by
  obtain ⟨v, rfl, r1⟩ := r.inv1
  obtain ⟨p, rfl, h1⟩ := r1
  exact ⟨p, _, rfl, .inl (S.sqL h1), by rw [List.length_map]; exact V.val (d := .int _) S rfl q⟩
theorem cad_lenS {z : Str} (hz : z.length ≤ sizeLine) (q : kd (.int z.length) ms) : CaD X (.builtin "len") [.str z] ms kd := .of call_len_str fun F vs H Q r S V => by
  obtain ⟨v, rfl, r1⟩ := r.inv1
  exact ⟨z, by rw [show v = .str z from r1], hz, V.val (d := .int _) S rfl q⟩
theorem cad_abs {i : Int} (q : kd (.int (if i < 0 then -i else i)) ms) : CaD X (.builtin "abs") [.int i] ms kd := .of call_abs fun F vs H Q r S V => by
  obtain ⟨v, rfl, r1⟩ := r.inv1
  exact ⟨i, by rw [show v = .int i from r1], V.val (d := .int _) S rfl q⟩
theorem cad_max2 (C : Ctx X N k) {i j : Int} (q : kd (.int (if j > i then j else i)) ms) : CaD X (.builtin "max") [.int i, .int j] ms kd := .of (call_max2 C.calm) fun F vs H Q r S V => by
  obtain ⟨v, u, rfl, r1, r2⟩ := r.inv2
  exact ⟨i, j, by rw [show v = .int i from r1, show u = .int j from r2], V.val (d := .int _) S rfl q⟩
theorem cad_min2 (C : Ctx X N k) {i j : Int} (q : kd (.int (if j < i then j else i)) ms) : CaD X (.builtin "min") [.int i, .int j] ms kd := .of (call_min2 C.calm) fun F vs H Q r S V => by
  obtain ⟨v, u, rfl, r1, r2⟩ := r.inv2
  exact ⟨i, j, by rw [show v = .int i from r1, show u = .int j from r2], V.val (d := .int _) S rfl q⟩
theorem cad_intI {i : Int} (q : kd (.int i) ms) : CaD X (.type "int") [.int i] ms kd := .of call_int1 fun F vs H Q r S V => by
  obtain ⟨v, rfl, r1⟩ := r.inv1
  exact .inl ⟨i, by rw [show v = .int i from r1], V.val (d := .int _) S rfl q⟩
theorem cad_intB {i : Bool} (q : kd (.int (if i then 1 else 0)) ms) : CaD X (.type "int") [.bl i] ms kd := .of call_int1 fun F vs H Q r S V => by
  obtain ⟨v, rfl, r1⟩ := r.inv1
  exact .inr ⟨i, by rw [show v = .bl i from r1], V.val (d := .int _) S rfl q⟩
theorem cad_intS {z : Str} {n : Int} (hn : PySem.intText? z = some n) (hl : z.length ≤ 640) (q : kd (.int n) ms) : CaD X (.type "int") [.str z] ms kd := .of call_int_str fun F vs H Q r S V => by
  obtain ⟨v, rfl, r1⟩ := r.inv1
  exact ⟨z, n, by rw [show v = .str z from r1], hn, hl, V.val (d := .int _) S rfl q⟩
theorem cad_strI {i : Int} (hi : i.natAbs.log2 < 1920) (q : kd (.str (toString i)) ms) : CaD X (.type "str") [.int i] ms kd := .of call_str_int fun F vs H Q r S V => by
  obtain ⟨v, rfl, r1⟩ := r.inv1
  exact ⟨i, by rw [show v = .int i from r1], hi, V.val (d := .str _) S rfl q⟩
/-- list(xs): a new list that may change -/
theorem cad_listL {d : D} {xs : List D} (h : LsOf ms d xs) (q : ∀ p, kd (.adr p) ((p, .lst xs) :: ms)) : CaD X (.type "list") [d] ms kd := .of call_list_of fun F vs H Q r S V => by
  obtain ⟨v, rfl, r1⟩ := r.inv1
  obtain ⟨a, us, rfl, h1, h2⟩ := h.at r1 S
  exact ⟨a, us, rfl, .inl (SqL.of h1), fun p hp => V F (.ref p) (.adr p) _ _ (Le.refl F) rfl (S.new (o := .lst xs) hp ⟨us, rfl, h2⟩) (q p)⟩
theorem cad_listT {xs : List D} (q : ∀ p, kd (.adr p) ((p, .lst xs) :: ms)) : CaD X (.type "list") [.tup xs] ms kd := .of call_list_of fun F vs H Q r S V => by
  obtain ⟨v, rfl, r1⟩ := r.inv1
  obtain ⟨a, us, rfl, h1, h2⟩ := r1
  exact ⟨a, us, rfl, .inr (S.sqT h1), fun p hp => V F (.ref p) (.adr p) _ _ (Le.refl F) rfl (S.new (o := .lst xs) hp ⟨us, rfl, h2⟩) (q p)⟩
theorem cad_tupleL {d : D} {xs : List D} (h : LsOf ms d xs) (q : kd (.tup xs) ms) : CaD X (.type "tuple") [d] ms kd := .of call_tuple_of fun F vs H Q r S V => by
  obtain ⟨v, rfl, r1⟩ := r.inv1
  obtain ⟨a, us, rfl, h1, h2⟩ := h.at r1 S
  exact ⟨a, us, rfl, .inl ⟨SqL.of h1, fun p hp => V _ (.ref p) (.tup xs) ms _ (Le.new (S.free hp)) ⟨p, us, rfl, SqT.of upd_same, h2.mono (Le.new (S.free hp))⟩ (S.newF hp) q⟩⟩
theorem cad_tupleT {xs : List D} (q : kd (.tup xs) ms) : CaD X (.type "tuple") [.tup xs] ms kd := .of call_tuple_of fun F vs H Q r S V => by
  obtain ⟨v, rfl, r1⟩ := r.inv1
  obtain ⟨a, us, rfl, h1, h2⟩ := id r1
  exact ⟨a, us, rfl, .inr ⟨S.sqT h1, V.val (d := .tup xs) S ⟨a, us, rfl, h1, h2⟩ q⟩⟩
theorem cad_sum (C : Ctx X N k) {d : D} {ns : List Int} (h : LsOf ms d (ns.map D.int)) (q : kd (.int ns.sum) ms) : CaD X (.builtin "sum") [d] ms kd := .of (cr_sum C.calm) fun F vs H Q r S V => by
  obtain ⟨v, rfl, r1⟩ := r.inv1
  obtain ⟨a, us, rfl, h1, h2⟩ := h.at r1 S
  rw [h2.ints] at h1
  exact ⟨a, ns, rfl, SqL.of h1, V.val (d := .int _) S rfl q⟩
theorem cad_all (C : Ctx X N k) {d : D} {bs : List Bool} (h : LsOf ms d (bs.map D.bl)) (q : kd (.bl (bs.all id)) ms) : CaD X (.builtin "all") [d] ms kd := .of (cr_all C.calm) fun F vs H Q r S V => by
  obtain ⟨v, rfl, r1⟩ := r.inv1
  obtain ⟨a, us, rfl, h1, h2⟩ := h.at r1 S
  rw [h2.bools] at h1
  exact ⟨a, bs, rfl, SqL.of h1, V.val (d := .bl _) S rfl q⟩
theorem cad_any (C : Ctx X N k) {d : D} {bs : List Bool} (h : LsOf ms d (bs.map D.bl)) (q : kd (.bl (bs.any id)) ms) : CaD X (.builtin "any") [d] ms kd := .of (cr_any C.calm) fun F vs H Q r S V => by
  obtain ⟨v, rfl, r1⟩ := r.inv1
  obtain ⟨a, us, rfl, h1, h2⟩ := h.at r1 S
  rw [h2.bools] at h1
  exact ⟨a, bs, rfl, SqL.of h1, V.val (d := .bl _) S rfl q⟩
theorem cad_max (C : Ctx X N k) {d : D} {ns : List Int} (h : LsOf ms d (ns.map D.int)) (h0 : 0 < ns.length) (q : ∀ m, m ∈ ns → (∀ y ∈ ns, y ≤ m) → kd (.int m) ms) : CaD X (.builtin "max") [d] ms kd := .of (cr_max C.calm) fun F vs H Q r S V => by
  obtain ⟨v, rfl, r1⟩ := r.inv1
  obtain ⟨a, us, rfl, h1, h2⟩ := h.at r1 S
  rw [h2.ints] at h1
  exact ⟨a, ns, rfl, SqL.of h1, h0, fun m hm hy => V.val (d := .int _) S rfl (q m hm hy)⟩
theorem cad_min (C : Ctx X N k) {d : D} {ns : List Int} (h : LsOf ms d (ns.map D.int)) (h0 : 0 < ns.length) (q : ∀ m, m ∈ ns → (∀ y ∈ ns, m ≤ y) → kd (.int m) ms) : CaD X (.builtin "min") [d] ms kd := .of (cr_min C.calm) fun F vs H Q r S V => by
  obtain ⟨v, rfl, r1⟩ := r.inv1
  obtain ⟨a, us, rfl, h1, h2⟩ := h.at r1 S
  rw [h2.ints] at h1
  exact ⟨a, ns, rfl, SqL.of h1, h0, fun m hm hy => V.val (d := .int _) S rfl (q m hm hy)⟩

/-! ### methods of built-in types -/
def wM (X : Cx) (id : String) : V → List V → Hp → VK → Prop := fun x xs H Q => ∀ pins s σ v us, Inv X pins σ H s → RelV x v → Vals xs us → wpAny (model X.prog X.w) X.A (call (.builtin id) (v :: us)) (EP X pins σ Q) X.xe s
theorem mr_w {id : String} : MtR X id (wM X id) := fun pins s σ H x xs v us Q I rx r h => h pins s σ v us I rx r
def MtD (X : Cx) (id : String) (x : D) (xs : List D) (ms : MS) (kd : DK) : Prop := ∀ F v vs H Q, Rep X.K F x v → RepL X.K F xs vs → Sep X.K F ms H → VC X.K F kd Q → wM X id v vs H Q
theorem MtD.of {id : String} {r : V → List V → Hp → VK → Prop} {x : D} {xs : List D} (hc : MtR X id r) (q : ∀ F v vs H Q, Rep X.K F x v → RepL X.K F xs vs → Sep X.K F ms H → VC X.K F kd Q → r v vs H Q) : MtD X id x xs ms kd :=
  fun F v vs H Q rx rv S V pins s σ v' us I r0 r1 => hc pins s σ H v vs v' us Q I r0 r1 (q F v vs H Q rx rv S V)
/-- the receiver's type -/
def TyD (ms : MS) (T : String) (x : D) : Prop := (∃ z, x = .str z ∧ T = "str") ∨ (T = "list" ∧ ∃ xs, LsOf ms x xs) ∨ (T = "dict" ∧ ∃ p i kvs, x = .adr p ∧ Ms ms i p (.dic kvs))
theorem TyD.tyV {K : PySem.W.Frag} {F H : Hp} {T : String} {x : D} {v : V} (h : TyD ms T x) (r : Rep K F x v) (S : Sep K F ms H) : tyV K T v H := by
  rcases h with ⟨z, rfl, rfl⟩ | ⟨rfl, xs, h⟩ | ⟨rfl, p, i, kvs, rfl, h⟩
  · cases r; rfl
  · obtain ⟨p, vs, rfl, h1, _⟩ := h.at r S
    exact .inl ⟨rfl, vs, SqL.of h1⟩
  · obtain ⟨_, u, h1, vs, rfl, _⟩ := S.get h.at
    cases r
    exact .inr (.inr (.inl ⟨rfl, .inl ⟨vs, h1⟩⟩))
theorem ty_str {ms : MS} {z : Str} {A : Prop} (h : A) : TyD ms "str" (.str z) ∧ A := ⟨.inl ⟨z, rfl, rfl⟩, h⟩
theorem ty_ls {ms : MS} {d : D} {xs : List D} {A : Prop} (l : LsOf ms d xs) (h : A) : TyD ms "list" d ∧ A := ⟨.inr (.inl ⟨rfl, xs, l⟩), h⟩
theorem ty_dic {ms : MS} {p : Addr} {i : Nat} {kvs : List (Key × D)} {A : Prop} (l : Ms ms i p (.dic kvs)) (h : A) : TyD ms "dict" (.adr p) ∧ A := ⟨.inr (.inr ⟨rfl, p, i, kvs, rfl, l⟩), h⟩
theorem de_m0 {T id : String} {name : Str} (pa : PlainAttrs T) (slot : Slot T name id) (hty : typeOf (.builtin id) = pure (.type "method_descriptor"))
    (h : DE X xw o ds ms fun x ms1 => TyD ms1 T x ∧ MtD X id x [] ms1 kd)
    (hbase : attributeBase o name X.env (eval o X.env) = eval o X.env) (hline : (apos.endLine == cpos.line) = true) : DE X xw (.Call (.Attribute o name apos) [] [] cpos) ds ms kd :=
  .of (pe_bm0 pa slot hty mr_w pe_w hbase hline) fun F σ H Q W A V => h F σ H _ W A fun F1 x d ms1 H1 e1 r1 S1 ⟨ht, k1⟩ => ⟨ht.tyV r1 S1, k1 F1 x [] H1 Q r1 rfl S1 (V.mono e1)⟩
theorem de_m {T id : String} {name : Str} (pa : PlainAttrs T) (slot : Slot T name id) (hty : typeOf (.builtin id) = pure (.type "method_descriptor"))
    (h : DE X xw o ds ms fun x ms1 => TyD ms1 T x ∧ DA X xw (e :: es) ds ms1 fun xs ms2 => MtD X id x xs ms2 kd)
    (hbase : attributeBase o name X.env (eval o X.env) = eval o X.env)
    (hfew : ((backTo cpos (starEach (e :: es) X.env)).all (fun x => !x.1) && (backToKw cpos (keywordEach [] X.env)).all (fun x => x.1.isSome)
      && decide ((e :: es).length + ([] : List Keyword).length + (if ([] : List Keyword).isEmpty then 0 else 1) < 30)) = true)
    (hline : (apos.endLine == cpos.line) = true) (hs : starEach (e :: es) X.env = (false, eval e X.env) :: starEach es X.env) (hplain : (backTo cpos (starEach es X.env)).any (·.1) = false) : DE X xw (.Call (.Attribute o name apos) (e :: es) [] cpos) ds ms kd :=
  .of (pe_bm pa slot hty mr_w pe_w pa_w hbase hfew hline hs hplain) fun F σ H Q W A V => h F σ H _ W A fun F1 x d ms1 H1 e1 r1 S1 ⟨ht, k1⟩ => ⟨ht.tyV r1 S1, k1 F1 σ H1 _ W (A.mv e1 S1) fun F2 xs d2 ms2 H2 e2 r2 S2 k2 =>
    k2 F2 x xs H2 Q (r1.mono e2) r2 S2 (V.mono (e1.trans e2))⟩
theorem mtd_append {p : Addr} {i : Nat} {xs : List D} {y : D} {ms' : MS} (hm : Ms ms i p (.lst xs)) (hp : MPut ms i (.lst (xs ++ [y])) ms') (hl : xs.length < sizeLine) (q : kd .non ms') : MtD X "list.append" (.adr p) [y] ms kd := .of mt_append fun F v vs H Q rx rv S V => by
  obtain ⟨u, rfl, r1⟩ := rv.inv1
  obtain ⟨_, w, h1, us, rfl, h2⟩ := S.get hm.at
  obtain ⟨a, o, h3, rfl⟩ := hp.eq
  rw [hm.at] at h3
  cases h3
  exact ⟨p, us, u, rx, rfl, h1, by rw [h2.length]; exact hl, V F .non .non _ _ (Le.refl F) rfl (S.set (o' := .lst _) hm.at ⟨us ++ [u], rfl, h2.append (RepL.one r1)⟩) q⟩
theorem mtd_extend {p : Addr} {i : Nat} {d : D} {xs ys : List D} {ms' : MS} (hm : Ms ms i p (.lst xs)) (hd : LsOf ms d ys) (hp : MPut ms i (.lst (xs ++ ys)) ms') (hl : xs.length + ys.length ≤ sizeLine) (q : kd .non ms') : MtD X "list.extend" (.adr p) [d] ms kd := .of mt_extend fun F v vs H Q rx rv S V => by
  obtain ⟨u, rfl, r1⟩ := rv.inv1
  obtain ⟨_, w, h1, us, rfl, h2⟩ := S.get hm.at
  obtain ⟨b, zs, rfl, g1, g2⟩ := hd.at r1 S
  obtain ⟨a, o, h3, rfl⟩ := hp.eq
  rw [hm.at] at h3
  cases h3
  exact ⟨p, b, us, zs, rx, rfl, h1, g1, by rw [h2.length, g2.length]; exact hl, V F .non .non _ _ (Le.refl F) rfl (S.set (o' := .lst _) hm.at ⟨us ++ zs, rfl, h2.append g2⟩) q⟩
/-! texts -/
theorem mtd_startswith {z y : Str} (q : kd (.bl (Txt.startswith z y)) ms) : MtD X "str.startswith" (.str z) [.str y] ms kd := .of mt_startswith fun F v vs H Q rx rv S V => by
  obtain ⟨u, rfl, r1⟩ := rv.inv1
  exact ⟨z, y, rx, by rw [show u = .str y from r1], V.val (d := .bl _) S rfl q⟩
theorem mtd_endswith {z y : Str} (q : kd (.bl (Txt.endswith z y)) ms) : MtD X "str.endswith" (.str z) [.str y] ms kd := .of mt_endswith fun F v vs H Q rx rv S V => by
  obtain ⟨u, rfl, r1⟩ := rv.inv1
  exact ⟨z, y, rx, by rw [show u = .str y from r1], V.val (d := .bl _) S rfl q⟩
theorem mtd_isdigit {z : Str} (q : kd (.bl (Txt.isdigit z)) ms) : MtD X "str.isdigit" (.str z) [] ms kd := .of mt_isdigit fun F v vs H Q rx rv S V => ⟨z, rx, rv, trivial, V.val (d := .bl _) S rfl q⟩
theorem mtd_split {z y : Str} (hy : (y.length == 0) = false) (hz : z.length + 2 ≤ sizeLine) (q : ∀ p, kd (.adr p) ((p, .lst ((Txt.split z y).map D.str)) :: ms)) : MtD X "str.split" (.str z) [.str y] ms kd := .of mt_split fun F v vs H Q rx rv S V => by
  obtain ⟨u, rfl, r1⟩ := rv.inv1
  exact ⟨z, y, rx, by rw [show u = .str y from r1], hy, hz, fun p hp => V F (.ref p) (.adr p) _ _ (Le.refl F) rfl (S.new (o := .lst _) hp ⟨_, rfl, RepL.of_strs _⟩) (q p)⟩
theorem mtd_partition {z y : Str} (hy : (y.length == 0) = false) (hz : z.length ≤ sizeLine) (q : kd (.tup [.str (Txt.partition z y).1, .str (Txt.partition z y).2.1, .str (Txt.partition z y).2.2]) ms) : MtD X "str.partition" (.str z) [.str y] ms kd := .of mt_partition fun F v vs H Q rx rv S V => by
  obtain ⟨u, rfl, r1⟩ := rv.inv1
  exact ⟨z, y, rx, by rw [show u = .str y from r1], hy, hz, fun p hp => V _ (.ref p) (.tup [.str _, .str _, .str _]) ms _ (Le.new (S.free hp)) ⟨p, _, rfl, SqT.of upd_same, _, _, rfl, rfl, _, _, rfl, rfl, _, _, rfl, rfl, rfl⟩ (S.newF hp) q⟩
theorem mtd_join {z : Str} {d : D} {ys : List Str} (h : LsOf ms d (ys.map D.str)) (hl : (ys.map (·.length)).sum + ys.length * z.length ≤ 16777216) (q : kd (.str (Txt.join z ys)) ms) : MtD X "str.join" (.str z) [d] ms kd := .of mt_join fun F v vs H Q rx rv S V => by
  obtain ⟨u, rfl, r1⟩ := rv.inv1
  obtain ⟨p, us, rfl, h1, h2⟩ := h.at r1 S
  rw [h2.strs] at h1
  exact ⟨z, p, ys, rx, rfl, .inl (SqL.of h1), hl, V.val (d := .str _) S rfl q⟩

/-! ### f-strings -/
def DJ (X : Cx) (xw : DX) : List Expr → DEnv → MS → Str → (Str → MS → Prop) → Prop
  | [], _, ms, acc, k => k acc ms
  | e :: es, ds, ms, acc, k => DE X xw e ds ms fun x ms1 => ∃ y : Str, x = .str y ∧ (acc ++ y).length ≤ sizeLine ∧ DJ X xw es ds ms1 (acc ++ y) k
theorem dj_nil {ds : DEnv} {ms : MS} {acc : Str} {k : Str → MS → Prop} (q : k acc ms) : DJ X xw [] ds ms acc k := q
theorem dj_cons {es : List Expr} {ds : DEnv} {ms : MS} {acc : Str} {k : Str → MS → Prop} (h : DE X xw e ds ms fun x ms1 => ∃ y : Str, x = .str y ∧ (acc ++ y).length ≤ sizeLine ∧ DJ X xw es ds ms1 (acc ++ y) k) : DJ X xw (e :: es) ds ms acc k := h
theorem pj_w : ∀ es : List Expr, PJ X es (es.map (wE X))
  | [] => .nil
  | _ :: es => .cons pe_w (pj_w es)
theorem DJ.run : ∀ {es : List Expr} {ms : MS} {acc : Str} {k : Str → MS → Prop} {F : Hp} {σ : L2.St} {H : Hp} {W : WX} {Q : Str → Hp → Prop}, DJ X xw es ds ms acc k → At X xw F ds σ ms H W →
    (∀ F' out ms' H', Le F F' → Sep X.K F' ms' H' → k out ms' → Q out H') → tJs (es.map (wE X)) acc σ H Q
  | [], ms, acc, k, F, σ, H, W, Q, h, A, V => V F acc ms H (Le.refl F) A.sep h
  | e :: es, ms, acc, k, F, σ, H, W, Q, h, A, V => h F σ H _ W A fun F1 x d ms1 H1 e1 r1 S1 ⟨y, ey, hl, q⟩ => by
    subst ey
    exact ⟨y, r1, hl, DJ.run q (A.mv e1 S1) fun F2 out ms2 H2 e2 S2 q2 => V F2 out ms2 H2 (e1.trans e2) S2 q2⟩
theorem de_joined {v1 v2 : Expr} {rest : List Expr} (h : DJ X xw (v1 :: v2 :: rest) ds ms Str.empty fun out ms1 => kd (.str out) ms1) : DE X xw (.JoinedStr (v1 :: v2 :: rest) pos) ds ms kd :=
  .of (pe_joined (pj_w _)) fun F σ H Q W A V => h.run A fun F1 out ms1 H1 e1 S1 q => V F1 (.str out) (.str out) ms1 H1 e1 rfl S1 q
theorem de_fmtI (h : DE X xw e ds ms fun x ms1 => (∃ i : Int, x = .int i ∧ i.natAbs.log2 < 1920 ∧ kd (.str (toString i)) ms1) ∨ ∃ y : Str, x = .str y ∧ y.length ≤ sizeLine ∧ kd (.str y) ms1) : DE X xw (.FormattedValue e (-1) none pos) ds ms kd :=
  .of (pe_fmt pe_w) fun F σ H Q W A V => h F σ H _ W A fun F1 x d ms1 H1 e1 r1 S1 q => by
    rcases q with ⟨i, rfl, hi, q⟩ | ⟨y, rfl, hy, q⟩
    · exact .inr ⟨i, r1, hi, V F1 (.str _) (.str _) ms1 H1 e1 rfl S1 q⟩
    · exact .inl ⟨y, r1, hy, V F1 (.str _) (.str _) ms1 H1 e1 rfl S1 q⟩
end
theorem atI_nat {α : Type} {xs : List α} {i : Nat} {x : α} (h : xs[i]? = some x) : atI xs (i : Int) = some x := by
  have hi : i < xs.length := (List.getElem?_eq_some_iff.mp h).1
  unfold atI ixN
  rw [if_pos (Int.natCast_nonneg i), if_pos (by omega)]
  exact h
theorem atI_0 {α : Type} {x : α} {xs : List α} : atI (x :: xs) 0 = some x := atI_nat (i := 0) rfl
theorem atI_int {α : Type} {xs : List α} {i : Int} {x : α} (h0 : 0 ≤ i) (h : xs[i.toNat]? = some x) : atI xs i = some x := by
  have := atI_nat h
  rwa [Int.toNat_of_nonneg h0] at this
theorem ixd_strI {X : Cx} {a b : Expr} {ms : MS} {kd : DK} {z : Str} {j : Int} (hz : z.length ≤ sizeLine) (h0 : 0 ≤ j) (h1 : j < z.length) (hs : PlainIx b) (q : ∀ c, z.cps.toList[j.toNat]? = some c → kd (.str ⟨#[c]⟩) ms) : IxD X a b (.str z) (.int j) ms kd := by
  have hl : j.toNat < z.cps.toList.length := by
    rw [Array.length_toList]
    have : (j.toNat : Int) < z.length := by rw [Int.toNat_of_nonneg h0]; exact h1
    exact Int.ofNat_lt.mp this
  exact ixd_str (c := z.cps.toList[j.toNat]) hz (atI_int h0 (List.getElem?_eq_getElem hl)) hs (q _ (List.getElem?_eq_getElem hl))
theorem ixN_pos {n : Nat} {j : Int} (h0 : 0 ≤ j) (h1 : j < n) : ixN n j = some j.toNat := by
  unfold ixN
  rw [if_pos h0, if_pos (by omega)]
end DL

/-! DL3: targets, statements, loops, comprehensions, calls of defs. -/
namespace DL
open PySem PySem.Spec PyProof.Rows L2

/-! ### targets -/
def Agree (sl : List Nat) (σ σ' : L2.St) : Prop := σ'.length = σ.length ∧ ∀ j, j ∉ sl → σ'[j]? = σ[j]?
theorem Agree.refl {σ : L2.St} : Agree [] σ σ := ⟨rfl, fun _ _ => rfl⟩
def wG (X : Cx) (tg : Expr) : TG := fun v σ H Q => ∀ pins s u, Inv X pins σ H s → RelV v u → wpAny (model X.prog X.w) X.A (assign tg X.env u) (fun _ s' => ∃ σ' H', Inv X pins σ' H' s' ∧ Q σ' H') X.xe s
theorem pg_w {X : Cx} {tg : Expr} : PG X tg (wG X tg) := ⟨fun pins s σ H v u Q I r h => h pins s u I r⟩
def wGs (X : Cx) (ts : List Expr) : TGs := fun vs σ H Q => ∀ pins s us, Inv X pins σ H s → Vals vs us → wpAny (model X.prog X.w) X.A (assignInOrder ((assignEach ts X.env).map (·.2)) us) (fun _ s' => ∃ σ' H', Inv X pins σ' H' s' ∧ Q σ' H') X.xe s
theorem pgs_w {X : Cx} {ts : List Expr} : PGs X ts (wGs X ts) := ⟨fun pins s σ H v u Q I r h => h pins s u I r⟩
/-- the slots sl are set, nothing else -/
def VG (K : PySem.W.Frag) (F : Hp) (sl : List Nat) (σ : L2.St) (ke : DEnv → MS → Prop) (Q : L2.St → Hp → Prop) : Prop := ∀ F' ds' σ' ms' H', Le F F' → Agree sl σ σ' → SR K F' ds' σ' → Sep K F' ms' H' → ke ds' ms' → Q σ' H'
def DG (X : Cx) (xw : DX) (sl : List Nat) (tg : Expr) (d : D) (ds : DEnv) (ms : MS) (ke : DEnv → MS → Prop) : Prop := ∀ F σ H v Q W, At X xw F ds σ ms H W → Rep X.K F d v → VG X.K F sl σ ke Q → wG X tg v σ H Q
def DGs (X : Cx) (xw : DX) (sl : List Nat) (ts : List Expr) (xs : List D) (ds : DEnv) (ms : MS) (ke : DEnv → MS → Prop) : Prop := ∀ F σ H vs Q W, At X xw F ds σ ms H W → RepL X.K F xs vs → VG X.K F sl σ ke Q → wGs X ts vs σ H Q
section
variable {X : Cx} {xw : DX} {N : List Str} {k : Nat} {ds : DEnv} {ms : MS} {ke : DEnv → MS → Prop} {e a b c o : Expr} {es : List Expr} {pos p pos' apos cpos : Pos} {d : D} {sl sl' : List Nat}
theorem DG.of {tg : Expr} {t : TG} (h : PG X tg t) (q : ∀ F σ H v Q W, At X xw F ds σ ms H W → Rep X.K F d v → VG X.K F sl σ ke Q → t v σ H Q) : DG X xw sl tg d ds ms ke :=
  fun F σ H v Q W A r V pins s u I ru => h.run pins s σ H v u Q I ru (q F σ H v Q W A r V)
theorem dg_name (C : Ctx X N k) {x : Str} {i : Nat} {ds' : DEnv} (hi : Ix N x i) (hp : Put ds i (some d) ds') (q : ke ds' ms) (hx : Loc X.env.scope x) (hf : X.fn x = true ∨ X.env.scope.names.lookup x = some .local) : DG X xw [i] (.Name x pos) d ds ms ke :=
  .of (pg_name C.ndX (C.ix hi) hx hf) fun F σ H v Q W A r V => V F _ _ ms H (Le.refl F) ⟨List.length_set .., fun j hj => List.getElem?_set_ne (fun z => hj (by rw [z]; exact List.mem_cons_self))⟩ (by rw [hp.eq]; exact A.sr.set i r) A.sep q
theorem dgs_nil (q : ke ds ms) : DGs X xw [] [] [] ds ms ke := fun F σ H vs Q W A r V pins s us I ru => pgs_nil.run pins s σ H vs us Q I ru ⟨r, V F ds σ ms H (Le.refl F) .refl A.sr A.sep q⟩
theorem dgs_cons {ts : List Expr} {tg : Expr} {xs : List D} (h : DG X xw sl tg d ds ms fun ds1 ms1 => DGs X xw sl' ts xs ds1 ms1 ke)
    (hs : (assignEach (tg :: ts) X.env).map (·.2) = assign tg X.env :: (assignEach ts X.env).map (·.2)) : DGs X xw (sl ++ sl') (tg :: ts) (d :: xs) ds ms ke := fun F σ H vs Q W A r V pins s us I ru => by
  obtain ⟨v, r', e, h1, h2⟩ := r
  subst e
  refine (pgs_cons pg_w pgs_w hs).run pins s σ H _ us Q I ru ⟨v, r', rfl, h F σ H v _ W A h1 fun F1 ds1 σ1 ms1 H1 e1 a1 sr1 S1 k1 => ?_⟩
  refine k1 F1 σ1 H1 r' Q W (A.mvE e1 sr1 S1) (h2.mono e1) fun F2 ds2 σ2 ms2 H2 e2 a2 sr2 S2 k2 => V F2 ds2 σ2 ms2 H2 (e1.trans e2) ⟨a2.1.trans a1.1, fun j hj => ?_⟩ sr2 S2 k2
  rw [a2.2 j fun z => hj (List.mem_append_right _ z), a1.2 j fun z => hj (List.mem_append_left _ z)]
theorem dg_tup (C : Ctx X N k) {kt : Nat} {n : Nat} {xs : List D} (h : DGs X xw sl es xs ds ms ke) (hl : xs.length = n) (hn : (assignEach es X.env).length = n) (hst : (assignEach es X.env).findIdx? (·.1) = none) : DG X xw sl (.Tuple es kt pos) (.tup xs) ds ms ke :=
  .of (pg_tup C.calm pgs_w hn hst) fun F σ H v Q W A r V => by
    obtain ⟨a, vs, rfl, h1, h2⟩ := r
    exact ⟨a, vs, rfl, A.sep.sqT h1, by rw [h2.length, hl], h F σ H vs Q W A h2 V⟩
/-! stores by values -/
def wSt (X : Cx) : V → V → V → Hp → (Hp → Prop) → Prop := fun o i v H Q => ∀ pins s σ ov iv u, Inv X pins σ H s → RelV o ov → RelV i iv → RelV v u → wpAny (model X.prog X.w) X.A (setItem ov iv u) (fun _ s' => ∃ H', Inv X pins σ H' s' ∧ Q H') X.xe s
theorem pset_w : PSet X (wSt X) := fun pins s σ H o i v ov iv u Q I r1 r2 r3 h => h pins s σ ov iv u I r1 r2 r3
def StD (X : Cx) (o i v : D) (ms : MS) (km : MS → Prop) : Prop := ∀ F vo vi vv H Q, Rep X.K F o vo → Rep X.K F i vi → Rep X.K F v vv → Sep X.K F ms H → (∀ F' ms' H', Le F F' → Sep X.K F' ms' H' → km ms' → Q H') → wSt X vo vi vv H Q
theorem dg_sub (h : DE X xw o ds ms fun x ms1 => DE X xw c ds ms1 fun y ms2 => StD X x y d ms2 fun ms3 => ke ds ms3)
    (ha : ∀ v, assign (.Subscript o c pos) X.env v = (do
      let ov ← holding [v] (eval o X.env)
      let iv ← holding [v, ov] (eval c X.env)
      standAt pos
      holding [v, ov, iv] (setItem ov iv v)
      release [v, ov, iv] [])) : DG X xw [] (.Subscript o c pos) d ds ms ke :=
  .of (pg_sub pe_w pe_w pset_w ha) fun F σ H v Q W A r V => h F σ H _ W A fun F1 x d1 ms1 H1 e1 r1 S1 k1 => k1 F1 σ H1 _ W (A.mv e1 S1) fun F2 y d2 ms2 H2 e2 r2 S2 k2 =>
    k2 F2 x y v H2 _ (r1.mono e2) r2 (r.mono (e1.trans e2)) S2 fun F3 ms3 H3 e3 S3 q => V F3 ds σ ms3 H3 ((e1.trans e2).trans e3) .refl (A.sr.mono ((e1.trans e2).trans e3)) S3 q
theorem std_list {p : Addr} {i : Nat} {j : Int} {n : Nat} {xs : List D} {v : D} {ms' : MS} {km : MS → Prop} (hm : Ms ms i p (.lst xs)) (hj : ixN xs.length j = some n) (hp : MPut ms i (.lst (xs.set n v)) ms') (q : km ms') : StD X (.adr p) (.int j) v ms km := fun F vo vi vv H Q r1 r2 r3 S V pins s σ ov iv u I q1 q2 q3 => by
  obtain ⟨_, w, h1, us, rfl, h2⟩ := S.get hm.at
  obtain ⟨a, o, h3, rfl⟩ := hp.eq
  rw [hm.at] at h3
  cases h3
  exact set_list pins s σ H vo vi vv ov iv u Q I q1 q2 q3 ⟨p, us, j, n, r1, r2, h1, by rw [h2.length]; exact hj, V F _ _ (Le.refl F) (S.set (o' := .lst _) hm.at ⟨us.set n vv, rfl, h2.set n r3⟩) q⟩
/-- a dict with k put -/
def putD (kvs : List (Key × D)) (k : Key) (v : D) : List (Key × D) := if (kvs.any fun kv => decide (kv.1 = k)) = true then kvs.map (fun kv => if kv.1 = k then (kv.1, v) else kv) else kvs ++ [(k, v)]
theorem RepK.length {K : PySem.W.Frag} {F : Hp} : ∀ {ds : List (Key × D)} {vs : List (Key × V)}, RepK K F ds vs → vs.length = ds.length
  | [], _, h => by cases h; rfl
  | (_, _) :: _, _, ⟨v, r, h1, _, h3⟩ => by cases h1; rw [List.length_cons, List.length_cons, RepK.length h3]
theorem RepK.any {K : PySem.W.Frag} {F : Hp} (k : Key) : ∀ {ds : List (Key × D)} {vs : List (Key × V)}, RepK K F ds vs → (vs.any fun kv => decide (kv.1 = k)) = (ds.any fun kv => decide (kv.1 = k))
  | [], _, h => by cases h; rfl
  | (_, _) :: _, _, ⟨v, r, h1, _, h3⟩ => by cases h1; rw [List.any_cons, List.any_cons, RepK.any k h3]
theorem RepK.repl {K : PySem.W.Frag} {F : Hp} (k : Key) {d : D} {v : V} (g : Rep K F d v) : ∀ {ds : List (Key × D)} {vs : List (Key × V)}, RepK K F ds vs → RepK K F (ds.map fun kv => if kv.1 = k then (kv.1, d) else kv) (vs.map fun kv => if kv.1 = k then (kv.1, v) else kv)
  | [], _, h => by cases h; rfl
  | (k', _) :: _, _, ⟨w, r, h1, h2, h3⟩ => by
    cases h1
    rw [List.map_cons, List.map_cons]
    by_cases hk : k' = k
    · rw [if_pos hk, if_pos hk]; exact ⟨_, _, rfl, g, RepK.repl k g h3⟩
    · rw [if_neg hk, if_neg hk]; exact ⟨_, _, rfl, h2, RepK.repl k g h3⟩
theorem RepK.snoc {K : PySem.W.Frag} {F : Hp} (k : Key) {d : D} {v : V} (g : Rep K F d v) : ∀ {ds : List (Key × D)} {vs : List (Key × V)}, RepK K F ds vs → RepK K F (ds ++ [(k, d)]) (vs ++ [(k, v)])
  | [], _, h => by cases h; exact ⟨_, _, rfl, g, rfl⟩
  | (k', _) :: _, _, ⟨w, r, h1, h2, h3⟩ => by cases h1; exact ⟨_, _, rfl, h2, RepK.snoc k g h3⟩
theorem RepK.put {K : PySem.W.Frag} {F : Hp} (k : Key) {d : D} {v : V} (g : Rep K F d v) {ds : List (Key × D)} {vs : List (Key × V)} (h : RepK K F ds vs) : RepK K F (putD ds k d) (putK vs k v) := by
  unfold putD putK
  have e := h.any k
  rw [e]
  split
  · exact h.repl k g
  · exact h.snoc k g
theorem std_dic (C : Ctx X N k) {p : Addr} {i : Nat} {ky : Key} {kvs : List (Key × D)} {v y : D} {ms' : MS} {km : MS → Prop} (hm : Ms ms i p (.dic kvs)) (hy : y = keyD ky) (hl : kvs.length < sizeLine) (hp : MPut ms i (.dic (putD kvs ky v)) ms') (q : km ms') : StD X (.adr p) y v ms km := fun F vo vi vv H Q r1 r2 r3 S V pins s σ ov iv u I q1 q2 q3 => by
  obtain ⟨_, w, h1, us, rfl, h2⟩ := S.get hm.at
  obtain ⟨a, o, h3, rfl⟩ := hp.eq
  rw [hm.at] at h3
  cases h3
  subst hy
  have e := key_rep r2
  subst e
  obtain rfl : vo = .ref p := r1
  obtain rfl : ov = .ref p := q1
  exact d_setItem C.hu I (DPut.k (v := vv) h1 (by rw [h2.length]; exact hl)) q2 q3 fun s' I' => ⟨_, I', V F _ _ (Le.refl F) (S.set (o' := .dic _) hm.at ⟨putK us ky vv, rfl, h2.put ky r3⟩) q⟩

/-! ### statements -/
variable {E : DEnds} {st : Stmt} {rest body orelse : List Stmt}
theorem DS.of {t : TS} (h : PS X st t) (q : ∀ F σ H D W, At X xw F ds σ ms H W → EC X.K F E D → t D σ H) : DS X xw st ds ms E := fun F σ H D W A V pins s I => h.run pins s σ H D I (q F σ H D W A V)
theorem dss_nil (q : E.nx ds ms) : DSs X xw [] ds ms E := fun F σ H D W A V pins s I => pss_nil.run pins s σ H D I (V.nx F ds σ ms H (Le.refl F) A.sr A.sep q)
theorem dss_cons (h : DS X xw st ds ms { E with nx := fun ds1 ms1 => DSs X xw rest ds1 ms1 E }) : DSs X xw (st :: rest) ds ms E := fun F σ H D W A V pins s I =>
  (pss_cons ps_w pss_w).run pins s σ H D I (h F σ H { D with nx := wSs X rest D } W A ⟨fun F1 ds1 σ1 ms1 H1 e1 sr1 S1 k1 => k1 F1 σ1 H1 D W (A.mvE e1 sr1 S1) (V.mono e1), V.rt, V.bk, V.ct⟩)
/-- a statement, what holds behind it, the rest -/
theorem dss_cut (I : DEnv → MS → Prop) (h : DS X xw st ds ms { E with nx := I }) (r : ∀ ds' ms', I ds' ms' → DSs X xw rest ds' ms' E) : DSs X xw (st :: rest) ds ms E := dss_cons fun F σ H D W A V =>
  h F σ H D W A ⟨fun F1 ds1 σ1 ms1 H1 e1 sr1 S1 k1 => V.nx F1 ds1 σ1 ms1 H1 e1 sr1 S1 (r ds1 ms1 k1), V.rt, V.bk, V.ct⟩
theorem ds_asg {tg : Expr} (h : DE X xw e ds ms fun d ms1 => DG X xw sl tg d ds ms1 E.nx) (hs : swapsWithSole [tg] e pos.line X.env = pure false) (hw : swappedStores [tg] e X.env = pure none)
    (h1 : (assignEach [tg] X.env).map (·.2) = [assign tg X.env]) : DS X xw (.Assign [tg] e pos) ds ms E :=
  .of (ps_asg pe_w pg_w hs hw h1) fun F σ H D W A V => h F σ H _ W A fun F1 x d ms1 H1 e1 r1 S1 k1 => k1 F1 σ H1 x D.nx W (A.mv e1 S1) r1 fun F2 ds2 σ2 ms2 H2 e2 a2 sr2 S2 k2 => V.nx F2 ds2 σ2 ms2 H2 (e1.trans e2) sr2 S2 k2
theorem ds_set (C : Ctx X N k) {x : Str} {i : Nat} (hi : Ix N x i) (h : DE X xw e ds ms fun d ms1 => ∃ ds', Put ds i (some d) ds' ∧ E.nx ds' ms1) (hx : Loc X.env.scope x) (hs : swapsWith e (some (.Name x pos')) pos.line X.env = pure false)
    (hf : X.fn x = true ∨ X.env.scope.names.lookup x = some .local) : DS X xw (.Assign [.Name x pos'] e pos) ds ms E :=
  .of (ps_set C.ndX (C.ix hi) hx pe_w hs hf) fun F σ H D W A V => h F σ H _ W A fun F1 v d ms1 H1 e1 r1 S1 ⟨ds', hp, q⟩ => V.nx F1 ds' _ ms1 H1 e1 (by rw [hp.eq]; exact (A.sr.mono e1).set i r1) S1 q
theorem ds_par (C : Ctx X N k) {x y : Str} {i j : Nat} {px py pt : Pos} {kt k2 pt2} (hi : Ix N x i) (hj : Ix N y j) (h : DA X xw [a, b] ds ms fun vs ms1 => ∃ v w ds' ds'', vs = [v, w] ∧ Put ds i (some v) ds' ∧ Put ds' j (some w) ds'' ∧ E.nx ds'' ms1) (hij : i ≠ j)
    (hx : X.env.scope.names.lookup x = some .local) (hy : X.env.scope.names.lookup y = some .local)
    (hw : swappedStores [.Tuple [.Name x px, .Name y py] kt pt] (.Tuple [a, b] k2 pt2) X.env = pure (some [x, y]))
    (hs : swapsWithSole [.Tuple [.Name x px, .Name y py] kt pt] (.Tuple [a, b] k2 pt2) pos.line X.env = pure false) :
    DS X xw (.Assign [.Tuple [.Name x px, .Name y py] kt pt] (.Tuple [a, b] k2 pt2) pos) ds ms E :=
  .of (ps_par C.calm C.ndX (C.ix hi) (C.ix hj) hij hx hy pa_w hw hs) fun F σ H D W A V => h F σ H _ W A fun F1 vs d ms1 H1 e1 r1 S1 q => by
    obtain ⟨v, w, ds', ds'', e, p1, p2, q⟩ := q
    subst e
    obtain ⟨v', w', rfl, g1, g2⟩ := r1.inv2
    exact ⟨v', w', rfl, V.nx F1 ds'' _ ms1 H1 e1 (by rw [p2.eq, p1.eq]; exact ((A.sr.mono e1).set i g1).set j g2) S1 q⟩
theorem ex_par {v w : D} {ds ds1 ds2 : DEnv} {i j : Nat} {Q : DEnv → Prop} (h1 : Put ds i (some v) ds1) (h2 : Put ds1 j (some w) ds2) (q : Q ds2) : ∃ v' w' ds' ds'', [v, w] = [v', w'] ∧ Put ds i (some v') ds' ∧ Put ds' j (some w') ds'' ∧ Q ds'' := ⟨v, w, ds1, ds2, rfl, h1, h2, q⟩
theorem ds_aug (C : Ctx X N k) {x : Str} {i : Nat} {d0 : D} {op : Operator} (hi : Nm N ds x i d0) (h : DE X xw e ds ms fun d ms1 => OpD X (inplaceOp op) d0 d ms1 fun z ms2 => ∃ ds', Put ds i (some z) ds' ∧ E.nx ds' ms2) (hx : Loc X.env.scope x)
    (hf : X.fn x = true ∨ X.env.scope.names.lookup x = some .local) : DS X xw (.AugAssign (.Name x pos') op e pos) ds ms E :=
  .of (ps_aug (ti := wOp X (inplaceOp op)) C.ndX (by rw [C.names]; exact hi.at.1) hx pe_w opr_w hf) fun F σ H D W A V => by
    obtain ⟨v, h1, h2⟩ := A.sr.at_ i d0 hi.at.2
    exact ⟨v, h1, h F σ H _ W A fun F1 u d ms1 H1 e1 r1 S1 k1 => k1 F1 v u H1 _ (h2.mono e1) r1 S1 fun F2 z dz ms2 H2 e2 r2 S2 ⟨ds', hp, q⟩ => V.nx F2 ds' _ ms2 H2 (e1.trans e2) (by rw [hp.eq]; exact (A.sr.mono (e1.trans e2)).set i r2) S2 q⟩
theorem opd_iadd {i j : Int} {kd : DK} (q : kd (.int (i + j)) ms) : OpD X (inplaceOp .Add) (.int i) (.int j) ms kd := .of iop_add fun F v u H Q rv ru S V => ⟨i, j, rv, ru, V.val (d := .int _) S rfl q⟩
theorem opd_isub {i j : Int} {kd : DK} (q : kd (.int (i - j)) ms) : OpD X (inplaceOp .Sub) (.int i) (.int j) ms kd := .of iop_sub fun F v u H Q rv ru S V => ⟨i, j, rv, ru, V.val (d := .int _) S rfl q⟩
theorem opd_imul {i j : Int} {kd : DK} (hc : CMul i j) (q : kd (.int (i * j)) ms) : OpD X (inplaceOp .Mult) (.int i) (.int j) ms kd := .of iop_mul fun F v u H Q rv ru S V => ⟨i, j, rv, ru, hc, V.val (d := .int _) S rfl q⟩
theorem ds_expr (h : DE X xw e ds ms fun _ ms1 => E.nx ds ms1) (hs : swapsWith e none pos.line X.env = pure false) : DS X xw (.Expr e pos) ds ms E :=
  .of (ps_expr pe_w hs) fun F σ H D W A V => h F σ H _ W A fun F1 v d ms1 H1 e1 r1 S1 q => V.nx F1 ds σ ms1 H1 e1 (A.sr.mono e1) S1 q
theorem ds_ret (h : DE X xw e ds ms E.rt) : DS X xw (.Return (some e) pos) ds ms E := .of (ps_ret pe_w) fun F σ H D W A V => h F σ H _ W A V.rt
theorem ds_retN (h : E.rt .non ms) : DS X xw (.Return none pos) ds ms E := .of ps_retN fun F σ H D W A V => V.rt F .non .non ms H (Le.refl F) rfl A.sep h
theorem ds_break (h : E.bk ds ms) : DS X xw (.Break pos) ds ms E := .of ps_break fun F σ H D W A V => V.bk F ds σ ms H (Le.refl F) A.sr A.sep h
theorem ds_cont (h : E.ct ds ms) : DS X xw (.Continue pos) ds ms E := .of ps_continue fun F σ H D W A V => V.ct F ds σ ms H (Le.refl F) A.sr A.sep h
theorem ds_pass (h : E.nx ds ms) : DS X xw (.Pass pos) ds ms E := .of ps_pass fun F σ H D W A V => V.nx F ds σ ms H (Le.refl F) A.sr A.sep h
theorem ds_if {t : Expr} (h : DT X xw t ds ms fun b ms1 => (b = true → DSs X xw body ds ms1 E) ∧ (b = false → DSs X xw orelse ds ms1 E)) : DS X xw (.If t body orelse pos) ds ms E :=
  .of (ps_if pt_w pss_w pss_w) fun F σ H D W A V => h F σ H _ W A fun F1 b ms1 H1 e1 S1 ⟨q1, q0⟩ => by
    cases b with
    | true => exact q1 rfl F1 σ H1 D W (A.mv e1 S1) (V.mono e1)
    | false => exact q0 rfl F1 σ H1 D W (A.mv e1 S1) (V.mono e1)

theorem len_ok {n : Nat} (h : n ≤ 100000) : n ≤ sizeLine := Nat.le_trans h (by decide)
theorem len_lt {n : Nat} (h : n < 100000) : n < sizeLine := Nat.lt_of_lt_of_le h (by decide)
/-! ### what is walked -/
def wI (X : Cx) (tg iter : Expr) : TI := fun σ H R => ∀ pins s, Inv X pins σ H s → wpAny (model X.prog X.w) X.A (eval iter X.env) (fun v s1 => wpAny (model X.prog X.w) X.A (pyIter v) (PIE X pins σ tg R) X.xe s1) X.xe s
theorem pi_w {tg iter : Expr} : PI X tg iter (wI X tg iter) := ⟨fun pins s σ H R I h => h pins s I⟩
def ItOk (K : PySem.W.Frag) (F : Hp) (J : It) (xs : List D) (keep : MS → Prop) : Prop := ∀ F' ms' H', Le F F' → Sep K F' ms' H' → keep ms' → J.stop xs.length H' ∧ ∀ i x, xs[i]? = some x → J.go i H' ∧ ∀ v H2, J.yld i H' v H2 → ∃ F2, Le F' F2 ∧ Sep K F2 ms' H2 ∧ Rep K F2 x v
def DIt (X : Cx) (xw : DX) (tg iter : Expr) (ds : DEnv) (ms : MS) (KK : List D → (MS → Prop) → MS → Prop) : Prop := ∀ F σ H R W, At X xw F ds σ ms H W →
  (∀ F' xs keep ms' H' J, Le F F' → Sep X.K F' ms' H' → ItOk X.K F' J xs keep → KK xs keep ms' → R J H') → wI X tg iter σ H R
variable {tg iter : Expr} {KK : List D → (MS → Prop) → MS → Prop}
theorem DIt.of {wi : TI} (h : PI X tg iter wi) (q : ∀ F σ H R W, At X xw F ds σ ms H W → (∀ F' xs keep ms' H' J, Le F F' → Sep X.K F' ms' H' → ItOk X.K F' J xs keep → KK xs keep ms' → R J H') → wi σ H R) : DIt X xw tg iter ds ms KK :=
  fun F σ H R W A V pins s I => h.run pins s σ H R I (q F σ H R W A V)
theorem dit_ls (h : DE X xw iter ds ms fun d ms1 => ∃ xs, LsOf ms1 d xs ∧ KK xs (fun ms' => LsOf ms' d xs) ms1) : DIt X xw tg iter ds ms KK :=
  .of (pi_list pe_w) fun F σ H R W A V => h F σ H _ W A fun F1 v d ms1 H1 e1 r1 S1 ⟨xs, hl, q⟩ => by
    obtain ⟨p, vs, rfl, h1, h2⟩ := hl.at r1 S1
    refine ⟨p, rfl, ⟨vs, SqL.of h1⟩, V F1 xs _ ms1 H1 (Itl X.K p) e1 S1 (fun F' ms' H' e' S' hk => ?_) q⟩
    obtain ⟨p', us, z, g1, g2⟩ := hk.at (r1.mono e') S'
    cases z
    refine ⟨⟨us, SqL.of g1, by rw [g2.length]; exact Nat.le_refl _⟩, fun i x hx => ?_⟩
    obtain ⟨w, w1, w2⟩ := g2.get hx
    exact ⟨⟨us, w, SqL.of g1, w1⟩, fun v H2 ⟨hH, y⟩ => ⟨F', Le.refl F', by rw [hH]; exact S', by have e := (y us (SqL.of g1)).symm.trans w1; cases e; exact w2⟩⟩
theorem dit_tup (h : DE X xw iter ds ms fun d ms1 => ∃ xs, d = .tup xs ∧ KK xs (fun _ => True) ms1) : DIt X xw tg iter ds ms KK :=
  .of (pi_tup pe_w) fun F σ H R W A V => h F σ H _ W A fun F1 v d ms1 H1 e1 r1 S1 ⟨xs, ed, q⟩ => by
    subst ed
    obtain ⟨p, vs, rfl, h1, h2⟩ := r1
    refine ⟨p, rfl, ⟨vs, S1.sqT h1⟩, V F1 xs _ ms1 H1 (Itt X.K p) e1 S1 (fun F' ms' H' e' S' hk => ?_) q⟩
    have g1 := S'.sqT (e'.sqT h1)
    refine ⟨⟨vs, g1, by rw [h2.length]; exact Nat.le_refl _⟩, fun i x hx => ?_⟩
    obtain ⟨w, w1, w2⟩ := h2.get hx
    exact ⟨⟨vs, w, g1, w1⟩, fun v H2 ⟨hH, y⟩ => ⟨F', Le.refl F', by rw [hH]; exact S', by have e := (y vs g1).symm.trans w1; cases e; exact w2.mono e'⟩⟩
/-- 0, 1, .. -/
def rangeD (lo : Int) (n : Nat) : List D := (List.range n).map fun (i : Nat) => D.int (lo + (i : Int))
theorem rangeD_get {lo : Int} {n i : Nat} {x : D} (h : (rangeD lo n)[i]? = some x) : i < n ∧ x = .int (lo + (i : Int)) := by
  unfold rangeD at h
  rw [List.getElem?_map] at h
  by_cases hi : i < n
  · rw [List.getElem?_range hi] at h
    cases h
    exact ⟨hi, rfl⟩
  · rw [List.getElem?_eq_none (by rw [List.length_range]; omega)] at h
    cases h
theorem rangeD_len (lo : Int) (n : Nat) : (rangeD lo n).length = n := by unfold rangeD; rw [List.length_map, List.length_range]
theorem itr_ok {K : PySem.W.Frag} {F : Hp} {lo : Int} {n : Nat} : ItOk K F (Itr lo n) (rangeD lo n) fun _ => True := fun F' ms' H' e' S' hk => by
  refine ⟨by rw [rangeD_len]; exact Nat.le_refl _, fun i x hx => ?_⟩
  obtain ⟨hi, rfl⟩ := rangeD_get hx
  exact ⟨hi, fun v H2 ⟨hH, y⟩ => ⟨F', Le.refl F', by rw [hH]; exact S', y⟩⟩
theorem dit_range1 (hm : X.mg "range" = none) (h : DE X xw a ds ms fun d ms1 => ∃ n : Int, d = .int n ∧ -(2 ^ 62) ≤ n ∧ n < 2 ^ 62 ∧ KK (rangeD 0 n.toNat) (fun _ => True) ms1) (hg : Gl X "range")
    (hs : starEach [a] X.env = [(false, eval a X.env)]) (hs1 : starEach [a] X.env = (false, eval a X.env) :: starEach [] X.env) : DIt X xw tg (.Call (.Name "range" p) [a] [] pos) ds ms KK :=
  .of (pi_range1 hg hm pa_w hs) fun F σ H R W A V => (da_cons (kd := fun vs ms1 => ∃ d, vs = [d] ∧ ∃ n : Int, d = .int n ∧ -(2 ^ 62) ≤ n ∧ n < 2 ^ 62 ∧ KK (rangeD 0 n.toNat) (fun _ => True) ms1) (h.imp fun d ms1 q => da_nil ⟨d, rfl, q⟩) hs1) F σ H _ W A
    fun F1 vs xs ms1 H1 e1 r1 S1 ⟨d, ev, n, ed, h1, h2, q⟩ => by
      subst ev ed
      obtain ⟨v, rfl, g⟩ := r1.inv1
      exact ⟨n, by rw [show v = .int n from g], h1, h2, V F1 _ _ ms1 H1 _ e1 S1 itr_ok q⟩
theorem dit_range2 (hm : X.mg "range" = none) (h : DE X xw a ds ms fun d ms1 => DE X xw b ds ms1 fun d' ms2 => ∃ n m : Int, d = .int n ∧ d' = .int m ∧ (-(2 ^ 62) ≤ n ∧ n < 2 ^ 62 ∧ -(2 ^ 62) ≤ m ∧ m < 2 ^ 62) ∧ KK (rangeD n (m - n).toNat) (fun _ => True) ms2) (hg : Gl X "range")
    (hs : starEach [a, b] X.env = [(false, eval a X.env), (false, eval b X.env)]) (hs2 : starEach [b] X.env = [(false, eval b X.env)])
    (hs1 : starEach [a, b] X.env = (false, eval a X.env) :: starEach [b] X.env) (hs3 : starEach [b] X.env = (false, eval b X.env) :: starEach [] X.env) : DIt X xw tg (.Call (.Name "range" p) [a, b] [] pos) ds ms KK :=
  .of (pi_range2 hg hm pa_w hs hs2) fun F σ H R W A V => (da_cons (kd := fun vs ms1 => ∃ d d', vs = [d, d'] ∧ ∃ n m : Int, d = .int n ∧ d' = .int m ∧ (-(2 ^ 62) ≤ n ∧ n < 2 ^ 62 ∧ -(2 ^ 62) ≤ m ∧ m < 2 ^ 62) ∧ KK (rangeD n (m - n).toNat) (fun _ => True) ms1)
    (h.imp fun d ms1 q => da_cons (q.imp fun d' ms2 q2 => da_nil ⟨d, d', rfl, q2⟩) hs3) hs1) F σ H _ W A
    fun F1 vs xs ms1 H1 e1 r1 S1 ⟨d, d', ev, n, m, ed, ed', hb, q⟩ => by
      subst ev ed ed'
      obtain ⟨v, u, rfl, g, g'⟩ := r1.inv2
      exact ⟨n, m, by rw [show v = .int n from g, show u = .int m from g'], hb, V F1 _ _ ms1 H1 _ e1 S1 itr_ok q⟩
def signD (z : Str) : List D := z.cps.toList.map fun c => D.str ⟨#[c]⟩
theorem dit_str (h : DE X xw iter ds ms fun d ms1 => ∃ z, d = .str z ∧ KK (signD z) (fun _ => True) ms1) : DIt X xw tg iter ds ms KK :=
  .of (pi_str pe_w) fun F σ H R W A V => h F σ H _ W A fun F1 v d ms1 H1 e1 r1 S1 ⟨z, ed, q⟩ => by
    subst ed
    refine ⟨z, r1, V F1 _ _ ms1 H1 (Its z) e1 S1 (fun F' ms' H' e' S' hk => ?_) q⟩
    refine ⟨by unfold signD; rw [List.length_map, Array.length_toList]; exact Nat.le_refl _, fun i x hx => ?_⟩
    unfold signD at hx
    rw [List.getElem?_map, Array.getElem?_toList] at hx
    cases hc : z.cps[i]? with
    | none => rw [hc] at hx; cases hx
    | some c =>
      rw [hc] at hx
      cases hx
      exact ⟨(Array.getElem?_eq_some_iff.mp hc).1, fun v H2 ⟨hH, c', y1, y2⟩ => ⟨F', Le.refl F', by rw [hH]; exact S', by rw [hc] at y1; cases y1; exact y2⟩⟩
/-- the pairs (i, x) -/
def enumD (xs : List D) : List D := (List.range xs.length).zipWith (fun (i : Nat) x => D.tup [.int (i : Int), x]) xs
theorem enumD_get {xs : List D} {i : Nat} {x : D} (h : (enumD xs)[i]? = some x) : ∃ y, xs[i]? = some y ∧ x = .tup [.int (i : Int), y] := by
  unfold enumD at h
  rw [List.getElem?_zipWith] at h
  by_cases hi : i < xs.length
  · rw [List.getElem?_range hi, List.getElem?_eq_getElem hi] at h
    cases h
    exact ⟨_, List.getElem?_eq_getElem hi, rfl⟩
  · rw [List.getElem?_eq_none (l := List.range xs.length) (by rw [List.length_range]; omega)] at h
    cases h
theorem enumD_len (xs : List D) : (enumD xs).length = xs.length := by unfold enumD; rw [List.length_zipWith, List.length_range, Nat.min_self]
theorem dit_enum {elts : List Expr} {kk : Nat} {tpos : Pos} (hm : X.mg "enumerate" = none) (h : DE X xw a ds ms fun d ms1 => ∃ xs, LsOf ms1 d xs ∧ KK (enumD xs) (fun ms' => LsOf ms' d xs) ms1) (hg : Gl X "enumerate")
    (hs : starEach [a] X.env = [(false, eval a X.env)]) (hs1 : starEach [a] X.env = (false, eval a X.env) :: starEach [] X.env) : DIt X xw (.Tuple elts kk tpos) (.Call (.Name "enumerate" p) [a] [] pos) ds ms KK :=
  .of (pi_enum hg hm pa_w hs) fun F σ H R W A V => (da_cons (kd := fun vs ms1 => ∃ d, vs = [d] ∧ ∃ xs, LsOf ms1 d xs ∧ KK (enumD xs) (fun ms' => LsOf ms' d xs) ms1) (h.imp fun d ms1 q => da_nil ⟨d, rfl, q⟩) hs1) F σ H _ W A
    fun F1 vs xs ms1 H1 e1 r1 S1 ⟨d, ev, xs, hl, q⟩ => by
      subst ev
      obtain ⟨v, rfl, g0⟩ := r1.inv1
      obtain ⟨p, vs, rfl, h1, h2⟩ := hl.at g0 S1
      refine ⟨p, vs, rfl, SqL.of h1, V F1 _ _ ms1 H1 (Ite X.K p) e1 S1 (fun F' ms' H' e' S' hk => ?_) q⟩
      obtain ⟨p', us, z, g1, g2⟩ := hk.at (g0.mono e') S'
      cases z
      refine ⟨⟨us, SqL.of g1, by rw [g2.length, enumD_len]; exact Nat.le_refl _⟩, fun i x hx => ?_⟩
      obtain ⟨y, hy, rfl⟩ := enumD_get hx
      obtain ⟨w, w1, w2⟩ := g2.get hy
      refine ⟨⟨us, w, SqL.of g1, w1⟩, fun v H2 ⟨T, x', ev, hT, eH, hx'⟩ => ?_⟩
      have e := (hx' us (SqL.of g1)).symm.trans w1
      cases e
      have l := Le.new (F := F') (o := .tup [.int (i : Nat), w]) (S'.free hT)
      exact ⟨_, l, by rw [eH]; exact S'.newF hT, T, _, ev, SqT.of upd_same, _, _, rfl, rfl, _, _, rfl, w2.mono l, rfl⟩
/-- the pairs (x, y) -/
def zipD (xs ys : List D) : List D := List.zipWith (fun x y => D.tup [x, y]) xs ys
theorem zipD_get {xs ys : List D} {i : Nat} {x : D} (h : (zipD xs ys)[i]? = some x) : ∃ y z, xs[i]? = some y ∧ ys[i]? = some z ∧ x = .tup [y, z] := by
  unfold zipD at h
  rw [List.getElem?_zipWith] at h
  cases hx : xs[i]? with
  | none => rw [hx] at h; cases h
  | some y =>
    cases hy : ys[i]? with
    | none => rw [hx, hy] at h; cases h
    | some z => rw [hx, hy] at h; cases h; exact ⟨y, z, rfl, rfl, rfl⟩
theorem dit_zip {elts : List Expr} {kk : Nat} {tpos : Pos} (hm : X.mg "zip" = none) (h : DE X xw a ds ms fun d ms1 => DE X xw b ds ms1 fun d' ms2 => ∃ xs ys, LsOf ms2 d xs ∧ LsOf ms2 d' ys ∧ KK (zipD xs ys) (fun ms' => LsOf ms' d xs ∧ LsOf ms' d' ys) ms2) (hg : Gl X "zip")
    (hs : starEach [a, b] X.env = (false, eval a X.env) :: starEach [b] X.env) (hpl : (backTo pos (starEach [b] X.env)).any (·.1) = false) (hs3 : starEach [b] X.env = (false, eval b X.env) :: starEach [] X.env) : DIt X xw (.Tuple elts kk tpos) (.Call (.Name "zip" p) [a, b] [] pos) ds ms KK :=
  .of (pi_zip hg hm pa_w hs hpl) fun F σ H R W A V => (da_cons (kd := fun vs ms1 => ∃ d d', vs = [d, d'] ∧ ∃ xs ys, LsOf ms1 d xs ∧ LsOf ms1 d' ys ∧ KK (zipD xs ys) (fun ms' => LsOf ms' d xs ∧ LsOf ms' d' ys) ms1)
    (h.imp fun d ms1 q => da_cons (q.imp fun d' ms2 q2 => da_nil ⟨d, d', rfl, q2⟩) hs3) hs) F σ H _ W A
    fun F1 vs xs ms1 H1 e1 r1 S1 ⟨d, d', ev, xs, ys, hx, hy, q⟩ => by
      subst ev
      obtain ⟨v, u, rfl, g0, r2⟩ := r1.inv2
      obtain ⟨p, vs, rfl, h1, h2⟩ := hx.at g0 S1
      obtain ⟨p2, vs2, rfl, h3, h4⟩ := hy.at r2 S1
      refine ⟨p, p2, vs, vs2, rfl, SqL.of h1, SqL.of h3, V F1 _ _ ms1 H1 (Itz X.K p p2) e1 S1 (fun F' ms' H' e' S' hk => ?_) q⟩
      obtain ⟨p', us, z, g1, g2⟩ := hk.1.at (g0.mono e') S'
      cases z
      obtain ⟨p', us2, z, g3, g4⟩ := hk.2.at (r2.mono e') S'
      cases z
      have hl : (zipD xs ys).length = min xs.length ys.length := List.length_zipWith ..
      refine ⟨⟨us, us2, SqL.of g1, SqL.of g3, by rw [g2.length, g4.length, hl]; omega⟩, fun i x hx => ?_⟩
      obtain ⟨y, z, hy, hz, rfl⟩ := zipD_get hx
      obtain ⟨w, w1, w2⟩ := g2.get hy
      obtain ⟨w', w3, w4⟩ := g4.get hz
      refine ⟨⟨us, us2, w, w', SqL.of g1, SqL.of g3, w1, w3⟩, fun v H2 ⟨T, x', y', ev, hT, eH, hx', hy'⟩ => ?_⟩
      have e := (hx' us (SqL.of g1)).symm.trans w1
      cases e
      have e := (hy' us2 (SqL.of g3)).symm.trans w3
      cases e
      have l := Le.new (F := F') (o := .tup [w, w']) (S'.free hT)
      exact ⟨_, l, by rw [eH]; exact S'.newF hT, T, _, ev, SqT.of upd_same, _, _, rfl, w2.mono l, _, _, rfl, w4.mono l, rfl⟩

/-! ### for, while -/
theorem ds_for (C : Ctx X N k) (own : PassesOwn (model X.prog X.w) X.A X.env X.xe)
    (h : DIt X xw tg iter ds ms fun xs keep ms1 => ∃ I : Nat → DEnv → MS → Prop, I 0 ds ms1 ∧ (∀ i ds' ms', i ≤ xs.length → I i ds' ms' → keep ms') ∧
      (∀ i x ds' ms', xs[i]? = some x → I i ds' ms' → DG X xw sl tg x ds' ms' fun ds2 ms2 => DSs X xw body ds2 ms2 { E with nx := fun ds3 ms3 => ∃ ms0, MLe X.K ms3 ms0 ∧ I (i + 1) ds3 ms0, ct := fun ds3 ms3 => ∃ ms0, MLe X.K ms3 ms0 ∧ I (i + 1) ds3 ms0, bk := E.nx }) ∧ ∀ ds' ms', I xs.length ds' ms' → E.nx ds' ms')
    (hs : ∀ x, foldedSetIterable iter X.env x = pure x) : DS X xw (.For tg iter body [] pos) ds ms E :=
  .of (ps_for own C.calm pi_w pg_w pss_w hs) fun F σ H D W A V => h F σ H _ W A fun F1 xs keep ms1 H1 J e1 S1 ok ⟨I, i0, ik, is, ie⟩ => by
    refine ⟨fun i m σ' H' => ∃ F' ds' ms', Le F1 F' ∧ SR X.K F' ds' σ' ∧ Sep X.K F' ms' H' ∧ I i ds' ms' ∧ i + m = xs.length, ⟨xs.length, F1, ds, ms1, Le.refl F1, A.sr.mono e1, S1, i0, by omega⟩, fun i m σ' H' ⟨F2, ds2, ms2, e2, sr2, S2, i2, hm⟩ => ?_⟩
    obtain ⟨stop, go⟩ := ok F2 ms2 H' e2 S2 (ik i ds2 ms2 (by omega) i2)
    by_cases hi : i < xs.length
    · obtain ⟨g, y⟩ := go i _ (List.getElem?_eq_getElem hi)
      refine .inr ⟨g, fun σ' H' => ∃ F' ds' ms', Le F1 F' ∧ SR X.K F' ds' σ' ∧ Sep X.K F' ms' H' ∧ I (i + 1) ds' ms', fun σ3 H3 ⟨F3, ds3, ms3, e3, sr3, S3, i3⟩ => ⟨m - 1, by omega, F3, ds3, ms3, e3, sr3, S3, i3, by omega⟩, fun v H2 hy => ?_⟩
      obtain ⟨F3, e3, S3, r3⟩ := y v H2 hy
      have A3 : At X xw F3 ds2 σ' ms2 H2 W := ⟨sr2.mono e3, S3, A.tk, A.xc.mono ((e1.trans e2).trans e3)⟩
      refine is i _ ds2 ms2 (List.getElem?_eq_getElem hi) i2 F3 σ' H2 v _ W A3 r3 fun F4 ds4 σ4 ms4 H4 e4 a4 sr4 S4 k4 => ?_
      have l4 := (e2.trans e3).trans e4
      exact k4 F4 σ4 H4 _ W (A3.mvE e4 sr4 S4) ⟨fun F5 ds5 σ5 ms5 H5 e5 sr5 S5 ⟨ms0, m0, i5⟩ => ⟨F5, ds5, ms0, l4.trans e5, sr5, m0 _ _ S5, i5⟩, V.rt.mono (e1.trans l4), V.nx.mono (e1.trans l4), fun F5 ds5 σ5 ms5 H5 e5 sr5 S5 ⟨ms0, m0, i5⟩ => ⟨F5, ds5, ms0, l4.trans e5, sr5, m0 _ _ S5, i5⟩⟩
    · have e : i = xs.length := by omega
      subst e
      exact .inl ⟨stop, V.nx F2 ds2 σ' ms2 H' (e1.trans e2) sr2 S2 (ie ds2 ms2 i2)⟩
theorem ds_while (own : PassesOwn (model X.prog X.w) X.A X.env X.xe) {t : Expr} (I : Nat → DEnv → MS → Prop) (m0 : Nat) (i0 : I m0 ds ms)
    (h : ∀ m ds' ms', I m ds' ms' → DT X xw t ds' ms' fun b ms2 => (b = true → DSs X xw body ds' ms2 { E with nx := fun ds3 ms3 => ∃ m', m' < m ∧ I m' ds3 ms3, ct := fun ds3 ms3 => ∃ m', m' < m ∧ I m' ds3 ms3, bk := E.nx }) ∧ (b = false → E.nx ds' ms2)) :
    DS X xw (.While t body [] pos) ds ms E :=
  .of (ps_while own pt_w pss_w) fun F σ H D W A V => by
    refine ⟨fun m σ' H' => ∃ F' ds' ms', Le F F' ∧ SR X.K F' ds' σ' ∧ Sep X.K F' ms' H' ∧ I m ds' ms', ⟨m0, F, ds, ms, Le.refl F, A.sr, A.sep, i0⟩, fun m σ' H' ⟨F2, ds2, ms2, e2, sr2, S2, i2⟩ => ?_⟩
    refine h m ds2 ms2 i2 F2 σ' H' _ W (A.mvE e2 sr2 S2) fun F3 b ms3 H3 e3 S3 ⟨q1, q0⟩ => ?_
    cases b with
    | true =>
      rw [if_pos rfl]
      have l3 := e2.trans e3
      refine ⟨fun σ' H' => ∃ m', m' < m ∧ ∃ F' ds' ms', Le F F' ∧ SR X.K F' ds' σ' ∧ Sep X.K F' ms' H' ∧ I m' ds' ms', fun σ' H' q => q, ?_⟩
      exact q1 rfl F3 σ' H3 _ W (A.mvE l3 (sr2.mono e3) S3) ⟨fun F5 ds5 σ5 ms5 H5 e5 sr5 S5 ⟨m', hm, i5⟩ => ⟨m', hm, F5, ds5, ms5, l3.trans e5, sr5, S5, i5⟩, V.rt.mono l3, V.nx.mono l3, fun F5 ds5 σ5 ms5 H5 e5 sr5 S5 ⟨m', hm, i5⟩ => ⟨m', hm, F5, ds5, ms5, l3.trans e5, sr5, S5, i5⟩⟩
    | false =>
      rw [if_neg Bool.false_ne_true]
      exact V.nx F3 ds2 σ' ms3 H3 (e2.trans e3) (sr2.mono e3) S3 (q0 rfl)

/-! ### list comprehensions -/
def wipeD (ds : DEnv) : List Nat → DEnv
  | [] => ds
  | v :: vs => (wipeD ds vs).set v none
theorem SR.wipe {K : PySem.W.Frag} {F : Hp} {ds : DEnv} {σ : L2.St} (h : SR K F ds σ) : ∀ vs : List Nat, SR K F (wipeD ds vs) (wipe σ vs)
  | [] => h
  | v :: vs => (SR.wipe h vs).setN v none
theorem wipe_get {σ : L2.St} : ∀ {vs : List Nat} {j : Nat}, j ∉ vs → (wipe σ vs)[j]? = σ[j]?
  | [], _, _ => rfl
  | v :: vs, j, h => by
    show ((wipe σ vs).set v none)[j]? = _
    rw [List.getElem?_set_ne (fun z => h (by rw [z]; exact List.mem_cons_self)), wipe_get fun z => h (List.mem_cons_of_mem _ z)]
theorem wipe_in {σ : L2.St} : ∀ {vs : List Nat} {j : Nat}, j ∈ vs → j < σ.length → (wipe σ vs)[j]? = some none
  | v :: vs, j, h, hl => by
    show ((wipe σ vs).set v none)[j]? = _
    by_cases e : v = j
    · subst e
      rw [List.getElem?_set_self (by rw [wipe_length]; exact hl)]
    · rw [List.getElem?_set_ne e]
      rcases List.mem_cons.mp h with z | z
      · exact absurd z.symm e
      · exact wipe_in z hl
theorem wipe_agree {σ σ' : L2.St} {sl vs : List Nat} (h : Agree sl (wipe σ vs) σ') (hs : ∀ j ∈ sl, j ∈ vs) : wipe σ' vs = wipe σ vs := by
  apply List.ext_getElem?
  intro j
  have hl : σ'.length = σ.length := by rw [h.1, wipe_length]
  by_cases hj : j ∈ vs
  · by_cases hlt : j < σ.length
    · rw [wipe_in hj hlt, wipe_in hj (by rw [hl]; exact hlt)]
    · rw [List.getElem?_eq_none (by rw [wipe_length]; omega), List.getElem?_eq_none (by rw [wipe_length]; omega)]
  · rw [wipe_get hj, h.2 j fun z => hj (hs j z)]
/-- the clause's tests -/
def DTs (X : Cx) (xw : DX) : List Expr → DEnv → MS → (Bool → MS → Prop) → Prop
  | [], _, ms, kb => kb true ms
  | [c], ds, ms, kb => DT X xw c ds ms kb
  | _, _, _, _ => False
/-- a context of the block -/
abbrev Blk (X : Cx) (scope : Scope) := ∀ (s : Shared) (H : Hp) (C : Addr) (cl : List (Str × Addr)) (fp : List Addr), Prop
def xNo : DX := fun _ _ _ _ => False
theorem tNo {X : Cx} : Takes X fun _ _ _ _ => False := takes0
theorem xcNo {K : PySem.W.Frag} {F : Hp} {W : WX} : XC K F xNo W := fun _ _ _ _ _ _ _ _ _ _ _ _ _ _ z => z.elim
def wTs (X : Cx) (ifs : List Expr) : TT := fun σ H Q => ∀ pins s, Inv X pins σ H s →
    wpAny (model X.prog X.w) X.A (forIn ifs true fun c r => if r = true then do let ok ← isTrue c X.env (eval c X.env); pure (ForInStep.yield ok) else pure (ForInStep.yield r)) (TP X pins σ Q) X.xe s
theorem DTs.run {ifs : List Expr} {kb : Bool → MS → Prop} (h : DTs X xw ifs ds ms kb) {F : Hp} {σ : L2.St} {H : Hp} {Q : Bool → Hp → Prop} {W : WX} (A : At X xw F ds σ ms H W) (V : VCb X.K F kb Q) : wTs X ifs σ H Q := by
  match ifs, h with
  | [], h => exact fun pins s I => pts_nil.run pins s σ H Q I (V F true ms H (Le.refl F) A.sep h)
  | [c], h => exact fun pins s I => (pts_one pt_w).run pins s σ H Q I (h F σ H Q W A V)
  | _ :: _ :: _, h => exact h.elim
theorem Ctx.blk (C : Ctx X N k) (s : Shared) (H : Hp) (scope : Scope) (cenv : Env) (fp : List Addr) : Ctx (X.blk s H scope cenv fp) N k := ⟨C.names, C.nd, C.calm, C.room⟩
/-- the turns of a comprehension: I by the turn, what is made so far, the store -/
def LcT (X : Cx) (scope : Scope) (own : List (Str × Nat)) (tg elt : Expr) (ifs : List Expr) (ds : DEnv) (xs : List D) (keep : MS → Prop) (ms : MS) (fin : List D → MS → Prop) : Prop :=
  ∃ (sl : List Nat) (I : Nat → List D → MS → Prop), (∀ j ∈ sl, j ∈ own.map (·.2)) ∧ I 0 [] ms ∧ (∀ i acc ms' (L : Addr), i ≤ xs.length → I i acc ms' → keep ((L, .lst acc) :: ms')) ∧
    (∀ i x acc ms' (L : Addr), xs[i]? = some x → I i acc ms' → ∀ (s : Shared) (H : Hp) (C : Addr) (cl : List (Str × Addr)) (fp : List Addr),
      DG (X.blk s H scope (compEnvC scope cl C X.env) fp) xNo sl tg x (wipeD ds (own.map (·.2))) ((L, .lst acc) :: ms') fun ds2 ms2 => ∀ (s : Shared) (H : Hp) (C : Addr) (cl : List (Str × Addr)) (fp : List Addr),
        DTs (X.blk s H scope (compEnvC scope cl C X.env) fp) xNo ifs ds2 ms2 fun b ms3 =>
        (b = true → ∀ (s : Shared) (H : Hp) (C : Addr) (cl : List (Str × Addr)) (fp : List Addr), DE (X.blk s H scope (compEnvC scope cl C X.env) fp) xNo elt ds2 ms3 fun d ms4 => acc.length < sizeLine ∧ ∃ ms5, ms4 = (L, .lst acc) :: ms5 ∧ I (i + 1) (acc ++ [d]) ms5) ∧
        (b = false → ∃ ms5, ms3 = (L, .lst acc) :: ms5 ∧ I (i + 1) acc ms5)) ∧
    ∀ acc ms', I xs.length acc ms' → fin acc ms'
/-- the readings of a block's parts -/
abbrev bG (X : Cx) (scope : Scope) (tg : Expr) : TG := fun v σ H Q => ∀ (s : Shared) (H0 : Hp) (C : Addr) (cl : List (Str × Addr)) (fp : List Addr), wG (X.blk s H0 scope (compEnvC scope cl C X.env) fp) tg v σ H Q
abbrev bT (X : Cx) (scope : Scope) (ifs : List Expr) : TT := fun σ H Q => ∀ (s : Shared) (H0 : Hp) (C : Addr) (cl : List (Str × Addr)) (fp : List Addr), wTs (X.blk s H0 scope (compEnvC scope cl C X.env) fp) ifs σ H Q
abbrev bE (X : Cx) (scope : Scope) (elt : Expr) : TE := fun σ H Q => ∀ (s : Shared) (H0 : Hp) (C : Addr) (cl : List (Str × Addr)) (fp : List Addr), wE (X.blk s H0 scope (compEnvC scope cl C X.env) fp) elt σ H Q
theorem bg_ok {scope : Scope} {tg : Expr} (s : Shared) (H : Hp) (C : Addr) (cl : List (Str × Addr)) (fp : List Addr) : PG (X.blk s H scope (compEnvC scope cl C X.env) fp) tg (bG X scope tg) := ⟨fun pins s' σ H' v u Q I r h => h s H C cl fp pins s' u I r⟩
theorem bt_ok {scope : Scope} {ifs : List Expr} (s : Shared) (H : Hp) (C : Addr) (cl : List (Str × Addr)) (fp : List Addr) : PTs (X.blk s H scope (compEnvC scope cl C X.env) fp) ifs (bT X scope ifs) := ⟨fun pins s' σ H' Q I h => h s H C cl fp pins s' I⟩
theorem be_ok {scope : Scope} {elt : Expr} (s : Shared) (H : Hp) (C : Addr) (cl : List (Str × Addr)) (fp : List Addr) : PE (X.blk s H scope (compEnvC scope cl C X.env) fp) elt (bE X scope elt) := ⟨fun pins s' σ H' Q I h => h s H C cl fp pins s' I⟩
theorem lc_read {scope : Scope} {own : List (Str × Nat)} {elt : Expr} {ifs : List Expr} {F : Hp} {σ : L2.St} {H : Hp} {Q : VK} {W : WX} (A : At X xw F ds σ ms H W) {fin : List D → MS → Prop}
    (h : DIt X xw tg iter ds ms fun xs keep ms1 => LcT X scope own tg elt ifs ds xs keep ms1 fin) (V : ∀ F' acc vs L ms' H', Le F F' → RepL X.K F' acc vs → Sep X.K F' ((L, .lst acc) :: ms') H' → H' L = some (.lst vs) → fin acc ms' → Q (.ref L) H') :
    tLc (wI X tg iter) (bG X scope tg) (bT X scope ifs) (bE X scope elt) (own.map (·.2)) σ H Q := by
  refine h F σ H _ W A fun F1 xs keep ms1 H1 J e1 S1 ok ⟨sl, I, hsl, i0, ik, is, ie⟩ L hL => ?_
  refine ⟨fun i m H' => ∃ F' acc ms', Le F1 F' ∧ Sep X.K F' ((L, .lst acc) :: ms') H' ∧ I i acc ms' ∧ i + m = xs.length, ⟨xs.length, F1, [], ms1, Le.refl F1, S1.new (o := .lst []) hL ⟨[], rfl, rfl⟩, i0, by omega⟩, fun i m H' ⟨F2, acc, ms2, e2, S2, i2, hm⟩ => ?_⟩
  obtain ⟨stop, go⟩ := ok F2 _ H' e2 S2 (ik i acc ms2 L (by omega) i2)
  by_cases hi : i < xs.length
  · obtain ⟨g, y⟩ := go i _ (List.getElem?_eq_getElem hi)
    refine .inr ⟨g, fun H' => ∃ F' acc ms', Le F1 F' ∧ Sep X.K F' ((L, .lst acc) :: ms') H' ∧ I (i + 1) acc ms', fun H3 ⟨F3, acc3, ms3, e3, S3, i3⟩ => ⟨m - 1, by omega, F3, acc3, ms3, e3, S3, i3, by omega⟩, fun v H2 hy => ?_⟩
    obtain ⟨F3, e3, S3, r3⟩ := y v H2 hy
    have l3 := (e1.trans e2).trans e3
    have srw := (A.sr.mono l3).wipe (own.map (·.2))
    intro s H0 Cc cl fp
    have AB : ∀ (s : Shared) (H0 : Hp) (Cc : Addr) (cl : List (Str × Addr)) (fp : List Addr) {F' : Hp} {ds' : DEnv} {σ' : L2.St} {ms' : MS} {H' : Hp}, SR X.K F' ds' σ' → Sep X.K F' ms' H' →
        At (X.blk s H0 scope (compEnvC scope cl Cc X.env) fp) xNo F' ds' σ' ms' H' (fun _ _ _ _ => False) := fun s H0 Cc cl fp F' ds' σ' ms' H' r S => ⟨r, S, tNo, xcNo⟩
    refine is i _ acc ms2 L (List.getElem?_eq_getElem hi) i2 s H0 Cc cl fp F3 _ H2 v _ _ (AB s H0 Cc cl fp srw S3) r3 fun F4 ds4 σ4 ms4 H4 e4 a4 sr4 S4 k4 => ⟨wipe_agree a4 hsl, ?_⟩
    intro s H0 Cc cl fp
    refine (k4 s H0 Cc cl fp).run (AB s H0 Cc cl fp sr4 S4) fun F5 b ms5 H5 e5 S5 ⟨q1, q0⟩ => ?_
    cases b with
    | true =>
      rw [if_pos rfl]
      intro s H0 Cc cl fp
      refine q1 rfl s H0 Cc cl fp F5 σ4 H5 _ _ (AB s H0 Cc cl fp (sr4.mono e5) S5) fun F6 d vd ms6 H6 e6 r6 S6 ⟨hz, ms7, em, i7⟩ => ?_
      subst em
      obtain ⟨_, u, hu, us, eu, hr⟩ := S6.get (i := 0) (p := L) (o := .lst acc) rfl
      subst eu
      refine ⟨us, hu, by rw [hr.length]; exact hz, F6, _, ms7, (((e2.trans e3).trans e4).trans e5).trans e6, S6.set (i := 0) (p := L) (o := .lst acc) (o' := .lst (acc ++ [vd])) rfl ⟨_, rfl, hr.append (RepL.one r6)⟩, i7⟩
    | false =>
      rw [if_neg Bool.false_ne_true]
      obtain ⟨ms7, em, i7⟩ := q0 rfl
      subst em
      exact ⟨F5, acc, ms7, ((e2.trans e3).trans e4).trans e5, S5, i7⟩
  · have e : i = xs.length := by omega
    subst e
    obtain ⟨h0, u, hu, vs, rfl, hr⟩ := S2.get (i := 0) rfl
    exact .inl ⟨stop, V F2 acc vs L ms2 H' (e1.trans e2) hr S2 hu (ie acc ms2 i2)⟩
variable {kd : DK}
/-- [..] that stays as it is made -/
theorem de_lc (C : Ctx X N k) {scope sc : Scope} (own : List (Str × Nat)) {elt : Expr} {ifs : List Expr} (hsc : X.env.scope = sc) (hb : blkC N sc scope own = true)
    (h : DIt X xw tg iter ds ms fun xs keep ms1 => LcT X scope own tg elt ifs ds xs keep ms1 fun acc ms2 => kd (.lst acc) ms2) (hs : ∀ x, foldedSetIterable iter X.env x = pure x) : DE X xw (.ListComp elt [⟨tg, iter, ifs, 0⟩] scope pos) ds ms kd :=
  .of (pe_lc C.calm C.ndX pi_w (blkOk_by (by rw [C.names, hsc]; exact hb)) bg_ok bt_ok be_ok hs) fun F σ H Q W A V => lc_read A h fun F' acc vs L ms' H' e r S hL q => by
    obtain ⟨u, l, S2, r2⟩ := S.freeze (i := 0) rfl
    obtain ⟨vs', rfl, r3⟩ := r2
    exact V _ (.ref L) (.lst acc) ms' H' (e.trans l) ⟨L, vs', rfl, upd_same, r3.mono l⟩ S2 q
/-- .. that may change -/
theorem de_lcM (C : Ctx X N k) {scope sc : Scope} (own : List (Str × Nat)) {elt : Expr} {ifs : List Expr} (hsc : X.env.scope = sc) (hb : blkC N sc scope own = true)
    (h : DIt X xw tg iter ds ms fun xs keep ms1 => LcT X scope own tg elt ifs ds xs keep ms1 fun acc ms2 => ∀ L, kd (.adr L) ((L, .lst acc) :: ms2)) (hs : ∀ x, foldedSetIterable iter X.env x = pure x) : DE X xw (.ListComp elt [⟨tg, iter, ifs, 0⟩] scope pos) ds ms kd :=
  .of (pe_lc C.calm C.ndX pi_w (blkOk_by (by rw [C.names, hsc]; exact hb)) bg_ok bt_ok be_ok hs) fun F σ H Q W A V => lc_read A h fun F' acc vs L ms' H' e r S hL q =>
    V F' (.ref L) (.adr L) _ H' e rfl S (q L)
/-- y = [..] -/
theorem ds_setLc (C : Ctx X N k) {scope sc : Scope} (own : List (Str × Nat)) {y : Str} {py spos : Pos} {i : Nat} {elt : Expr} {ifs : List Expr} (hi : Ix N y i) (hyl : X.env.scope.names.lookup y = some .local) (hsc : X.env.scope = sc) (hb : blkC N sc scope own = true)
    (h : DIt X xw tg iter ds ms fun xs keep ms1 => LcT X scope own tg elt ifs ds xs keep ms1 fun acc ms2 => ∃ ds', Put ds i (some (.lst acc)) ds' ∧ E.nx ds' ms2)
    (hsw : swapsWith (.ListComp elt [⟨tg, iter, ifs, 0⟩] scope pos) (some (.Name y py)) spos.line X.env = pure true) (hs : ∀ x, foldedSetIterable iter X.env x = pure x) : DS X xw (.Assign [.Name y py] (.ListComp elt [⟨tg, iter, ifs, 0⟩] scope pos) spos) ds ms E :=
  .of (ps_setLc C.calm C.ndX (C.ix hi) hyl hsw pi_w (blkOk_by (by rw [C.names, hsc]; exact hb)) bg_ok bt_ok be_ok hs) fun F σ H D W A V => lc_read A h fun F' acc vs L ms' H' e r S hL ⟨ds', hp, q⟩ => by
    obtain ⟨u, l, S2, r2⟩ := S.freeze (i := 0) rfl
    obtain ⟨vs', rfl, r3⟩ := r2
    exact V.nx _ ds' _ ms' H' (e.trans l) (by rw [hp.eq]; exact (A.sr.mono (e.trans l)).set i (d := .lst acc) ⟨L, vs', rfl, upd_same, r3.mono l⟩) S2 q
theorem ds_setLcM (C : Ctx X N k) {scope sc : Scope} (own : List (Str × Nat)) {y : Str} {py spos : Pos} {i : Nat} {elt : Expr} {ifs : List Expr} (hi : Ix N y i) (hyl : X.env.scope.names.lookup y = some .local) (hsc : X.env.scope = sc) (hb : blkC N sc scope own = true)
    (h : DIt X xw tg iter ds ms fun xs keep ms1 => LcT X scope own tg elt ifs ds xs keep ms1 fun acc ms2 => ∀ L, ∃ ds', Put ds i (some (.adr L)) ds' ∧ E.nx ds' ((L, .lst acc) :: ms2))
    (hsw : swapsWith (.ListComp elt [⟨tg, iter, ifs, 0⟩] scope pos) (some (.Name y py)) spos.line X.env = pure true) (hs : ∀ x, foldedSetIterable iter X.env x = pure x) : DS X xw (.Assign [.Name y py] (.ListComp elt [⟨tg, iter, ifs, 0⟩] scope pos) spos) ds ms E :=
  .of (ps_setLc C.calm C.ndX (C.ix hi) hyl hsw pi_w (blkOk_by (by rw [C.names, hsc]; exact hb)) bg_ok bt_ok be_ok hs) fun F σ H D W A V => lc_read A h fun F' acc vs L ms' H' e r S hL q => by
    obtain ⟨ds', hp, q⟩ := q L
    exact V.nx _ ds' _ _ H' e (by rw [hp.eq]; exact (A.sr.mono e).set i (d := .adr L) rfl) S q

/-! comprehensions of one item an item -/
theorem lct_map {scope : Scope} {own : List (Str × Nat)} {elt : Expr} {xs : List D} {keep : MS → Prop} {fin : List D → MS → Prop} (g : Nat → D → D) (hsl : ∀ j ∈ sl, j ∈ own.map (·.2)) (hl : xs.length ≤ 100000) (hk : ∀ acc (L : Addr), keep ((L, .lst acc) :: ms))
    (ht : ∀ (i : Nat) (x : D) (acc : List D) (L : Addr), xs[i]? = some x → ∀ (s : Shared) (H : Hp) (C : Addr) (cl : List (Str × Addr)) (fp : List Addr), DG (X.blk s H scope (compEnvC scope cl C X.env) fp) xNo sl tg x (wipeD ds (own.map (·.2))) ((L, .lst acc) :: ms) fun ds2 ms2 => ms2 = (L, .lst acc) :: ms ∧
      ∀ (s : Shared) (H : Hp) (C : Addr) (cl : List (Str × Addr)) (fp : List Addr), DE (X.blk s H scope (compEnvC scope cl C X.env) fp) xNo elt ds2 ((L, .lst acc) :: ms) fun d ms4 => d = g i x ∧ ms4 = (L, .lst acc) :: ms)
    (hf : fin (xs.zipIdx.map fun p => g p.2 p.1) ms) : LcT X scope own tg elt [] ds xs keep ms fin := by
  refine ⟨sl, fun i acc ms' => acc = ((xs.take i).zipIdx.map fun p => g p.2 p.1) ∧ ms' = ms, hsl, ⟨by simp, rfl⟩, fun i acc ms' L hi ⟨_, e⟩ => by rw [e]; exact hk acc L, fun i x acc ms' L hx ⟨ea, em⟩ s H C cl fp => ?_, fun acc ms' ⟨ea, em⟩ => by rw [ea, em, List.take_length]; exact hf⟩
  subst em
  intro F σ H2 v Q W A r V
  refine ht i x acc L hx s H C cl fp F σ H2 v Q W A r fun F' ds' σ' ms2 H' e a sr S ⟨em, q⟩ => V F' ds' σ' ms2 H' e a sr S fun s H C cl fp => ?_
  show _ ∧ _
  subst em
  refine ⟨fun _ s H C cl fp => (q s H C cl fp).imp fun d ms4 ⟨ed, e4⟩ => ⟨?_, ms', e4, ?_, rfl⟩, fun h => absurd h (by decide)⟩
  · rw [ea, List.length_map, List.length_zipIdx, List.length_take]
    exact Nat.lt_of_lt_of_le (Nat.lt_of_le_of_lt (Nat.min_le_right _ _) (Nat.lt_succ_of_le hl)) (by decide)
  · rw [ea, List.take_add_one, hx, ed]
    show _ = List.map _ ((xs.take i ++ [x]).zipIdx)
    rw [List.zipIdx_append, List.map_append]
    have hi : i < xs.length := (List.getElem?_eq_some_iff.mp hx).1
    rw [List.length_take, Nat.min_eq_left (Nat.le_of_lt hi), Nat.zero_add]
    rfl
theorem lct_map1 {scope : Scope} {own : List (Str × Nat)} {elt : Expr} {xs : List D} {keep : MS → Prop} {fin : List D → MS → Prop} (g : D → D) (hsl : ∀ j ∈ sl, j ∈ own.map (·.2)) (hl : xs.length ≤ 100000) (hk : ∀ acc (L : Addr), keep ((L, .lst acc) :: ms))
    (ht : ∀ (i : Nat) (x : D) (acc : List D) (L : Addr), xs[i]? = some x → ∀ (s : Shared) (H : Hp) (C : Addr) (cl : List (Str × Addr)) (fp : List Addr), DG (X.blk s H scope (compEnvC scope cl C X.env) fp) xNo sl tg x (wipeD ds (own.map (·.2))) ((L, .lst acc) :: ms) fun ds2 ms2 => ms2 = (L, .lst acc) :: ms ∧
      ∀ (s : Shared) (H : Hp) (C : Addr) (cl : List (Str × Addr)) (fp : List Addr), DE (X.blk s H scope (compEnvC scope cl C X.env) fp) xNo elt ds2 ((L, .lst acc) :: ms) fun d ms4 => d = g x ∧ ms4 = (L, .lst acc) :: ms)
    (hf : fin (xs.map g) ms) : LcT X scope own tg elt [] ds xs keep ms fin := by
  refine lct_map (fun _ => g) hsl hl hk ht ?_
  have e : (xs.zipIdx.map fun p => g p.1) = xs.map g := by
    rw [show (fun p : D × Nat => g p.1) = g ∘ Prod.fst from rfl, ← List.map_map, List.zipIdx_map_fst]
  rw [e]
  exact hf
/-- with a test -/
theorem lct_filter {scope : Scope} {own : List (Str × Nat)} {elt : Expr} {tst : Expr} {xs : List D} {keep : MS → Prop} {fin : List D → MS → Prop} (p : D → Bool) (g : D → D) (hsl : ∀ j ∈ sl, j ∈ own.map (·.2)) (hl : xs.length ≤ 100000) (hk : ∀ acc (L : Addr), keep ((L, .lst acc) :: ms))
    (ht : ∀ (i : Nat) (x : D) (acc : List D) (L : Addr), xs[i]? = some x → ∀ (s : Shared) (H : Hp) (C : Addr) (cl : List (Str × Addr)) (fp : List Addr), DG (X.blk s H scope (compEnvC scope cl C X.env) fp) xNo sl tg x (wipeD ds (own.map (·.2))) ((L, .lst acc) :: ms) fun ds2 ms2 => ms2 = (L, .lst acc) :: ms ∧
      ∀ (s : Shared) (H : Hp) (C : Addr) (cl : List (Str × Addr)) (fp : List Addr), DT (X.blk s H scope (compEnvC scope cl C X.env) fp) xNo tst ds2 ((L, .lst acc) :: ms) fun b ms3 => b = p x ∧ ms3 = (L, .lst acc) :: ms ∧ (p x = true →
      ∀ (s : Shared) (H : Hp) (C : Addr) (cl : List (Str × Addr)) (fp : List Addr), DE (X.blk s H scope (compEnvC scope cl C X.env) fp) xNo elt ds2 ((L, .lst acc) :: ms) fun d ms4 => d = g x ∧ ms4 = (L, .lst acc) :: ms))
    (hf : fin ((xs.filter p).map g) ms) : LcT X scope own tg elt [tst] ds xs keep ms fin := by
  refine ⟨sl, fun i acc ms' => acc = ((xs.take i).filter p).map g ∧ ms' = ms, hsl, ⟨by simp, rfl⟩, fun i acc ms' L hi ⟨_, e⟩ => by rw [e]; exact hk acc L, fun i x acc ms' L hx ⟨ea, em⟩ s H C cl fp => ?_, fun acc ms' ⟨ea, em⟩ => by rw [ea, em, List.take_length]; exact hf⟩
  subst em
  intro F σ H2 v Q W A r V
  refine ht i x acc L hx s H C cl fp F σ H2 v Q W A r fun F' ds' σ' ms2 H' e a sr S ⟨em, q⟩ => V F' ds' σ' ms2 H' e a sr S fun s H C cl fp => ?_
  subst em
  have hlen : acc.length < sizeLine := by
    rw [ea, List.length_map]
    refine Nat.lt_of_le_of_lt (List.length_filter_le _ _) ?_
    rw [List.length_take]
    exact Nat.lt_of_lt_of_le (Nat.lt_of_le_of_lt (Nat.min_le_right _ _) (Nat.lt_succ_of_le hl)) (by decide)
  have et : (xs.take (i + 1)).filter p = (xs.take i).filter p ++ if p x = true then [x] else [] := by
    rw [List.take_add_one, hx]
    show List.filter p (xs.take i ++ [x]) = _
    rw [List.filter_append]
    congr 1
    by_cases hp : p x = true
    · rw [if_pos hp, List.filter_cons, if_pos hp]; rfl
    · rw [if_neg hp, List.filter_cons, if_neg hp]; rfl
  show DT _ _ _ _ _ _
  intro F2 σ2 H3 Q2 W2 A2 V2
  refine q s H C cl fp F2 σ2 H3 Q2 W2 A2 fun F' b ms3 H' e S ⟨eb, e3, q2⟩ => V2 F' b ms3 H' e S ⟨fun hb s H C cl fp => ?_, fun hb => ?_⟩
  · subst e3
    rw [eb] at hb
    refine (q2 hb s H C cl fp).imp fun d ms4 ⟨ed, e4⟩ => ⟨hlen, ms', e4, ?_, rfl⟩
    rw [et, if_pos hb, List.map_append, ea, ed]
    rfl
  · rw [eb] at hb
    refine ⟨ms', e3, ?_, rfl⟩
    rw [et, hb, ea]
    simp

/-- over the signs of a text -/
theorem lct_str {scope : Scope} {own : List (Str × Nat)} {elt : Expr} {z : Str} {keep : MS → Prop} {fin : List D → MS → Prop} (g : Nat → D) (hsl : ∀ j ∈ sl, j ∈ own.map (·.2)) (hl : z.length ≤ 100000) (hk : ∀ acc (L : Addr), keep ((L, .lst acc) :: ms))
    (ht : ∀ (c : Nat) (acc : List D) (L : Addr), c ∈ z.cps.toList → ∀ (s : Shared) (H : Hp) (C : Addr) (cl : List (Str × Addr)) (fp : List Addr), DG (X.blk s H scope (compEnvC scope cl C X.env) fp) xNo sl tg (.str ⟨#[c]⟩) (wipeD ds (own.map (·.2))) ((L, .lst acc) :: ms) fun ds2 ms2 => ms2 = (L, .lst acc) :: ms ∧
      ∀ (s : Shared) (H : Hp) (C : Addr) (cl : List (Str × Addr)) (fp : List Addr), DE (X.blk s H scope (compEnvC scope cl C X.env) fp) xNo elt ds2 ((L, .lst acc) :: ms) fun d ms4 => d = g c ∧ ms4 = (L, .lst acc) :: ms)
    (hf : fin (z.cps.toList.map g) ms) : LcT X scope own tg elt [] ds (signD z) keep ms fin := by
  refine lct_map1 (fun d => match d with | .str y => g (y.cps.toList.headD 0) | _ => .non) hsl (by unfold signD; rw [List.length_map]; simpa [Str.length] using hl) hk (fun i x acc L hx s H C cl fp => ?_) ?_
  · unfold signD at hx
    rw [List.getElem?_map] at hx
    cases hc : z.cps.toList[i]? with
    | none => rw [hc] at hx; cases hx
    | some c =>
      rw [hc] at hx
      cases hx
      exact ht c acc L (List.mem_of_getElem? hc) s H C cl fp
  · unfold signD
    rw [List.map_map]
    exact hf
theorem lct_strF {scope : Scope} {own : List (Str × Nat)} {elt tst : Expr} {z : Str} {keep : MS → Prop} {fin : List D → MS → Prop} (p : Nat → Bool) (hsl : ∀ j ∈ sl, j ∈ own.map (·.2)) (hl : z.length ≤ 100000) (hk : ∀ acc (L : Addr), keep ((L, .lst acc) :: ms))
    (ht : ∀ (c : Nat) (acc : List D) (L : Addr), c ∈ z.cps.toList → ∀ (s : Shared) (H : Hp) (C : Addr) (cl : List (Str × Addr)) (fp : List Addr), DG (X.blk s H scope (compEnvC scope cl C X.env) fp) xNo sl tg (.str ⟨#[c]⟩) (wipeD ds (own.map (·.2))) ((L, .lst acc) :: ms) fun ds2 ms2 => ms2 = (L, .lst acc) :: ms ∧
      ∀ (s : Shared) (H : Hp) (C : Addr) (cl : List (Str × Addr)) (fp : List Addr), DT (X.blk s H scope (compEnvC scope cl C X.env) fp) xNo tst ds2 ((L, .lst acc) :: ms) fun b ms3 => b = p c ∧ ms3 = (L, .lst acc) :: ms ∧ (p c = true →
      ∀ (s : Shared) (H : Hp) (C : Addr) (cl : List (Str × Addr)) (fp : List Addr), DE (X.blk s H scope (compEnvC scope cl C X.env) fp) xNo elt ds2 ((L, .lst acc) :: ms) fun d ms4 => d = .str ⟨#[c]⟩ ∧ ms4 = (L, .lst acc) :: ms))
    (hf : fin ((z.cps.toList.filter p).map fun c => D.str ⟨#[c]⟩) ms) : LcT X scope own tg elt [tst] ds (signD z) keep ms fin := by
  refine lct_filter (fun d => match d with | .str y => p (y.cps.toList.headD 0) | _ => false) (fun d => d) hsl (by unfold signD; rw [List.length_map]; simpa [Str.length] using hl) hk (fun i x acc L hx s H C cl fp => ?_) ?_
  · unfold signD at hx
    rw [List.getElem?_map] at hx
    cases hc : z.cps.toList[i]? with
    | none => rw [hc] at hx; cases hx
    | some c =>
      rw [hc] at hx
      cases hx
      exact ht c acc L (List.mem_of_getElem? hc) s H C cl fp
  · unfold signD
    rw [List.filter_map, List.map_map]
    exact hf

/-! ### defs -/
/-- a def's promise on data: the arguments, the store, what is wanted of its value, of an exception -/
abbrev DSp := List D → MS → DK → (Addr → D → MS → Prop) → Prop
def XCf (K : PySem.W.Frag) (F : Hp) (xk : Addr → D → MS → Prop) (E : XK) : Prop := ∀ F' C dx dv v ms' H', Le F F' → Rep K F' dv v → Sep K F' ms' H' → F' dx = some (.xd [("value", v)]) → xk C dv ms' → E (.ref C) (some dx) H'
def toSp (K : PySem.W.Frag) (S : DSp) : Sp := fun vs H Q E => ∃ F ds ms kd xk, RepL K F ds vs ∧ Sep K F ms H ∧ S ds ms kd xk ∧ VC K F kd Q ∧ XCf K F xk E
structure DefAt (P : Program) (w : World) (K : PySem.W.Frag) (mg : Str → Option Value) (base : Heap) (k : Nat) (x : Str) (f : Addr) (fd : FuncData) (ps : List Str) (S : DSp) : Prop where
  fn : FnOk P w K mg base (L2.CX P w) k f fd ps (toSp K S)
  gl : mg x = some (.ref f)
  kp : PySem.W.keepIn K (.ref f) = true
  bn : Binds K fd ps []
theorem DefAt.mono {P : Program} {w : World} {K : PySem.W.Frag} {mg : Str → Option Value} {base : Heap} {j k : Nat} {x : Str} {f : Addr} {fd : FuncData} {ps : List Str} {S : DSp} (G : DefAt P w K mg base j x f fd ps S) (h : j ≤ k) : DefAt P w K mg base k x f fd ps S := ⟨G.fn.mono h, G.gl, G.kp, G.bn⟩
theorem DefAt.imp {P : Program} {w : World} {K : PySem.W.Frag} {mg : Str → Option Value} {base : Heap} {j : Nat} {x : Str} {f : Addr} {fd : FuncData} {ps : List Str} {S S' : DSp} (G : DefAt P w K mg base j x f fd ps S) (h : ∀ vs ms kd xk, S' vs ms kd xk → S vs ms kd xk) : DefAt P w K mg base j x f fd ps S' :=
  ⟨G.fn.imp fun vs H Q E ⟨F, ds, ms, kd, xk, r, s, q, v, x⟩ => ⟨F, ds, ms, kd, xk, r, s, h _ _ _ _ q, v, x⟩, G.gl, G.kp, G.bn⟩
theorem to_sp {K : PySem.W.Frag} {S : DSp} {F : Hp} {vs : List V} {xs : List D} {H : Hp} {Q : VK} {W : WX} {σ : L2.St} (A : At X xw F ds σ ms H W) (hK : X.K = K) (r : RepL X.K F xs vs) (V : VC X.K F kd Q) (q : S xs ms kd fun Cx d ms2 => xw Cx d ds ms2) : toSp K S vs H Q (WE W σ) := by
  subst hK
  exact ⟨F, xs, ms, kd, _, r, A.sep, q, V, fun F' Cx dx dv v ms' H' e rv S' hd q' => A.xc F' Cx dx dv v ds σ ms' H' e (A.sr.mono e) rv S' hd q'⟩
theorem de_call (C : Ctx X N k) {x : Str} {f : Addr} {fd : FuncData} {ps : List Str} {S : DSp} {j : Nat} (G : DefAt X.prog X.w X.K X.mg X.base j x f fd ps S) (hj : j ≤ k) (h : DA X xw (e :: es) ds ms fun vs ms1 => ∃ ms2, MLe X.K ms1 ms2 ∧ S vs ms2 kd fun Cx d ms2 => xw Cx d ds ms2) (hg : Gl X x)
    (hdb : (x == ("__debug__" : Str)) = false) (he : starEach (e :: es) X.env = (false, eval e X.env) :: starEach es X.env) (hpl : (backTo pos (starEach es X.env)).any (·.1) = false) : DE X xw (.Call (.Name x p) (e :: es) [] pos) ds ms kd := fun F σ H Q W A V pins s I => by
  refine wpAny_Call_Name_kw (ld_glob I hg G.gl ?_ hdb)
  refine PySem.W.callWith_K (h₀ := X.base) I.ok.mod.kin G.kp (thn (h F σ H (fun vs H1 => toSp X.K S vs H1 Q (WE W σ)) W A (fun F1 vs xs ms1 H1 e1 r1 S1 ⟨ms2, l, k1⟩ => to_sp (A.mv e1 (l _ _ S1)) rfl r1 (V.mono e1) k1) pos pins s I) fun us s1 ⟨vs, H1, I1, r, q⟩ => ⟨I1.kIn, ?_⟩) he hpl
  exact run_fnSD (dvs := []) (ds := []) (E := WE W) G.fn (C.room.mono hj) G.bn .nil (passAt A.tk σ) I1 r (by rw [List.append_nil]; exact q)
theorem de_call0 (C : Ctx X N k) {x : Str} {f : Addr} {fd : FuncData} {ps : List Str} {S : DSp} {j : Nat} (G : DefAt X.prog X.w X.K X.mg X.base j x f fd ps S) (hj : j ≤ k) (h : S [] ms kd fun Cx d ms2 => xw Cx d ds ms2) (hg : Gl X x)
    (hdb : (x == ("__debug__" : Str)) = false) : DE X xw (.Call (.Name x p) [] [] pos) ds ms kd := fun F σ H Q W A V pins s I => by
  refine wpAny_Call_Name_kw (ld_glob I hg G.gl ?_ hdb)
  exact PySem.W.callWith_K0 I.kIn G.kp (run_fnSD (us := []) (vs := []) (dvs := []) (ds := []) (E := WE W) G.fn (C.room.mono hj) G.bn .nil (passAt A.tk σ) I .nil (to_sp (xs := []) A rfl rfl V h))
/-- the slots at a def's entry -/
def startD (N : List Str) (vs : List D) : DEnv := vs.map some ++ List.replicate (N.length - vs.length) none
theorem sr_start {K : PySem.W.Frag} {F : Hp} {ds : List D} {vs : List V} (N : List Str) (r : RepL K F ds vs) : SR K F (startD N ds) (L2.start N vs) := by
  have hl := r.length
  refine ⟨by unfold startD L2.start; simp [hl], fun i d h => ?_⟩
  unfold startD at h
  unfold L2.start
  by_cases hi : i < ds.length
  · rw [List.getElem?_append_left (by rw [List.length_map]; exact hi), List.getElem?_map] at h
    rw [List.getElem?_append_left (by rw [List.length_map]; omega), List.getElem?_map]
    rw [List.getElem?_eq_getElem hi] at h
    cases h
    obtain ⟨v, h1, h2⟩ := r.get (List.getElem?_eq_getElem hi)
    exact ⟨v, by rw [h1]; rfl, h2⟩
  · rw [List.getElem?_append_right (by rw [List.length_map]; omega), List.getElem?_replicate] at h
    split at h <;> cases h
theorem def_ok {P : Program} {w : World} {K : PySem.W.Frag} {mg : Str → Option Value} {base : Heap} {x qual : Str} {st : Stmt} {f : Addr} {fd : FuncData} {N ps : List Str} {k : Nat} {S : DSp} (F : Fun K x qual st f fd) (Sc : FnScope N ps (defScope st)) (gl : mg x = some (.ref f)) (bn : Binds K fd ps [])
    (len : ∀ vs ms kd xk, S vs ms kd xk → vs.length = ps.length)
    (body : ∀ (cdv : Value) (A : Around) (outer : List Env) (s : Shared) (H : Hp) (E : XK), Ctx (cxOf (L2.CX P w) P w K mg base N qual (defScope st) f cdv A outer s H E) N k →
      PassesOwn (model P w) (cxOf (L2.CX P w) P w K mg base N qual (defScope st) f cdv A outer s H E).A (cxOf (L2.CX P w) P w K mg base N qual (defScope st) f cdv A outer s H E).env (cxOf (L2.CX P w) P w K mg base N qual (defScope st) f cdv A outer s H E).xe →
      ∀ vs ms kd xk, S vs ms kd xk → DSs (cxOf (L2.CX P w) P w K mg base N qual (defScope st) f cdv A outer s H E) (fun Cx d _ ms2 => ∃ ms3, MLe K ms2 ms3 ∧ xk Cx d ms3) (defBody st) (startD N vs) ms { nx := fun _ ms2 => ∃ ms3, MLe K ms2 ms3 ∧ kd .non ms3, rt := fun d ms2 => ∃ ms3, MLe K ms2 ms3 ∧ kd d ms3 }) :
    DefAt P w K mg base (k + 1) x f fd ps S := by
  refine ⟨?_, gl, F.kp, bn⟩
  refine F.okX Sc (fun vs H Q E ⟨F', ds, ms, kd, xk, r, s, q, v, xx⟩ => by rw [r.length]; exact len _ _ _ _ q) fun cdv A outer s H vs Q E hr ⟨F', ds, ms, kd, xk, r, sp, q, v, xx⟩ => ?_
  refine ⟨wSs _ (defBody st), pss_w, ?_⟩
  refine body cdv A outer s H E ⟨rfl, Sc.nd, rfl, hr⟩ (passes_of (X := cxOf (L2.CX P w) P w K mg base N qual (defScope st) f cdv A outer s H E) rfl) ds ms kd xk q F' (L2.start N vs) H _ (fun cls d _ H => E cls d H)
    ⟨sr_start N r, sp, takes_of (X := cxOf (L2.CX P w) P w K mg base N qual (defScope st) f cdv A outer s H E) rfl rfl rfl rfl, fun F2 Cx dx dv v2 ds' σ' ms' H' e sr rv S2 hd ⟨ms3, l, q2⟩ => xx F2 Cx dx dv v2 ms3 H' e rv (l _ _ S2) hd q2⟩
    ⟨fun F2 ds' σ' ms' H' e sr S2 ⟨ms3, l, q2⟩ => v F2 .non .non ms3 H' e rfl (l _ _ S2) q2, fun F2 v2 d2 ms' H' e r2 S2 ⟨ms3, l, q2⟩ => v F2 v2 d2 ms3 H' e r2 (l _ _ S2) q2, fun _ _ _ _ _ _ _ _ z => z.elim, fun _ _ _ _ _ _ _ _ z => z.elim⟩
end
end DL

/-! DL4: the pool of draws. -/
namespace DL
open PySem PySem.Spec PyProof.Rows L2
/-- the pool: a great number's digits, a mixed number, how many were mixed, at most n -/
structure PoolOk (a b c : Int) (n : Nat) : Prop where
  a0 : 0 ≤ a
  b0 : 0 ≤ b
  b1 : b < 2 ^ 62
  c0 : 0 ≤ c
  c1 : c ≤ n
def poolM (n : Nat) : MO := .sm fun u => ∃ a b c : Int, u = .lst [.int a, .int b, .int c] ∧ PoolOk a b c n
theorem dss_pool {X : Cx} {xw : DX} {ds : DEnv} {ms : MS} {p : Addr} {n : Nat} {st : List Stmt} {E : DEnds} (h : ∀ a b c, PoolOk a b c n → DSs X xw st ds ((p, .lst [.int a, .int b, .int c]) :: ms) E) : DSs X xw st ds ((p, poolM n) :: ms) E :=
  dss_open fun u ⟨a, b, c, e, ok⟩ => dss_st (MLe.head (o := .oth u) (o' := .lst [.int a, .int b, .int c]) fun F v (r : v = u) => ⟨_, r.trans e, _, _, rfl, rfl, _, _, rfl, rfl, _, _, rfl, rfl, rfl⟩) (h a b c ok)
theorem mle_pool {K : PySem.W.Frag} {ms : MS} {p : Addr} {a b c : Int} {n : Nat} (ok : PoolOk a b c n) : MLe K ((p, .lst [.int a, .int b, .int c]) :: ms) ((p, poolM n) :: ms) := MLe.head (o := .lst [.int a, .int b, .int c]) (o' := poolM n) fun F u ⟨vs, e, r⟩ => by
  have r' : RepL K F (([a, b, c] : List Int).map D.int) vs := r
  exact ⟨a, b, c, by rw [e, r'.ints]; rfl, ok⟩
def spDraw : DSp := fun vs ms kd xk => ∃ p m n ms0, vs = [.adr p, .int m] ∧ ms = (p, poolM n) :: ms0 ∧ n < 2 ^ 30 ∧ 0 < m ∧ m.natAbs < 2 ^ 200 ∧ ∀ r, 0 ≤ r → r < m → kd (.int r) ((p, poolM (n + 1)) :: ms0)
end DL

/-! DL5: == and != of data, any depth. -/
namespace DL
open PySem PySem.Spec PyProof.Rows L2 PySem.SeqAt
/-- x == y is b, at most n deep -/
inductive EqS : Nat → D → D → Bool → Prop
  | non {n : Nat} : EqS n .non .non true
  | bl {n : Nat} {a b : Bool} : EqS n (.bl a) (.bl b) (a == b)
  | int {n : Nat} {a b : Int} : EqS n (.int a) (.int b) (a == b)
  | str {n : Nat} {a b : Str} : EqS n (.str a) (.str b) (a == b)
  | nonInt {n : Nat} {a : Int} : EqS n .non (.int a) false
  | intNon {n : Nat} {a : Int} : EqS n (.int a) .non false
  | nonTup {n : Nat} {xs : List D} : EqS (n + 1) .non (.tup xs) false
  | tupNon {n : Nat} {xs : List D} : EqS (n + 1) (.tup xs) .non false
  | lst {n : Nat} {xs ys : List D} {e : Nat → Bool} : xs.length = ys.length → (∀ i x y, xs[i]? = some x → ys[i]? = some y → EqS n x y (e i)) → EqS (n + 1) (.lst xs) (.lst ys) ((List.range xs.length).all e)
  | lstL {n : Nat} {xs ys : List D} : xs.length ≠ ys.length → EqS (n + 1) (.lst xs) (.lst ys) false
  | tup {n : Nat} {xs ys : List D} {e : Nat → Bool} : (∀ i x y, xs[i]? = some x → ys[i]? = some y → EqS n x y (e i)) → EqS (n + 1) (.tup xs) (.tup ys) ((List.range (min xs.length ys.length)).all e && xs.length == ys.length)
section
variable {K : PySem.W.Frag} {F H : Hp} {ms : MS}
theorem sqT_inj {a : Addr} {vs us : List V} {X : Cx} {pins : List (Addr × Obj)} {σ : L2.St} {s : Shared} (I : Inv X pins σ H s) (h : SqT X.K H a vs) (g : SqT X.K H a us) : ∃ its : List Value, Vals vs its ∧ Vals us its := by
  obtain ⟨i1, r1, ⟨o1, e1, _, n1, d1⟩, _⟩ := I.tuple h
  obtain ⟨i2, r2, ⟨o2, e2, _, n2, d2⟩, _⟩ := I.tuple g
  rw [e1] at e2
  cases e2
  rw [d1] at d2
  have : i1.toArray = i2.toArray := by injection d2
  have e : i1 = i2 := by simpa using this
  subst e
  exact ⟨i1, r1, r2⟩
end
section
variable {X : Cx} {pins : List (Addr × Obj)} {σ : L2.St} {s : Shared} {F H : Hp} {ms : MS}
/-- one value stands for equal data -/
theorem eqs_same (I : Inv X pins σ H s) (S : Sep X.K F ms H) {n : Nat} {x y : D} {b : Bool} (h : EqS n x y b) : ∀ {v v' : V} {u : Value}, Rep X.K F x v → Rep X.K F y v' → RelV v u → RelV v' u → b = true := by
  induction h with
  | non => intros; rfl
  | bl => intro v v' u r r' g g'; cases r; cases r'; cases g; cases g'; simp
  | int => intro v v' u r r' g g'; cases r; cases r'; obtain ⟨_, rfl⟩ := g; obtain ⟨_, e⟩ := g'; cases e; simp
  | str => intro v v' u r r' g g'; cases r; cases r'; obtain ⟨_, rfl⟩ := g; obtain ⟨_, e⟩ := g'; cases e; simp
  | nonInt => intro v v' u r r' g g'; cases r; cases r'; cases g; obtain ⟨_, e⟩ := g'; cases e
  | intNon => intro v v' u r r' g g'; cases r; cases r'; cases g'; obtain ⟨_, e⟩ := g; cases e
  | nonTup => intro v v' u r r' g g'; obtain ⟨_, _, rfl, _⟩ := r'; cases r; cases g; cases g'
  | tupNon => intro v v' u r r' g g'; obtain ⟨_, _, rfl, _⟩ := r; cases r'; cases g; cases g'
  | lst hl he ih =>
    intro v v' u r r' g g'
    obtain ⟨a, vs, rfl, h1, h2⟩ := r
    obtain ⟨a', vs', rfl, h1', h2'⟩ := r'
    cases g
    cases g'
    rw [h1] at h1'
    cases h1'
    obtain ⟨its, rv, _, _⟩ := I.list (SqL.of (S.ex _ _ h1))
    rw [List.all_eq_true]
    intro i hi
    rw [List.mem_range] at hi
    obtain ⟨w, w1, w2⟩ := h2.get (List.getElem?_eq_getElem hi)
    obtain ⟨w', w3, w4⟩ := h2'.get (List.getElem?_eq_getElem (by rw [← hl]; exact hi))
    rw [w1] at w3
    cases w3
    obtain ⟨t, _, t2⟩ := rv.get w1
    exact ih i _ _ (List.getElem?_eq_getElem hi) (List.getElem?_eq_getElem (by rw [← hl]; exact hi)) w2 w4 t2 t2
  | lstL hl =>
    intro v v' u r r' g g'
    obtain ⟨a, vs, rfl, h1, h2⟩ := r
    obtain ⟨a', vs', rfl, h1', h2'⟩ := r'
    cases g
    cases g'
    rw [h1] at h1'
    cases h1'
    exact absurd (h2.length.symm.trans h2'.length) hl
  | tup he ih =>
    intro v v' u r r' g g'
    obtain ⟨a, vs, rfl, h1, h2⟩ := r
    obtain ⟨a', vs', rfl, h1', h2'⟩ := r'
    cases g
    cases g'
    obtain ⟨its, r1, r2⟩ := sqT_inj I (S.sqT h1) (S.sqT h1')
    have hl := h2.length.symm.trans ((r1.length.trans r2.length.symm).trans h2'.length)
    rw [Bool.and_eq_true]
    refine ⟨?_, by rw [hl]; exact beq_self_eq_true _⟩
    rw [List.all_eq_true]
    intro i hi
    rw [List.mem_range, hl, Nat.min_self] at hi
    obtain ⟨w, w1, w2⟩ := h2.get (List.getElem?_eq_getElem (by rw [hl]; exact hi))
    obtain ⟨w', w3, w4⟩ := h2'.get (List.getElem?_eq_getElem hi)
    obtain ⟨t, t1, t2⟩ := r1.get w1
    obtain ⟨t', t3, t4⟩ := r2.get w3
    rw [t1] at t3
    cases t3
    exact ih i _ _ (List.getElem?_eq_getElem (by rw [hl]; exact hi)) (List.getElem?_eq_getElem hi) w2 w4 t2 t4
theorem all_range {n : Nat} {e e' : Nat → Bool} (h : ∀ i, i < n → e i = e' i) : (List.range n).all e = (List.range n).all e' := by
  rw [Bool.eq_iff_iff, List.all_eq_true, List.all_eq_true]
  constructor
  · intro g i hi
    rw [← h i (List.mem_range.mp hi)]; exact g i hi
  · intro g i hi
    rw [h i (List.mem_range.mp hi)]; exact g i hi
/-- the items' answers -/
theorem eqs_items {A : Around} {xs ys : List D} {vs vs' : List V} {us us' : List Value} {e : Nat → Bool} (r : RepL X.K F xs vs) (r' : RepL X.K F ys vs') (g : Vals vs us) (g' : Vals vs' us')
    (ih : ∀ i x y, xs[i]? = some x → ys[i]? = some y → ∀ {v v' : V} {u u' : Value}, Rep X.K F x v → Rep X.K F y v' → RelV v u → RelV v' u' → EqAt A s u u' (e i)) :
    ∀ j (h1 : j < us.toArray.size) (h2 : j < us'.toArray.size), EqAt A s us.toArray[j] us'.toArray[j] (e j) := by
  intro j h1 h2
  have l1 : j < us.length := by simpa using h1
  have l2 : j < us'.length := by simpa using h2
  have l3 : j < xs.length := by rw [← r.length, g.length]; exact l1
  have l4 : j < ys.length := by rw [← r'.length, g'.length]; exact l2
  obtain ⟨w, w1, w2⟩ := r.get (List.getElem?_eq_getElem l3)
  obtain ⟨w', w3, w4⟩ := r'.get (List.getElem?_eq_getElem l4)
  obtain ⟨t, t1, t2⟩ := g.get w1
  obtain ⟨t', t3, t4⟩ := g'.get w3
  have e1 : us.toArray[j] = t := by
    have := List.getElem?_eq_getElem l1
    rw [t1] at this
    simp at this ⊢
    exact this.symm
  have e2 : us'.toArray[j] = t' := by
    have := List.getElem?_eq_getElem l2
    rw [t3] at this
    simp at this ⊢
    exact this.symm
  rw [e1, e2]
  exact ih j _ _ (List.getElem?_eq_getElem l3) (List.getElem?_eq_getElem l4) w2 w4 t2 t4
theorem eqs_at (I : Inv X pins σ H s) (S : Sep X.K F ms H) {n : Nat} {x y : D} {b : Bool} (h : EqS n x y b) : ∀ {A : Around} {v v' : V} {u u' : Value}, A.units + n < cLine → Rep X.K F x v → Rep X.K F y v' → RelV v u → RelV v' u' → EqAt A s u u' b := by
  induction h with
  | non => intro A v v' u u' hu r r' g g'; cases r; cases r'; cases g; cases g'; exact EqAt.same _
  | bl => intro A v v' u u' hu r r' g g'; cases r; cases r'; cases g; cases g'; exact EqAt.bool_bool _ _
  | int => intro A v v' u u' hu r r' g g'; cases r; cases r'; obtain ⟨_, rfl⟩ := g; obtain ⟨_, rfl⟩ := g'; exact EqAt.int_int _ _ _ _
  | str => intro A v v' u u' hu r r' g g'; cases r; cases r'; obtain ⟨_, rfl⟩ := g; obtain ⟨_, rfl⟩ := g'; exact EqAt.str_str _ _ _ _
  | nonInt => intro A v v' u u' hu r r' g g'; cases r; cases r'; cases g; obtain ⟨_, rfl⟩ := g'; exact EqAt.none_int _ _
  | intNon => intro A v v' u u' hu r r' g g'; cases r; cases r'; cases g'; obtain ⟨_, rfl⟩ := g; exact EqAt.int_none _ _
  | nonTup =>
    intro A v v' u u' hu r r' g g'
    obtain ⟨_, _, rfl, h1, h2⟩ := r'
    cases r; cases g; cases g'
    obtain ⟨its, _, p, _⟩ := I.tuple (S.sqT h1)
    exact EqAt.none_tuple p (by omega)
  | tupNon =>
    intro A v v' u u' hu r r' g g'
    obtain ⟨_, _, rfl, h1, h2⟩ := r
    cases r'; cases g; cases g'
    obtain ⟨its, _, p, _⟩ := I.tuple (S.sqT h1)
    exact EqAt.tuple_none p (by omega)
  | @lst n xs ys e hl he ih =>
    intro A v v' u u' hu r r' g g'
    have hs := @eqs_same X pins σ s F H ms I S (n + 1) (.lst xs) (.lst ys) _ (.lst hl he) v v' u r r' g
    obtain ⟨a, vs, rfl, h1, h2⟩ := id r
    obtain ⟨a', vs', rfl, h1', h2'⟩ := id r'
    obtain rfl : u = .ref a := g
    obtain rfl : u' = .ref a' := g'
    by_cases ea : a = a'
    · subst ea
      rw [hs rfl]
      exact EqAt.same _
    obtain ⟨its, rv, p, _⟩ := I.list (SqL.of (S.ex _ _ h1))
    obtain ⟨its', rv', p', _⟩ := I.list (SqL.of (S.ex _ _ h1'))
    have l1 : its.toArray.size = xs.length := by rw [List.size_toArray, ← rv.length, h2.length]
    have l2 : its'.toArray.size = ys.length := by rw [List.size_toArray, ← rv'.length, h2'.length]
    have z := RcAt.lists (A := A) (e := e) p.isList p'.isList (by rw [l1, l2, hl]) (by omega) (eqs_items h2 h2' rv rv' fun i x y hx hy => ih i x y hx hy (by show A.units + 1 + n < cLine; omega))
    rw [l1] at z
    exact EqAt.of_refs ea z
  | @lstL n xs ys hl =>
    intro A v v' u u' hu r r' g g'
    have hs := @eqs_same X pins σ s F H ms I S (n + 1) (.lst xs) (.lst ys) _ (.lstL hl) v v' u r r' g
    obtain ⟨a, vs, rfl, h1, h2⟩ := id r
    obtain ⟨a', vs', rfl, h1', h2'⟩ := id r'
    obtain rfl : u = .ref a := g
    obtain rfl : u' = .ref a' := g'
    by_cases ea : a = a'
    · subst ea
      exact absurd (hs rfl) Bool.false_ne_true
    obtain ⟨its, rv, p, _⟩ := I.list (SqL.of (S.ex _ _ h1))
    obtain ⟨its', rv', p', _⟩ := I.list (SqL.of (S.ex _ _ h1'))
    have l1 : its.toArray.size = xs.length := by rw [List.size_toArray, ← rv.length, h2.length]
    have l2 : its'.toArray.size = ys.length := by rw [List.size_toArray, ← rv'.length, h2'.length]
    exact EqAt.of_refs ea (RcAt.lists_lengths p.isList p'.isList (by rw [l1, l2]; simpa using hl) (by omega))
  | @tup n xs ys e he ih =>
    intro A v v' u u' hu r r' g g'
    have hs := @eqs_same X pins σ s F H ms I S (n + 1) (.tup xs) (.tup ys) _ (.tup he) v v' u r r' g
    obtain ⟨a, vs, rfl, h1, h2⟩ := id r
    obtain ⟨a', vs', rfl, h1', h2'⟩ := id r'
    obtain rfl : u = .ref a := g
    obtain rfl : u' = .ref a' := g'
    by_cases ea : a = a'
    · subst ea
      rw [hs rfl]
      exact EqAt.same _
    obtain ⟨its, rv, p, _⟩ := I.tuple (S.sqT h1)
    obtain ⟨its', rv', p', _⟩ := I.tuple (S.sqT h1')
    have l1 : its.toArray.size = xs.length := by rw [List.size_toArray, ← rv.length, h2.length]
    have l2 : its'.toArray.size = ys.length := by rw [List.size_toArray, ← rv'.length, h2'.length]
    have z := RcAt.tuples (A := A) (e := e) p p' (by omega) (eqs_items h2 h2' rv rv' fun i x y hx hy => ih i x y hx hy (by show A.units + 1 + n < cLine; omega))
    rw [l1, l2] at z
    exact EqAt.of_refs ea z
/-- d is x: data that stays, or a list of the store -/
def EqOf (ms : MS) (d x : D) : Prop := d = x ∨ ∃ xs, x = .lst xs ∧ LsOf ms d xs
theorem EqOf.f {ms : MS} {x : D} : EqOf ms x x := .inl rfl
theorem EqOf.m {ms : MS} {d : D} {xs : List D} (l : LsOf ms d xs) : EqOf ms d (.lst xs) := .inr ⟨xs, rfl, l⟩
theorem EqOf.ls {ms : MS} {d : D} {xs : List D} (h : EqOf ms d (.lst xs)) : LsOf ms d xs := by
  rcases h with rfl | ⟨ys, e, l⟩
  · exact LsOf.f
  · cases e; exact l
theorem EqOf.no {ms : MS} {d x : D} (h : EqOf ms d x) (n : ∀ xs, x ≠ .lst xs) : d = x := by
  rcases h with rfl | ⟨ys, e, l⟩
  · rfl
  · exact absurd e (n ys)
theorem eqs_rc (I : Inv X pins σ H s) (S : Sep X.K F ms H) {n : Nat} {x y d d' : D} {b : Bool} (h : EqS n x y b) (ho : EqOf ms d x) (ho' : EqOf ms d' y) {A : Around} {v v' : V} {u u' : Value} (hu : A.units + n < cLine) (r : Rep X.K F d v) (r' : Rep X.K F d' v') (g : RelV v u) (g' : RelV v' u') :
    RcAt A s u u' b ∧ RcNeAt A s u u' (!b) := by
  cases h with
  | non => cases ho.no (fun _ z => by cases z); cases ho'.no (fun _ z => by cases z); cases r; cases r'; cases g; cases g'; exact ⟨RcAt.none_none, RcNeAt.none_none⟩
  | bl => cases ho.no (fun _ z => by cases z); cases ho'.no (fun _ z => by cases z); cases r; cases r'; cases g; cases g'; exact ⟨RcAt.bool_bool _ _, RcNeAt.bool_bool _ _⟩
  | int => cases ho.no (fun _ z => by cases z); cases ho'.no (fun _ z => by cases z); cases r; cases r'; obtain ⟨_, rfl⟩ := g; obtain ⟨_, rfl⟩ := g'; exact ⟨RcAt.int_int _ _ _ _, RcNeAt.int_int _ _ _ _⟩
  | str => cases ho.no (fun _ z => by cases z); cases ho'.no (fun _ z => by cases z); cases r; cases r'; obtain ⟨_, rfl⟩ := g; obtain ⟨_, rfl⟩ := g'; exact ⟨RcAt.str_str _ _ _ _, RcNeAt.str_str _ _ _ _⟩
  | nonInt => cases ho.no (fun _ z => by cases z); cases ho'.no (fun _ z => by cases z); cases r; cases r'; cases g; obtain ⟨_, rfl⟩ := g'; exact ⟨RcAt.none_int _ _, RcNeAt.none_int _ _⟩
  | intNon => cases ho.no (fun _ z => by cases z); cases ho'.no (fun _ z => by cases z); cases r; cases r'; cases g'; obtain ⟨_, rfl⟩ := g; exact ⟨RcAt.int_none _ _, RcNeAt.int_none _ _⟩
  | nonTup =>
    cases ho.no (fun _ z => by cases z)
    cases ho'.no (fun _ z => by cases z)
    obtain ⟨_, _, rfl, h1, h2⟩ := r'
    cases r; cases g; cases g'
    obtain ⟨its, _, p, _⟩ := I.tuple (S.sqT h1)
    exact ⟨RcAt.none_tuple p (by omega), RcNeAt.none_tuple p (by omega)⟩
  | tupNon =>
    cases ho.no (fun _ z => by cases z)
    cases ho'.no (fun _ z => by cases z)
    obtain ⟨_, _, rfl, h1, h2⟩ := r
    cases r'; cases g; cases g'
    obtain ⟨its, _, p, _⟩ := I.tuple (S.sqT h1)
    exact ⟨RcAt.tuple_none p (by omega), RcNeAt.tuple_none p (by omega)⟩
  | @lst n xs ys e hl he =>
    obtain ⟨a, vs, rfl, h1, h2⟩ := ho.ls.at r S
    obtain ⟨a', vs', rfl, h1', h2'⟩ := ho'.ls.at r' S
    obtain rfl : u = .ref a := g
    obtain rfl : u' = .ref a' := g'
    obtain ⟨its, rv, p, _⟩ := I.list (SqL.of h1)
    obtain ⟨its', rv', p', _⟩ := I.list (SqL.of h1')
    have l1 : its.toArray.size = xs.length := by rw [List.size_toArray, ← rv.length, h2.length]
    have l2 : its'.toArray.size = ys.length := by rw [List.size_toArray, ← rv'.length, h2'.length]
    have z := eqs_items (A := A.in1) (s := s) (e := e) h2 h2' rv rv' fun i x y hx hy => eqs_at I S (he i x y hx hy) (by show A.units + 1 + n < cLine; omega)
    have z1 := RcAt.lists (A := A) (e := e) p.isList p'.isList (by rw [l1, l2, hl]) (by omega) z
    have z2 := RcNeAt.lists (A := A) (e := e) p.isList p'.isList (by rw [l1, l2, hl]) (by omega) z
    rw [l1] at z1 z2
    exact ⟨z1, z2⟩
  | @lstL n xs ys hl =>
    obtain ⟨a, vs, rfl, h1, h2⟩ := ho.ls.at r S
    obtain ⟨a', vs', rfl, h1', h2'⟩ := ho'.ls.at r' S
    obtain rfl : u = .ref a := g
    obtain rfl : u' = .ref a' := g'
    obtain ⟨its, rv, p, _⟩ := I.list (SqL.of h1)
    obtain ⟨its', rv', p', _⟩ := I.list (SqL.of h1')
    have l1 : its.toArray.size = xs.length := by rw [List.size_toArray, ← rv.length, h2.length]
    have l2 : its'.toArray.size = ys.length := by rw [List.size_toArray, ← rv'.length, h2'.length]
    exact ⟨RcAt.lists_lengths p.isList p'.isList (by rw [l1, l2]; simpa using hl) (by omega), RcNeAt.lists_lengths p.isList p'.isList (by rw [l1, l2]; simpa using hl) (by omega)⟩
  | @tup n xs ys e he =>
    cases ho.no (fun _ z => by cases z)
    cases ho'.no (fun _ z => by cases z)
    obtain ⟨a, vs, rfl, h1, h2⟩ := r
    obtain ⟨a', vs', rfl, h1', h2'⟩ := r'
    obtain rfl : u = .ref a := g
    obtain rfl : u' = .ref a' := g'
    obtain ⟨its, rv, p, _⟩ := I.tuple (S.sqT h1)
    obtain ⟨its', rv', p', _⟩ := I.tuple (S.sqT h1')
    have l1 : its.toArray.size = xs.length := by rw [List.size_toArray, ← rv.length, h2.length]
    have l2 : its'.toArray.size = ys.length := by rw [List.size_toArray, ← rv'.length, h2'.length]
    have z := eqs_items (A := A.in1) (s := s) (e := e) h2 h2' rv rv' fun i x y hx hy => eqs_at I S (he i x y hx hy) (by show A.units + 1 + n < cLine; omega)
    have z1 := RcAt.tuples (A := A) (e := e) p p' (by omega) z
    have z2 := RcNeAt.tuples (A := A) (e := e) p p' (by omega) z
    rw [l1, l2] at z1 z2
    exact ⟨z1, z2⟩
end
section
variable {X : Cx} {N : List Str} {k : Nat} {ms : MS} {kd : DK}
theorem opd_eqX (C : Ctx X N k) {n : Nat} {d e x y : D} {b : Bool} (h : EqS n x y b) (h1 : EqOf ms d x) (h2 : EqOf ms e y) (hn : n ≤ 60) (q : kd (.bl b) ms) : OpD X (compareOp .Eq) d e ms kd := fun F v u H Q rv ru S V pins s σ v' u' I r1 r2 =>
  (eqs_rc (A := X.A) I S h h1 h2 (by have := C.room.units; omega) rv ru r1 r2).1 _ _ _ _ ⟨.bl b, H, I, rfl, V.val (d := .bl b) S rfl q⟩
theorem opd_neX (C : Ctx X N k) {n : Nat} {d e x y : D} {b : Bool} (h : EqS n x y b) (h1 : EqOf ms d x) (h2 : EqOf ms e y) (hn : n ≤ 60) (q : kd (.bl (!b)) ms) : OpD X (compareOp .NotEq) d e ms kd := fun F v u H Q rv ru S V pins s σ v' u' I r1 r2 =>
  (eqs_rc (A := X.A) I S h h1 h2 (by have := C.room.units; omega) rv ru r1 r2).2 _ _ _ _ ⟨.bl (!b), H, I, rfl, V.val (d := .bl (!b)) S rfl q⟩
/-! families -/
theorem EqS.cast {n : Nat} {x y : D} {b b' : Bool} (h : EqS n x y b) (e : b = b') : EqS n x y b' := e ▸ h
theorem EqS.intD {n : Nat} {a b : Int} : EqS n (.int a) (.int b) (decide (a = b)) := EqS.int.cast (by rw [Bool.eq_iff_iff]; simp)
theorem EqS.strD {n : Nat} {a b : Str} : EqS n (.str a) (.str b) (decide (a = b)) := EqS.str.cast (by rw [Bool.eq_iff_iff]; simp)
theorem EqS.map {α : Type} [DecidableEq α] {n : Nat} {f : α → D} (h : ∀ a b, EqS n (f a) (f b) (decide (a = b))) (as bs : List α) : EqS (n + 1) (.lst (as.map f)) (.lst (bs.map f)) (decide (as = bs)) := by
  by_cases hl : as.length = bs.length
  · refine (EqS.lst (e := fun i => decide (as[i]? = bs[i]?)) (by simpa using hl) fun i x y hx hy => ?_).cast ?_
    · rw [List.getElem?_map] at hx hy
      cases ha : as[i]? with
      | none => rw [ha] at hx; cases hx
      | some a =>
        cases hb : bs[i]? with
        | none => rw [hb] at hy; cases hy
        | some b =>
          rw [ha] at hx
          rw [hb] at hy
          cases hx
          cases hy
          exact (h a b).cast (by rw [Bool.eq_iff_iff]; simp)
    · rw [Bool.eq_iff_iff, List.all_eq_true, decide_eq_true_iff]
      constructor
      · intro g
        apply List.ext_getElem?
        intro i
        by_cases hi : i < as.length
        · have := g i (List.mem_range.mpr (by rw [List.length_map]; exact hi))
          simpa using this
        · rw [List.getElem?_eq_none (by omega), List.getElem?_eq_none (by omega)]
      · rintro rfl
        intro i _
        simp
  · exact (EqS.lstL (by simpa using hl)).cast (by symm; rw [decide_eq_false_iff_not]; intro e; exact hl (by rw [e]))
theorem EqS.two {n : Nat} {a b c d : D} {p q : Bool} (h1 : EqS n a c p) (h2 : EqS n b d q) : EqS (n + 1) (.tup [a, b]) (.tup [c, d]) (p && q) := by
  refine (EqS.tup (e := fun i => if i = 0 then p else q) fun i x y hx hy => ?_).cast ?_
  · match i, hx, hy with
    | 0, hx, hy => cases hx; cases hy; exact h1
    | 1, hx, hy => cases hx; cases hy; exact h2
    | i + 2, hx, hy => simp at hx
  · show ((List.range 2).all _ && (2 == 2)) = _
    rw [show List.range 2 = [0, 1] from rfl]
    simp
theorem EqS.three {n : Nat} {a b c a' b' c' : D} {p q r : Bool} (h1 : EqS n a a' p) (h2 : EqS n b b' q) (h3 : EqS n c c' r) : EqS (n + 1) (.tup [a, b, c]) (.tup [a', b', c']) (p && q && r) := by
  refine (EqS.tup (e := fun i => if i = 0 then p else if i = 1 then q else r) fun i x y hx hy => ?_).cast ?_
  · match i, hx, hy with
    | 0, hx, hy => cases hx; cases hy; exact h1
    | 1, hx, hy => cases hx; cases hy; exact h2
    | 2, hx, hy => cases hx; cases hy; exact h3
    | i + 3, hx, hy => simp at hx
  · show ((List.range 3).all _ && (3 == 3)) = _
    rw [show List.range 3 = [0, 1, 2] from rfl]
    simp [Bool.and_assoc]
theorem EqS.nil {n : Nat} (xs : List D) : EqS (n + 1) (.lst xs) (.lst []) xs.isEmpty := by
  cases xs with
  | nil => exact (EqS.lst (e := fun _ => true) rfl fun i x y hx hy => by simp at hx).cast (by simp)
  | cons x r => exact EqS.lstL (by simp)
theorem opd_neNil (C : Ctx X N k) {d : D} {xs : List D} (l : LsOf ms d xs) (q : kd (.bl (!xs.isEmpty)) ms) : OpD X (compareOp .NotEq) d (.lst []) ms kd := opd_neX C (n := 1) (EqS.nil xs) (.m l) .f (by decide) q
theorem opd_eqNil (C : Ctx X N k) {d : D} {xs : List D} (l : LsOf ms d xs) (q : kd (.bl xs.isEmpty) ms) : OpD X (compareOp .Eq) d (.lst []) ms kd := opd_eqX C (n := 1) (EqS.nil xs) (.m l) .f (by decide) q
end
end DL

/-! DL6: own errors: class E(ValueError) whose __init__ says super().__init__(value); self.value = value. -/
namespace DL
open PySem PySem.Spec PyProof.Rows L2 PySem.W PySem.HandSPX PySem.Calls
/-! the text of __init__ -/
def xiA (p1 p2 : Pos) : Arguments := { posonlyargs := [], args := [{ arg := "self", annotation := none, pos := p1 }, { arg := "value", annotation := none, pos := p2 }], vararg := none, kwonlyargs := [], kw_defaults := [], kwarg := none, defaults := [] }
def xiB (p0 p1 p2 p3 p4 p5 p6 p7 p8 p9 : Pos) : List Stmt := [.Expr (.Call (.Attribute (.Call (.Name "super" p0) [] [] p1) "__init__" p2) [.Name "value" p3] [] p4) p5, .Assign [.Attribute (.Name "self" p6) "value" p7] (.Name "value" p8) p9]
def xiS : Scope := { kind := .function, names := [(PySem.Str.ofString "self", .local), (PySem.Str.ofString "value", .local), (PySem.Str.ofString "__class__", .free), (PySem.Str.ofString "super", .globalImplicit)], isGenerator := false, isCoroutine := false, more := [] }
/-- what the written part says of the error class x at C, of the class D that has the __init__ at fI -/
structure SupTxt (P : Program) (K : PySem.W.Frag) (mg : Str → Option Value) (x : Str) (C D fI : Addr) : Prop where
  oex : OexC K C
  xf : XfC K C
  gC : mg x = some (.ref C)
  noV : findIn K (.ref C) "value" = some none
  iC : findIn K (.ref C) "__init__" = some (some (.ref fI))
  tI : typeIn K (.ref fI) = some (.type "function")
  hD : ∃ cd, clsIn K D = some cd
  sub : mroIn K C (.ref D) = some true
  subV : subIn K (.ref C) (.type "ValueError") = some true
  sup : ks_superIn K C D "__init__" = some (some (.builtin "ValueError.__init__"))
  opq : nsIn K cStatics "thirdparty.any" = some none
  mgs : mg "super" = none
  top : (P.main.scope.names.lookup ("super" : Str)).isSome = false
  fn : ∃ (oc : Value) (od : Option Addr) (kV doc pm : Value) (an : Option Addr) (cda : Addr) (ct : Value) (osl : Array (Option Value)) (cc : Addr) (file : Str) (tf : Tok) (vs : Array Value) (ccl : Value) (cdd : Option Addr) (ccs : Array (Option Value)) (cl : Value) (cld : Option Addr) (csl : Array (Option Value))
    (p1 p2 q0 q1 q2 q3 q4 q5 q6 q7 q8 q9 : Pos) (qual : Str),
    (q2.endLine == q4.line) = true ∧ K.lookup fI = some ⟨oc, od, .func (ksFn "__init__" qual (xiA p1 p2) (xiB q0 q1 q2 q3 q4 q5 q6 q7 q8 q9) xiS .none kV doc pm an (.ref cda) ct cc), osl⟩ ∧ codeIn K (.ref cda) qual = true ∧
    K.lookup cda = some ⟨ccl, cdd, .fields vs, ccs⟩ ∧ vs[2]? = some (.str file tf) ∧ ((P.main.file : Str) == file) = true ∧ K.lookup cc = some ⟨cl, cld, .cell (some (.ref D)), csl⟩
/-- what __init__ leaves of a fresh error at x -/
structure SupEnd (h h' : Heap) (x C dx : Addr) (v : Value) : Prop where
  keep : ∀ b o, b ≠ x → h.get? b = some o → h'.get? b = some o
  obj : ∃ t1 : Addr, h'.get? x = some { cls := .ref C, dict := some dx, data := .fields #[.ref t1, .none, .none, .none, .bool false, .none] }
  dbig : h.objs.size ≤ dx
  dne : dx ≠ x
  ns : h'.Ns1 dx (fun y => if y = "value" then some v else none)
theorem kept_but' {K : Frag} {h h' : Heap} {x : Addr} (X : K.In h) (hx : K.lookup x = none) (k : ∀ b o, b ≠ x → h.get? b = some o → h'.get? b = some o) : K.In h' := fun a o e =>
  k a o (fun z => by rw [z, hx] at e; cases e) (X a o e)
theorem sup_eval {o : Expr} {name : Str} {apos pos : Pos} {e : Expr} {env : Env} (hl : (apos.endLine == pos.line) = true) (hs : (backTo pos (starEach [e] env)).all (fun x => !x.1) = true := by rfl) :
    eval (.Call (.Attribute o name apos) [e] [] pos) env = (do
      let ov ← attributeBase o name env (eval o env)
      standAt apos.atName
      let (f, first) ← holding [ov] (getMethod ov name (do return (← importBound o env).getD true))
      callWith pos f first (backTo pos (starEach [e] env)) []) := by
  rw [arm_eval_Call]
  have hform : methodCallForm ([e].length + ([] : List Keyword).length) (backTo pos (starEach [e] env)) (backToKw pos (keywordEach [] env)) = true := by
    unfold methodCallForm
    rw [hs]
    rfl
  have hpos : methodCallPos true o env apos pos = pure pos := by unfold methodCallPos; simp [hl]
  unfold methodCall
  rw [hform, hpos]
  rfl
section
variable {prog : Program} {w : World} {A : Around} {E : Value → Shared → Prop} {R : Result → Shared → Prop} {s : Shared} {K : Frag} {mg : Str → Option Value} {C D fI : Addr} {nm : Str}
theorem sup_init (T : SupTxt prog K mg nm C D fI) {base : Heap} (M : Mod K mg base) (bk : ∀ b o, base.get? b = some o → s.heap.get? b = some o) {x t0 : Addr} {v : Value} 
    (hx : s.heap.get? x = some (excO C t0)) (hnx : base.get? x = none) (hroom : A.depth < recursionLimit)
    (hq : ∀ h' tk dx, SupEnd s.heap h' x C dx v → R (.ok (.ret .none)) { s with heap := h', toks := tk }) :
    codeAny (model prog w) A (.call (.ref fI) ⟨[.ref x, v], []⟩) R s := by
  have X : K.In s.heap := M.kin.keeps bk
  have hlim : s.heap.NoLimit := M.nolimit.keeps bk
  obtain ⟨mb, hb1, hb2⟩ := M.blt
  obtain ⟨oc, od, kV, doc, pm, an, cda, ct, osl, cc, file, tf, vs, ccl, cdd, ccs, cl, cld, csl, p1, p2, q0, q1, q2, q3, q4, q5, q6, q7, q8, q9, qual, hln, ho, hcd, hcode, hvs, hfile, hcell⟩ := T.fn
  obtain ⟨nm', q, N, bs, bm, sn, sub, ab, col, dd, k0, k1, k2, k3, k5, hC, hbm⟩ := T.oex.cls
  have hcl : clsIn K C = some { name := nm', bases := bs, mro := .ref C :: bm, ns := N, qualname := q, hasDict := true, slotNames := sn, subclasses := sub, abstract := ab, collection := col, hasDel := false } := by unfold clsIn; rw [hC] <;> rfl
  refine ks_codeAny_call_defAt (body := xiB q0 q1 q2 q3 q4 q5 q6 q7 q8 q9) (binds := [("self", .ref x), ("value", v)]) hroom (X _ _ ho) rfl hlim (codeRec_of X hcd) rfl (BindsTo.of_eq (by first | rfl | with_unfolding_all rfl)) (show ∀ x ∈ xiS.names, x.2 ≠ .cell by decide +kernel) (fun y hy => ?_) (fun h₁ hns k => ?_) rfl rfl rfl
  · have hy : y ∈ ([(("self" : Str), Value.ref x), ("value", v)] : List (Str × Value)) := hy
    show xiS.names.lookup y.1 = _
    rcases List.mem_cons.mp hy with rfl | hy
    · show xiS.names.lookup ("self" : Str) = some .local
      decide +kernel
    · rcases List.mem_cons.mp hy with rfl | hy
      · show xiS.names.lookup ("value" : Str) = some .local
        decide +kernel
      · cases hy
  have X₁ : K.In h₁ := X.keeps k
  have hx₁ := k _ _ hx
  have bk₁ : ∀ b o, base.get? b = some o → h₁.get? b = some o := fun b o e => k b o (bk b o e)
  have hg₁ : h₁.Ns mainGlobals mg := M.glob.keeps bk₁
  have hxL : s.heap.objs.size ≠ x := Nat.ne_of_gt (Heap.lt_size hx)
  have hself : (fun y => ([(("self" : Str), Value.ref x), ("value", v)] : List (Str × Value)).reverse.lookup y) ("self" : Str) = some (.ref x) := by first | rfl | decide +kernel | simp [List.lookup]
  have hval : (fun y => ([(("self" : Str), Value.ref x), ("value", v)] : List (Str × Value)).reverse.lookup y) ("value" : Str) = some v := by first | rfl | simp [List.lookup]
  obtain ⟨oD, hD1, hD2⟩ : ∃ oD, h₁.get? D = some oD ∧ ∃ cdD, oD.data = .cls cdD := by
    obtain ⟨cd, hD⟩ := T.hD
    unfold clsIn at hD
    split at hD
    · rename_i c d cd' sl ho
      cases hD
      exact ⟨_, X₁ _ _ ho, _, rfl⟩
    · cases hD
  obtain ⟨cdD, hD2⟩ := hD2
  obtain ⟨hh, g, d, t, os⟩ := s
  -- super().__init__(value)
  refine ks_wpAt_execs_cons (ks_wpAt_Expr_any (ks_wpAt_MethodCall ?_ (sup_eval hln)))
  refine ks_wpAt_super_base (env := ksEnv qual xiS hh.objs.size fI (.ref cda) cc) (by first | rfl | decide +kernel) (by first | rfl | decide +kernel) (by decide) rfl (X₁ _ _ ho) rfl rfl rfl (X₁ _ _ hcode) rfl hvs hfile T.top ?_
  refine ks_loadName_global rfl (by first | rfl | decide +kernel) (loadGlobal_builtin (env := ksEnv qual xiS hh.objs.size fI (.ref cda) cc) hg₁ T.mgs (hb1.keeps bk₁) ((hb2 "super" (by decide)).trans (by decide +kernel)) ⟨rfl, ?_⟩)
  refine wpAny_loadName_free rfl (by first | rfl | decide +kernel) rfl ⟨_, X₁ _ _ hcell, rfl⟩ ?_
  refine wpAny_loadName_local rfl (by first | rfl | decide +kernel) hns hself ?_
  refine ks_wpAny_isType_cls hD1 hD2 ⟨rfl, ?_⟩
  refine ks_wpAny_call_super hD1 hD2 hx₁ rfl (fun c e => by cases e) (looks_mroIn X₁ T.sub) (fun h₂ e2 k₂ => ?_)
  have X₂ : K.In h₂ := X₁.keeps k₂
  have I2 : InstAt h₂ x (excO C t0) C none := ⟨k₂ _ _ hx₁, rfl, rfl, trivial⟩
  have hsup := T.sup
  unfold ks_superIn at hsup
  rw [hcl] at hsup
  refine kxs_getMethod (B := "ValueError") (i := "ValueError.__init__") kxs_ValueError (C := C) (x := x) (D := D) e2 (looks_opaque X₂ T.opq) (l₀ := .ref C :: bm) ?_ rfl X₂ hsup (I2.type.andThen (looks_subIn X₂ T.subV)) (ks_ne X₂ I2 hcl) (by decide) ?_
  · exact fun A Q E s k q => wpAny_bind ((looks_clsIn X₂ hcl) A _ E s k (wpAny_pure q))
  -- the call
  have km : ∀ b o, h₂.get? b = some o → (h₂.push (kxs_mw "ValueError.__init__" x)).get? b = some o := fun b o e => Heap.get?_push_of_some _ e
  have hmw : (h₂.push (kxs_mw "ValueError.__init__" x)).get? h₂.objs.size = some (kxs_mw "ValueError.__init__" x) := Heap.get?_push_at rfl rfl
  refine kxs_callWith (i := "ValueError.__init__") (x := x) rfl ?_
  refine evalArgs_plain ?_
  have hn₂ : (h₂.push (kxs_mw "ValueError.__init__" x)).Ns hh.objs.size _ := hns.keeps fun b o e => km b o (k₂ b o e)
  refine spliced_more (wpAny_Name (wpAny_loadName_local rfl (by first | rfl | decide +kernel) hn₂ hval ?_) (by decide)) rfl
  refine spliced_none ⟨hmw, ?_⟩
  have X₃ : K.In (h₂.push (kxs_mw "ValueError.__init__" x)) := X₂.keeps km
  have hx₃ := km _ _ (k₂ _ _ hx₁)
  have hnL : ∀ b o, h₁.get? b = some o → (h₂.push (kxs_mw "ValueError.__init__" x)).get? b = some o := fun b o e => km b o (k₂ b o e)
  generalize hmwh : h₂.push (kxs_mw "ValueError.__init__" x) = h₃ at hn₂ X₃ hx₃ hmw hnL ⊢
  refine wpAny_call (codeAny_of_tree ?_)
  show wpAny _ _ (callAny (.ref h₂.objs.size) ⟨[v], []⟩) _ _ _
  simp only [callAny]
  refine wpAny_bind (wpAny_load hmw ?_)
  simp only [kxs_mw, show (Value.type "method-wrapper" == Value.type "method" || Value.type "method-wrapper" == Value.type "builtin_function_or_method" || Value.type "method-wrapper" == Value.type "method-wrapper") = true by decide, if_true]
  refine KFB.if_so (by decide) ?_
  refine wpAny_bind (check_bound_init F.excBase_ValueError.toExcCallFacts (X₃ _ _ hC) hx₃ rfl ?_)
  refine wpAny_bind (wpAny_pure (wpAny_pure ?_))
  refine ⟨plainId_quiet F.excBase_ValueError.init.plain _, codeAny_builtin F.excBase_ValueError.initEntry ?_⟩
  refine exc_init_tree (cls := .ref C) (t0 := t0) (dv := none) (c2 := .none) (c3 := .none) (b4 := .bool false) hx₃ (by rw [sizeLine_eq]; show 1 ≤ 16777216; decide) fun h₄ k₄ hx₄ ht₄ => ?_
  -- self.value = value
  show _root_.PySem.wpAt _ _ _ (execs _ _) _ _ _
  have hxs : hh.objs.size ≠ x := hxL
  have hn₄ : h₄.Ns hh.objs.size (fun y => ([(("self" : Str), Value.ref x), ("value", v)] : List (Str × Value)).reverse.lookup y) := by
    obtain ⟨oL, es, ep, hL, r⟩ := hn₂
    exact ⟨oL, es, ep, k₄ _ _ hxs hL, r⟩
  have nx : K.lookup x = none := by
    cases e : K.lookup x with
    | none => rfl
    | some o => rw [M.kin _ _ e] at hnx; cases hnx
  have X₄ : K.In h₄ := kept_but' X₃ nx k₄
  refine wpAt_of_wpAny (wpAny_execs_cons (plainObj_wpAny_Assign_Attribute ?_))
  refine wpAny_Name (wpAny_loadName_local rfl (by first | rfl | decide +kernel) hn₄ hval (wpAny_Name (wpAny_loadName_local rfl (by first | rfl | decide +kernel) hn₄ hself ?_) (by decide))) (by decide)
  refine set_plain X₄ (ox := excO C h₃.objs.size) (od := none) ⟨hx₄, rfl, rfl, trivial⟩ T.oex.sa ?_
  refine exc_osa X₄ hx₄ hcl (show refsVE (.ref C :: bm) = true from hbm) rfl T.noV (fun h₅ tk₅ dx k₅ dn dne hx₅ hn₅ => ?_)
  show wpAny _ _ (execs _ _) _ _ _
  have z : hh.objs.size < h₄.objs.size := hn₄.lt
  exact wpAny_execs_nil (hq h₅ tk₅ dx ⟨fun b o hb e => k₅ b o hb (k₄ b o hb (hnL b o (k b o e))), ⟨_, hx₅⟩, Nat.le_of_lt (Nat.lt_of_lt_of_le z dn), dne, hn₅⟩)
end

/-- a made error -/
structure SupMade (h h' : Heap) (e C d : Addr) (v : Value) : Prop where
  keep : ∀ b o, h.get? b = some o → h'.get? b = some o
  new : h.objs.size ≤ e
  obj : ∃ oe vs, h'.get? e = some oe ∧ oe.cls = .ref C ∧ oe.dict = some d ∧ oe.data = .fields vs ∧ vs[1]? = some .none
  dbig : h.objs.size ≤ d
  dne : d ≠ e
  ns : h'.Ns1 d (fun y => if y = "value" then some v else none)
section
variable {prog : Program} {w : World} {A : Around} {E : Value → Shared → Prop} {R : Result → Shared → Prop} {s : Shared} {K : Frag} {mg : Str → Option Value} {C D fI : Addr} {nm : Str}
theorem sup_made (T : SupTxt prog K mg nm C D fI) {base : Heap} (M : Mod K mg base) (bk : ∀ b o, base.get? b = some o → s.heap.get? b = some o) {v : Value} (hroom : A.depth + 1 < recursionLimit)
    (hq : ∀ h' tk e d, SupMade s.heap h' e C d v → R (.ok (.ret (.ref e))) { s with heap := h', toks := tk }) :
    codeAny (model prog w) A (.call (.ref C) ⟨[v], []⟩) R s := by
  obtain ⟨nm', q, N, bs, bm, sn, sub, ab, col, dd, k0, k1, k2, k3, k5, hC, hbm⟩ := T.oex.cls
  obtain ⟨hp, g, dr, tk, os⟩ := s
  have X : K.In hp := M.kin.keeps bk
  have k : ∀ b o, hp.get? b = some o → ((hp.push (kdv_tup [v])).push (excO C hp.objs.size)).get? b = some o := fun b o e => Heap.get?_push_of_some _ (Heap.get?_push_of_some _ e)
  have hget : ((hp.push (kdv_tup [v])).push (excO C hp.objs.size)).get? (hp.objs.size + 1) = some (excO C hp.objs.size) := by heap_get
  have hnb : base.get? (hp.objs.size + 1) = none := by
    cases e : base.get? (hp.objs.size + 1) with
    | none => rfl
    | some o =>
      have z : hp.get? (hp.objs.size + 1) = some o := bk _ _ e
      exact absurd (Nat.lt_of_succ_lt (Heap.lt_size z)) (Nat.lt_irrefl _)
  refine call_own F.excBase_ValueError (fun X => refsVE_contains X bm hbm) (X _ _ hC) (looks_findIn X T.iC) (fun self => bind_fn X self T.tI) (by rw [sizeLine_eq]; show 1 ≤ 16777216; decide) ?_
  refine sup_init (s := ⟨(hp.push (kdv_tup [v])).push (excO C hp.objs.size), g, dr, tk, os⟩) T M (fun b o e => k b o (bk b o e)) hget hnb ?_ fun h' tk' dx ⟨k', hx, dn, dne, hns⟩ => ?_
  · show A.depth + 1 < recursionLimit
    exact hroom
  · have old : ∀ b o, hp.get? b = some o → h'.get? b = some o := fun b o e => k' b o (Nat.ne_of_lt (Nat.lt_succ_of_lt (Heap.lt_size e))) (k b o e)
    have z : hp.objs.size + 1 + 1 ≤ dx := by
      first
        | (simpa only [Heap.size_push] using dn)
        | exact dn
        | (have q := dn; rw [Heap.size_push, Heap.size_push] at q; exact q)
    obtain ⟨t1, hx⟩ := hx
    exact ⟨rfl, hq h' tk' (hp.objs.size + 1) dx ⟨old, Nat.le_succ _, ⟨_, _, hx, rfl, rfl, rfl, rfl⟩, Nat.le_trans (Nat.le_trans (Nat.le_succ _) (Nat.le_succ _)) z, dne, hns⟩⟩
end
section
variable {X : Cx} {xw : DX} {N : List Str} {k : Nat} {ds : DEnv} {ms : MS} {E : DEnds} {C D fI : Addr} {nm : Str}
/-- raise nm(e) -/
theorem ds_raise (T : SupTxt X.prog X.K X.mg nm C D fI) (Cc : Ctx X N (k + 1)) {a : Expr} {p pos pos2 : Pos} (h : DA X xw [a] ds ms fun vs ms1 => ∃ v, vs = [v] ∧ xw C v ds ms1) (hg : Gl X nm) (hdb : (nm == ("__debug__" : Str)) = false)
    (he : starEach (a :: []) X.env = (false, eval a X.env) :: starEach [] X.env) (hpl : (backTo pos (starEach [] X.env)).any (·.1) = false) : DS X xw (.Raise (some (.Call (.Name nm p) [a] [] pos)) none pos2) ds ms E := by
  intro F σ H Dd W A V
  refine fun pins s I => (ps_raise (t := fun σ H Q => wA X [a] σ H fun vs H1 => ∃ v, vs = [v] ∧ ∀ d, H1 d = none → Q (.ref C) (some d) (upd H1 d (.xd [(("value" : Str), v)]))) Cc.calm A.tk ?_).run pins s σ H Dd I ?_
  · intro pins s σ H Q I h
    refine wpAny_Call_Name_kw (ld_glob I hg T.gC ?_ hdb)
    refine PySem.W.callWith_K (h₀ := X.base) I.ok.mod.kin T.oex.kC (thn (h pos pins s I) fun us s1 hh => ?_) he hpl
    obtain ⟨vs, H1, I1, r1, v, ev, q1⟩ := hh
    subst ev
    refine ⟨I1.kIn, ?_⟩
    cases r1 with
    | @cons _ u _ _ rv rr =>
      cases rr
      refine wpAny_call (sup_made T I1.ok.mod I1.bk ?_ fun h' tk' e d M => ?_)
      · exact (Cc.room.make C [u] []).depth
      · obtain ⟨hp, g, dr, tk, os⟩ := s1
        show MkP X pins σ Q (.ref e) ⟨h', g, dr, tk', os⟩
        obtain ⟨oe, fv, hoe, hc, hd, hdat, h1⟩ := M.obj
        have hns := M.ns
        obtain ⟨G', g1, g2⟩ := restrict h' fun b => decide (b ≠ e)
        have gk : ∀ b, b ≠ e → G'.get? b = h'.get? b := fun b hb => g1 b (decide_eq_true hb)
        have ge : G'.get? e = none := g2 e (by simp)
        have old : ∀ b o, hp.get? b = some o → G'.get? b = some o := fun b o q => (gk b (Nat.ne_of_lt (Nat.lt_of_lt_of_le (Heap.lt_size q) M.new))).trans (M.keep b o q)
        have ob : ObjOk X.prog X.w (upd H1 d (.xd [(("value" : Str), v)])) G' d (.xd [(("value" : Str), v)]) :=
          ⟨_, hns.at (fun o q => (gk d M.dne).trans q), fun f => relO_put (fs := []) (mA := fun _ => none) rv (fun g => True.intro) f⟩
        have J : Inv X pins σ (upd H1 d (.xd [(("value" : Str), v)])) ⟨G', g, dr, tk', os⟩ := I1.laid (t' := tk') old M.dbig ob
        refine ⟨e, oe, fv, ⟨G', g, dr, tk', os⟩, _, .ref C, some d, rfl, J, fun b o q => ?_, ge, hoe, ⟨hc, hd⟩, hdat, h1, ?_, rfl, I1.bare, raises_own T.oex.exC T.oex.tyC, q1 d (I1.hok.fresh M.dbig)⟩
        · by_cases hb : b = e
          · have q' : G'.get? b = some o := q
            rw [hb, ge] at q'; cases q'
          · exact (gk b hb).symm.trans q
        · rw [upd_ne (Ne.symm M.dne)]
          exact I1.hok.fresh M.new
  · refine h F σ H _ W A fun F1 vs xs ms1 H1 e1 r1 S1 ⟨v, ev, q⟩ => ?_
    subst ev
    obtain ⟨u, rfl, g⟩ := r1.inv1
    refine ⟨u, rfl, fun d hd => ?_⟩
    have l := Le.new (F := F1) (o := .xd [(("value" : Str), u)]) (S1.free hd)
    exact A.xc _ C d v u ds σ ms1 _ (e1.trans l) (A.sr.mono (e1.trans l)) (g.mono l) (S1.newF hd) upd_same q
end

/-! ### try .. except x as n -/
theorem findObj_dataO {K : Frag} {C : Addr} {od : Option Obj} {name : Str} {a g : Value} (hc : (clsIn K C).isSome = true) (ha : findIn K (.ref C) name = some (some a)) (hg : specialIn K a "__get__" = some (some g)) (ht : takesIn K a = some true) : findObj K C od name = some (.bind g a) := by
  obtain ⟨cd, hc⟩ := Option.isSome_iff_exists.mp hc
  unfold findObj
  rw [hc, Option.bind_some, ha, Option.bind_some]
  simp [hg, ht]
section
variable {prog : Program} {w : World} {A : Around} {E : Value → Shared → Prop} {s : Shared} {K : Frag} {x C : Addr} {ox : Obj} {od : Option Obj}
/-- the class of an error with a dict -/
theorem err_class {Q : Option Value → Shared → Prop} (T : ExcC K C) (X : K.In s.heap) (I : InstAt s.heap x ox C od) (h : Q (some (.ref C)) { s with toks := s.toks + 1 }) : wpAny (model prog w) A (getAttr? (.ref x) "__class__") Q E s := by
  have hf : findObj K C od "__class__" = some (.bind (.builtin "getset_descriptor.__get__") (.builtin "object.__class__")) := findObj_dataO (by obtain ⟨cd, hc, _⟩ := any_some T.hd; rw [hc]; rfl) T.ha T.hn T.ht
  obtain ⟨hp, g, d, t, os⟩ := s
  have L0 := I.type (M := model prog w)
  have L1 := looks_findIn (M := model prog w) X T.hg
  have L2 := looks_findIn (M := model prog w) X T.hk
  have L3 := looks_find (M := model prog w) X I hf
  have sub : Looks (model prog w) hp (isInstance (.ref x) (.type "BaseException")) true := L0.andThen (looks_subIn X T.hs)
  have hx0 : (false && onTheHeap (Value.builtin "BaseException.__getattribute__")) = false := rfl
  have hx2 : (Value.builtin "BaseException.__getattribute__" == Value.builtin "object.__getattribute__") = false := by decide +kernel
  have hx1 : (onTheHeap (Value.ref C) && Value.builtin "BaseException.__getattribute__" == Value.builtin "object.__getattribute__") = false := by rw [hx2]; rfl
  unfold getAttr? getAttrBy? getAttrBy
  refine wpAny_bind (wpAny_mkText (wpAny_bind (wpAny_attempt (wpAny_holding (wpAny_bind (L0.at (wpAny_bind (L1.at ?_))))))))
  show wpAny _ _ (if (onTheHeap (Value.ref C) && Value.builtin "BaseException.__getattribute__" == Value.builtin "object.__getattribute__") = true then _ else _) _ _ _
  rw [hx1, if_neg Bool.false_ne_true]
  unfold getAttrByItsOwn hookBefore
  refine wpAny_bind ?_
  rw [if_pos (show onTheHeap (Value.ref C) = true from rfl)]
  refine L2.at ?_
  refine wpAny_bind (wpAny_attempt (wpAny_holding ?_))
  unfold callGetattribute
  rw [hx0, if_neg Bool.false_ne_true]
  unfold boundAndCalled
  rw [PySem.F.excAttr_ValueError.ga.bind (.ref x)]
  refine wpAny_bind (wpAny_pure ?_)
  show wpAny _ _ (call (.builtin "BaseException.__getattribute__") [.ref x, .str "__class__" t]) _ _ _
  refine wpAny_call (codeAny_call_builtin PySem.F.excAttr_ValueError.ga.plain PySem.F.entry_bexc_ga ?_)
  refine @check_slot (model prog w) _ _ ⟨hp, g, d, t + 1, os⟩ "BaseException.__getattribute__" "BaseException" "__getattribute__" (.ref x) [.str "__class__" t] [] _ (by decide +kernel) (by decide +kernel) sub (PySem.F.args_bexc_ga (.ref x) (.str "__class__" t)) ?_
  unfold Builtin.«object.__getattribute__»
  refine wpAny_bind (wpAny_of_eq (a := ((Value.ref x : Value), [Value.str "__class__" t])) (by first | rfl | (simp only [slotArgs]; rfl)) ?_)
  refine wpAny_bind (wpAny_pure (wpAny_bind (L0.at (wpAny_bind (L3.at ?_)))))
  show wpAny _ _ (holding [Value.builtin "object.__class__"] (call (.builtin "getset_descriptor.__get__") [.builtin "object.__class__", .ref x, .ref C]) >>= ret) _ _ _
  refine wpAny_bind (wpAny_holding (wpAny_call (class_get (s := ⟨hp, g, d, t + 1, os⟩) (ox := ox) (od := od) X I T.hm ?_)))
  refine wpAny_pure ?_
  show wpAny _ _ (handedOut (.ref C)) _ _ _
  rw [handedOut_of (v := .ref C) rfl]
  first
    | exact wpAny_pure (wpAny_pure h)
    | exact wpAny_pure h
    | exact wpAny_pure (wpAny_bind (wpAny_pure (wpAny_pure h)))
theorem err_kit (T : ExcC K C) : KitX K (.ref x) (.ref C) (fun h => InstAt h x ox C od) where
  ty := fun _ _ _ I => I.type
  it := fun _ _ X _ => by
    obtain ⟨cdD, hcD, _⟩ := any_some T.hd
    unfold clsIn at hcD
    split at hcD
    · rename_i c' d' cd' sl' ho
      intro A' Q' E' s' k q
      unfold isType loadHead
      exact wpAny_bind (wpAny_loadPart (k _ _ (X _ _ ho)) (wpAny_pure q))
    · cases hcD
  ne := (handS_kitx_exc (x := x) (ox := ox) T.hg T.hk T.hs T.hd T.ha T.hn T.ht T.hm).ne
  ca := fun X I k => err_class T X I k
end
section
variable {X : Cx} {xw : DX} {N : List Str} {k : Nat} {ds : DEnv} {ms : MS} {E : DEnds} {kd : DK}
/-- an except suite that holds an error of the class at C -/
structure Suite (X : Cx) (a dx C : Addr) : Prop where
  ex : ∃ (X0 : Cx) (oe : Obj) (pn : List (Addr × Obj)), X = X0.suite a ((a, oe) :: pn) ∧ Zc (.ref C) (some dx) oe ∧ ∃ vs, oe.data = .fields vs
theorem de_errVal {a dx C : Addr} (U : Suite X a dx C) (T : XfC X.K C) (hno : findIn X.K (.ref C) "value" = some none) {e : Expr} {pos : Pos} (h : DE X xw e ds ms fun d ms1 => ∃ v, d = .err a dx v ∧ kd v ms1)
    (hb : attributeBase e "value" X.env (eval e X.env) = eval e X.env) : DE X xw (.Attribute e "value" pos) ds ms kd := by
  obtain ⟨X0, oe, pn, rfl, hz, hf⟩ := U.ex
  refine .of (pe_xf (te := wE _ e) T hno hz hf pe_w hb) fun F σ H Q W A V => h F σ H _ W A fun F1 x d ms1 H1 e1 r1 S1 ⟨v, ed, q⟩ => ?_
  subst ed
  obtain ⟨rfl, u, hu, ru⟩ := r1
  exact ⟨rfl, rfl, dx, _, u, rfl, S1.ex _ _ hu, rfl, V F1 u v ms1 H1 e1 ru S1 q⟩
/-- isinstance(e, c) of the error that the suite holds -/
theorem cad_isErr {a dx C B : Addr} {v : D} {b : Bool} (U : Suite X a dx C) (T : ExcC X.K C) (hk : kitOne X.K (.ref C) (.ref B) = some b) (q : kd (.bl b) ms) : CaD X (.builtin "isinstance") [.err a dx v, .adr B] ms kd := by
  intro F vs H Q r S V pins s σ us I rv
  obtain ⟨X0, oe, pn, rfl, hz, hf⟩ := U.ex
  obtain ⟨x, y, rfl, rx, ry⟩ := r.inv2
  obtain ⟨rfl, u, hu, ru⟩ := rx
  cases ry
  cases rv with
  | cons g1 rr =>
    cases rr with
    | cons g2 rr =>
      cases rr
      cases g1
      cases g2
      obtain ⟨hget, _⟩ := I.pin (a, oe) (List.mem_append.mpr (.inl List.mem_cons_self))
      obtain ⟨fv, hv⟩ := hf
      obtain ⟨mA, hns, hr⟩ := (show ObjOk _ _ H s.heap dx (.xd [("value", u)]) from I.hok dx _ (S.ex _ _ hu))
      obtain ⟨od, ho, hl⟩ := lookIn_ns hns
      have J : InstAt s.heap a oe C (some od) := ⟨hget, hz.1, by unfold notCls; rw [hv] <;> rfl, by rw [hz.2]; exact ho⟩
      exact kia_one (err_kit T) I.kIn J hk (fun z => nomatch z) fun tk => ⟨.bl b, H, I.kept (t' := tk) fun _ _ z => z, rfl, V.val (d := .bl b) S rfl q⟩
theorem EC.set {K : Frag} {F : Hp} {Dd : Ends} {i : Nat} (V : EC K F E Dd) : EC K F { nx := fun ds' ms' => E.nx (ds'.set i none) ms', rt := E.rt, bk := fun ds' ms' => E.bk (ds'.set i none) ms', ct := fun ds' ms' => E.ct (ds'.set i none) ms' }
    { nx := fun σ' H' => Dd.nx (σ'.set i none) H', rt := Dd.rt, bk := fun σ' H' => Dd.bk (σ'.set i none) H', ct := fun σ' H' => Dd.ct (σ'.set i none) H' } :=
  ⟨fun F1 ds1 σ1 ms1 H1 e1 sr1 S1 k1 => V.nx F1 _ _ ms1 H1 e1 (sr1.setN i none) S1 k1, V.rt, fun F1 ds1 σ1 ms1 H1 e1 sr1 S1 k1 => V.bk F1 _ _ ms1 H1 e1 (sr1.setN i none) S1 k1, fun F1 ds1 σ1 ms1 H1 e1 sr1 S1 k1 => V.ct F1 _ _ ms1 H1 e1 (sr1.setN i none) S1 k1⟩
/-- try: body, except x as n: suite -/
theorem ds_tryAs (Cc : Ctx X N k) {x n : Str} {c : Addr} {i : Nat} {body suite : List Stmt} {b₀ : Stmt} {np pos pos' : Pos} (hs : X.stack = X.env :: X.outer) (hf : X.env.frame = some X.env.locals) (hi : Ix N n i) (hln : X.env.kindOf n = some .local) (hc : Names X x (.ref c))
    (h : ∀ (pn0 : List (Addr × Obj)) (xe0 : Value → Shared → Prop), Ctx (X.tr pn0 xe0) N k → PassesOwn (model X.prog X.w) X.A X.env xe0 →
      DSs (X.tr pn0 xe0) (fun C dv ds1 ms1 => ∃ b, exmOne X.K (.ref C) (.ref c) = some b ∧ (b = true → ∀ (a dx : Addr) (oe : Obj) (pn : List (Addr × Obj)), Suite (X.suite a ((a, oe) :: pn)) a dx C →
        DSs (X.suite a ((a, oe) :: pn)) xNo (b₀ :: suite) (ds1.set i (some (.err a dx dv))) ms1 { nx := fun ds' ms' => E.nx (ds'.set i none) ms', rt := E.rt, bk := fun ds' ms' => E.bk (ds'.set i none) ms', ct := fun ds' ms' => E.ct (ds'.set i none) ms' }) ∧
        (b = false → xw C dv ds1 ms1)) body ds ms E) :
    DS X xw (.Try body [.ExceptHandler (some (.Name x np)) (some n) (b₀ :: suite) pos'] [] [] pos) ds ms E := by
  intro F σ H Dd W A V pins s I
  refine (ps_try_as (Wout := W) (tb := fun W' => fun D' σ' H' => ∀ (pn : List (Addr × Obj)) (xe : Value → Shared → Prop), Takes (X.tr pn xe) W' → PassesOwn (model X.prog X.w) X.A X.env xe → wSs (X.tr pn xe) body D' σ' H')
    (ts := fun a cls d => fun D' σ' H' => ∀ (oe : Obj) (pn : List (Addr × Obj)), Zc cls d oe → (∃ vs, oe.data = .fields vs) → wSs (X.suite a ((a, oe) :: pn)) (b₀ :: suite) D' σ' H')
    hs hf Cc.ndX (Cc.ix hi) hln hc A.tk (fun W' pn xe tk po => ⟨fun pins s σ H D I h => h pn xe tk po pins s I⟩) (fun a oe cls d pn hz hf => ⟨fun pins s σ H D I h => h oe pn hz hf pins s I⟩)).run pins s σ H Dd I ?_
  intro pn xe tk po
  refine h pn xe ⟨Cc.names, Cc.nd, Cc.calm, Cc.room⟩ po F σ H Dd _ ⟨A.sr, A.sep, tk, ?_⟩ V
  intro F' C dx dv v ds' σ' ms' H' e sr rv S hd ⟨b, hb, h1, h0⟩
  refine ⟨b, hb, fun ht a ha => ?_, fun hf => A.xc F' C dx dv v ds' σ' ms' H' e sr rv S hd (h0 hf)⟩
  intro oe pn2 hz hfv
  exact h1 ht a dx oe pn2 ⟨X, oe, pn2, rfl, hz, hfv⟩ F' _ H' _ (fun _ _ _ _ => False) ⟨sr.set i (d := .err a dx dv) ⟨rfl, v, hd, rv⟩, S, takes0, xcNo⟩ (V.mono e).set
/-- names in a suite -/
theorem de_nameS (hN : X.N = N) {x : Str} {i : Nat} {d : D} {pos : Pos} (h : Nm N ds x i d) (hv : Vis X.env.scope x) (hd : (x == ("__debug__" : Str)) = false) (hcd : (x == ("__classdict__" : Str)) = false) (q : kd d ms) : DE X xw (.Name x pos) ds ms kd :=
  .of (pe_var (i := i) (by rw [hN]; exact h.at.1) hv hd hcd) fun F σ H Q W A V => by
    obtain ⟨v, h1, h2⟩ := A.sr.at_ i d h.at.2
    exact ⟨v, h1, V.val A.sep h2 q⟩
end
end DL

/-! DL7: star items, keywords, a def that shows data (guards told), repr. -/
namespace DL
open PySem PySem.Spec PyProof.Rows L2
section
variable {X : Cx} {xw : DX} {N : List Str} {k : Nat} {ds : DEnv} {ms : MS} {kd : DK} {e : Expr} {es : List Expr} {pos p sp_ : Pos}
/-- d holds the items xs: a tuple, or a list -/
def SqOf (ms : MS) (d : D) (xs : List D) : Prop := d = .tup xs ∨ LsOf ms d xs ∨ d = .ttp xs
theorem SqOf.at {K : PySem.W.Frag} {F H : Hp} {d : D} {xs : List D} {v : V} (h : SqOf ms d xs) (r : Rep K F d v) (S : Sep K F ms H) : ∃ p vs, v = .ref p ∧ (SqT K H p vs ∨ SqL K H p vs) ∧ RepL K F xs vs := by
  rcases h with rfl | h | rfl
  · obtain ⟨p, vs, rfl, h1, h2⟩ := r
    exact ⟨p, vs, rfl, .inl (S.sqT h1), h2⟩
  · obtain ⟨p, vs, rfl, h1, h2⟩ := h.at r S
    exact ⟨p, vs, rfl, .inr (SqL.of h1), h2⟩
  · obtain ⟨p, vs, rfl, h1, h2⟩ := Rep.tt r
    exact ⟨p, vs, rfl, .inl (S.sqT h1), h2⟩
theorem da_star {kd : List D → MS → Prop} (h : DE X xw e ds ms fun x ms1 => ∃ xs, SqOf ms1 x xs ∧ DA X xw es ds ms1 fun ys ms2 => kd (xs ++ ys) ms2) (hs : starEach (.Starred e p :: es) X.env = (true, eval e X.env) :: starEach es X.env) : DA X xw (.Starred e p :: es) ds ms kd :=
  fun F σ H Q W A V pos pins s I => (StX.pa_star pe_w pa_w hs).run pos pins s σ H Q I (h F σ H _ W A fun F1 x d ms1 H1 e1 r1 S1 ⟨xs, hx, k1⟩ => by
    obtain ⟨q, vs, rfl, h1, h2⟩ := hx.at r1 S1
    exact ⟨q, vs, rfl, h1, k1 F1 σ H1 _ W (A.mv e1 S1) fun F2 ys d2 ms2 H2 e2 r2 S2 k2 => V F2 (vs ++ ys) (xs ++ d2) ms2 H2 (e1.trans e2) ((h2.mono e2).append r2) S2 k2⟩)

/-! ### keywords -/
def wK (X : Cx) (kws : List Keyword) : TA := fun σ H Q => ∀ (pos : Pos) pins s, Inv X pins σ H s → wpAny (model X.prog X.w) X.A (evalAll ((backToKw pos (keywordEach kws X.env)).map (·.2))) (AP X pins σ Q) X.xe s
theorem pk_w {kws : List Keyword} : PK X kws (wK X kws) := ⟨fun pos pins s σ H Q I h => h pos pins s I⟩
def DKw (X : Cx) (xw : DX) (kws : List Keyword) (ds : DEnv) (ms : MS) (kd : List D → MS → Prop) : Prop := ∀ F σ H Q W, At X xw F ds σ ms H W → VCs X.K F kd Q → wK X kws σ H Q
theorem dk_nil {kd : List D → MS → Prop} (q : kd [] ms) : DKw X xw [] ds ms kd := fun F σ H Q W A V pos pins s I => pk_nil.run pos pins s σ H Q I (V F [] [] ms H (Le.refl F) rfl A.sep q)
theorem dk_cons {kd : List D → MS → Prop} {nm : Option Str} {kpos : Pos} {kws : List Keyword} (h : DE X xw e ds ms fun x ms1 => DKw X xw kws ds ms1 fun xs ms2 => kd (x :: xs) ms2) : DKw X xw (⟨nm, e, kpos⟩ :: kws) ds ms kd :=
  fun F σ H Q W A V pos pins s I => (pk_cons pe_w pk_w).run pos pins s σ H Q I (h F σ H _ W A fun F1 x d ms1 H1 e1 r1 S1 k1 => k1 F1 σ H1 _ W (A.mv e1 S1) fun F2 xs d2 ms2 H2 e2 r2 S2 k2 =>
    V F2 (x :: xs) (d :: d2) ms2 H2 (e1.trans e2) ⟨x, xs, rfl, r1.mono e2, r2⟩ S2 k2)
/-- the last parameters by keywords, in order -/
def KwB (K : PySem.W.Frag) (fd : FuncData) (ps ks : List Str) : Prop := ∀ (s : Shared) (us ws : List Value), K.In s.heap → ws.length = ks.length → us.length + ws.length = ps.length → BindsTo s fd ⟨us, ks.zip ws⟩ (ps.zip (us ++ ws))
theorem run_kw {pins : List (Addr × Obj)} {σ : L2.St} {H : Hp} {s : Shared} {Q : VK} {us ws : List Value} {vs zs : List V} {CX : CXT} {f : Addr} {fd : FuncData} {ps ks : List Str} {sp : Sp} {E : L2.St → XK} (F : FnOk X.prog X.w X.K X.mg X.base CX k f fd ps sp) (hr : Room k X.A) (hb : KwB X.K fd ps ks) (hx : PassesAt CX X σ (E σ))
    (I : Inv X pins σ H s) (r : Vals vs us) (rz : Vals zs ws) (hl : ws.length = ks.length) (h : sp (vs ++ zs) H Q (E σ)) : wpAny (model X.prog X.w) X.A (call (.ref f) us (ks.zip ws)) (EP X pins σ Q) X.xe s := by
  have r2 := r.append rz
  have l2 : us.length + ws.length = ps.length := by
    have := F.len _ _ _ _ h
    rw [List.length_append, r.length, rz.length] at this
    exact this
  refine wpAny_call (codeAny_mono (F.run X.A X.stack s H ⟨us, ks.zip ws⟩ (us ++ ws) (vs ++ zs) Q (E σ) hr I.env0 (hb s us ws I.kIn hl l2) r2 h) fun r s' hq => ?_)
  cases r with
  | error e => exact hx pins H s e s' I hq
  | ok fl =>
    cases fl with
    | ret u => exact I.after hq
    | next => exact False.elim hq
    | brk => exact False.elim hq
    | cont => exact False.elim hq
/-- f(k = v, ..) -/
theorem de_callKw0 (C : Ctx X N k) {x : Str} {f : Addr} {fd : FuncData} {ps ks : List Str} {S : DSp} {j : Nat} {kws : List Keyword} (G : DefAt X.prog X.w X.K X.mg X.base j x f fd ps S) (hb : KwB X.K fd ps ks) (hj : j ≤ k) (h : DKw X xw kws ds ms fun vs ms1 => vs.length = ks.length ∧ ∃ ms2, MLe X.K ms1 ms2 ∧ S vs ms2 kd fun Cx d ms2 => xw Cx d ds ms2) (hg : Gl X x)
    (hdb : (x == ("__debug__" : Str)) = false) (hall : (backToKw pos (keywordEach kws X.env)).all (·.1.isSome) = true) (hks : (backToKw pos (keywordEach kws X.env)).filterMap (·.1) = ks)
    (hpl : ((backTo pos (starEach [] X.env)).any (·.1) || (backToKw pos (keywordEach kws X.env)).any (·.1.isNone)) = false) : DE X xw (.Call (.Name x p) [] kws pos) ds ms kd := fun F σ H Q W A V pins s I => by
  refine wpAny_Call_Name_kw (ld_glob I hg G.gl ?_ hdb)
  refine PySem.W.callWith_KW0 (h₀ := X.base) I.ok.mod.kin G.kp hall (thn (h F σ H (fun zs H1 => zs.length = ks.length ∧ toSp X.K S zs H1 Q (WE W σ)) W A (fun F1 zs xs ms1 H1 e1 r1 S1 ⟨hl, ms2, l, k1⟩ => ⟨by rw [r1.length]; exact hl, to_sp (A.mv e1 (l _ _ S1)) rfl r1 (V.mono e1) k1⟩) pos pins s I) fun ws s2 ⟨zs, H2, I2, rz, hl, q⟩ => ⟨I2.kIn, ?_⟩) hpl
  rw [hks]
  exact run_kw (us := []) (vs := []) (E := WE W) G.fn (C.room.mono hj) hb (passAt A.tk σ) I2 .nil rz (by rw [← rz.length]; exact hl) q
/-- f(e, .., k = v, ..) -/
theorem de_callKw (C : Ctx X N k) {x : Str} {f : Addr} {fd : FuncData} {ps ks : List Str} {S : DSp} {j : Nat} {kws : List Keyword} (G : DefAt X.prog X.w X.K X.mg X.base j x f fd ps S) (hb : KwB X.K fd ps ks) (hj : j ≤ k) (h : DA X xw (e :: es) ds ms fun us ms0 => DKw X xw kws ds ms0 fun vs ms1 => vs.length = ks.length ∧ ∃ ms2, MLe X.K ms1 ms2 ∧ S (us ++ vs) ms2 kd fun Cx d ms2 => xw Cx d ds ms2) (hg : Gl X x)
    (hdb : (x == ("__debug__" : Str)) = false) (hall : (backToKw pos (keywordEach kws X.env)).all (·.1.isSome) = true) (hks : (backToKw pos (keywordEach kws X.env)).filterMap (·.1) = ks)
    (hpl : ((backTo pos (starEach (e :: es) X.env)).any (·.1) || (backToKw pos (keywordEach kws X.env)).any (·.1.isNone)) = false) (he : starEach (e :: es) X.env = (false, eval e X.env) :: starEach es X.env) : DE X xw (.Call (.Name x p) (e :: es) kws pos) ds ms kd := fun F σ H Q W A V pins s I => by
  refine wpAny_Call_Name_kw (ld_glob I hg G.gl ?_ hdb)
  refine PySem.W.callWith_KW (h₀ := X.base) I.ok.mod.kin G.kp hall (thn (h F σ H (fun vs H1 => wK X kws σ H1 fun zs H2 => zs.length = ks.length ∧ toSp X.K S (vs ++ zs) H2 Q (WE W σ)) W A (fun F1 vs xs ms1 H1 e1 r1 S1 k1 => ?_) pos pins s I) fun us s1 ⟨vs, H1, I1, r, q⟩ => ?_) hpl he
  · exact k1 F1 σ H1 _ W (A.mv e1 S1) fun F2 zs ys ms2 H2 e2 r2 S2 ⟨hl, ms3, l, k2⟩ => ⟨by rw [r2.length]; exact hl, to_sp ((A.mv e1 S1).mv e2 (l _ _ S2)) rfl ((r1.mono e2).append r2) ((V.mono e1).mono e2) k2⟩
  · refine thn (q pos pins s1 I1) fun ws s2 ⟨zs, H2, I2, rz, hl, q2⟩ => ⟨I2.kIn, ?_⟩
    rw [hks]
    exact run_kw (E := WE W) G.fn (C.room.mono hj) hb (passAt A.tk σ) I2 r rz (by rw [← rz.length]; exact hl) q2
end
end DL

/-! DL8: defs of which it is told that nothing is being shown around them; repr. -/
namespace DL
open PySem PySem.Spec PyProof.Rows L2
/-- as FnOk, where no repr runs around -/
structure FnOkG (P : Program) (w : World) (K : PySem.W.Frag) (mg : Str → Option Value) (base : Heap) (CX : CXT) (k : Nat) (f : Addr) (fd : FuncData) (ps : List Str) (sp : Sp) : Prop where
  len : ∀ vs H Q E, sp vs H Q E → vs.length = ps.length
  run : ∀ (A : Around) (outer : List Env) (s : Shared) (H : Hp) (args : Args) (us : List Value) (vs : List V) (Q : VK) (E : XK), Room k A → A.guards = some [] → Env0 P w K mg base A outer s H → BindsTo s fd args (ps.zip us) → Vals vs us → sp vs H Q E →
    codeAny (model P w) A (.call (.ref f) args) (CR CX outer P w H s Q E) s
structure DefAtG (P : Program) (w : World) (K : PySem.W.Frag) (mg : Str → Option Value) (base : Heap) (k : Nat) (x : Str) (f : Addr) (fd : FuncData) (ps : List Str) (S : DSp) : Prop where
  fn : FnOkG P w K mg base (L2.CX P w) k f fd ps (toSp K S)
  gl : mg x = some (.ref f)
  kp : PySem.W.keepIn K (.ref f) = true
  bn : Binds K fd ps []
section
variable {X : Cx} {xw : DX} {N : List Str} {k : Nat} {ds : DEnv} {ms : MS} {kd : DK} {e : Expr} {es : List Expr} {pos p : Pos}
theorem run_fnG {pins : List (Addr × Obj)} {σ : L2.St} {H : Hp} {s : Shared} {Q : VK} {us : List Value} {vs : List V} {CX : CXT} {f : Addr} {fd : FuncData} {ps : List Str} {sp : Sp} {E : L2.St → XK} (F : FnOkG X.prog X.w X.K X.mg X.base CX k f fd ps sp) (hr : Room k X.A) (gd : X.A.guards = some []) (hb : Binds X.K fd ps []) (hx : PassesAt CX X σ (E σ))
    (I : Inv X pins σ H s) (r : Vals vs us) (h : sp vs H Q (E σ)) : wpAny (model X.prog X.w) X.A (call (.ref f) us) (EP X pins σ Q) X.xe s := by
  have hl : us.length = ps.length := by rw [← r.length]; exact F.len _ _ _ _ h
  have b := hb s us I.kIn (by rw [List.append_nil]; exact hl)
  rw [List.append_nil] at b
  refine wpAny_call (codeAny_mono (F.run X.A X.stack s H ⟨us, []⟩ us vs Q (E σ) hr gd I.env0 b r h) fun r s' hq => ?_)
  cases r with
  | error e => exact hx pins H s e s' I hq
  | ok fl =>
    cases fl with
    | ret u => exact I.after hq
    | next => exact False.elim hq
    | brk => exact False.elim hq
    | cont => exact False.elim hq
theorem de_callG (C : Ctx X N k) (gd : X.A.guards = some []) {x : Str} {f : Addr} {fd : FuncData} {ps : List Str} {S : DSp} {j : Nat} (G : DefAtG X.prog X.w X.K X.mg X.base j x f fd ps S) (hj : j ≤ k) (h : DA X xw (e :: es) ds ms fun vs ms1 => ∃ ms2, MLe X.K ms1 ms2 ∧ S vs ms2 kd fun Cx d ms2 => xw Cx d ds ms2) (hg : Gl X x)
    (hdb : (x == ("__debug__" : Str)) = false) (he : starEach (e :: es) X.env = (false, eval e X.env) :: starEach es X.env) (hpl : (backTo pos (starEach es X.env)).any (·.1) = false) : DE X xw (.Call (.Name x p) (e :: es) [] pos) ds ms kd := fun F σ H Q W A V pins s I => by
  refine wpAny_Call_Name_kw (ld_glob I hg G.gl ?_ hdb)
  refine PySem.W.callWith_K (h₀ := X.base) I.ok.mod.kin G.kp (thn (h F σ H (fun vs H1 => toSp X.K S vs H1 Q (WE W σ)) W A (fun F1 vs xs ms1 H1 e1 r1 S1 ⟨ms2, l, k1⟩ => to_sp (A.mv e1 (l _ _ S1)) rfl r1 (V.mono e1) k1) pos pins s I) fun us s1 ⟨vs, H1, I1, r, q⟩ => ⟨I1.kIn, ?_⟩) he hpl
  exact run_fnG (E := WE W) G.fn (C.room.mono hj) gd G.bn (passAt A.tk σ) I1 r q
end
theorem fn_ofG {CX : CXT} {P : Program} {w : World} {K : PySem.W.Frag} {mg : Str → Option Value} {base : Heap} {k : Nat} {f : Addr} {name qual : Str} {params : Arguments} {body : List Stmt} {scope : Scope} {dV kV doc pm cdv ct oc : Value} {an od : Option Addr}
    {osl : Array (Option Value)} {N ps : List Str} {sp : Sp} (lk : K.lookup f = some ⟨oc, od, .func (PySem.W.fnOf name qual params body scope dV kV doc pm an cdv ct), osl⟩) (hcd : PySem.W.codeIn K cdv qual = true) (S : FnScope N ps scope)
    (len : ∀ vs H Q E, sp vs H Q E → vs.length = ps.length)
    (hbody : ∀ (A : Around) (outer : List Env) (s : Shared) (H : Hp) (vs : List V) (Q : VK) (E : XK), Room k (A.deeper (envOfC qual scope s.heap.objs.size f cdv)) → A.guards = some [] → sp vs H Q E →
      PSs (cxOf CX P w K mg base N qual scope f cdv A outer s H E) body (wSs (cxOf CX P w K mg base N qual scope f cdv A outer s H E) body) → wSs (cxOf CX P w K mg base N qual scope f cdv A outer s H E) body { nx := fun _ H' => Q .non H', rt := Q } (start N vs) H) :
    FnOkG P w K mg base CX (k + 1) f (PySem.W.fnOf name qual params body scope dV kV doc pm an cdv ct) ps sp := by
  refine ⟨len, fun A outer s H args us vs Q E hr hg e0 hb r hsp => ?_⟩
  have hl := len _ _ _ _ hsp
  have sub : ∀ b o, base.get? b = some o → s.heap.get? b = some o := fun b o e => (e0.bs b o e).1
  have KX : K.In s.heap := e0.mod.kin.keeps sub
  have lim : s.heap.NoLimit := e0.mod.nolimit.keeps sub
  have kinds : ∀ y ∈ ps.zip us, scope.names.lookup y.1 = some .local ∨ (scope.names.lookup y.1 = some .cell ∧ ((cellsFrom (s.heap.objs.size + 1) scope.names []).lookup y.1).isSome = true) := by
    rintro ⟨n, v⟩ hy
    exact (S.par n (List.of_mem_zip hy).1).imp id fun q => ⟨q, PySem.W.cellsFrom_some _ _ _ (.inl q)⟩
  refine codeAny_call_function hr.depth (KX _ _ lk) rfl S.co S.gen rfl (PySem.W.codeRec_of KX hcd) (hb _ _ _ _ (wpAny_newFunctionEnv_cells S.kind kinds fun env he s1 x => ?_))
  subst he
  refine ⟨lim.keeps x.toInCall.keep, codeAny_func ?_⟩
  have I : Inv (cxOf CX P w K mg base N qual scope f cdv A outer s H E) [] (start N vs) H s1 := inv_start S hr.hd e0 hl r x
  refine wpAny_mono (hbody A outer s H vs Q E (hr.deeper _) hg hsp pss_w [] s1 I) (fun fl s' hs => ?_) fun e s' hs => hs
  have fin : ∀ {σ' : L2.St} {H' : Hp} {v : V} {u : Value}, Inv (cxOf CX P w K mg base N qual scope f cdv A outer s H E) [] σ' H' s' → RelV v u → Q v H' → CE outer P w H s Q u s' :=
    fun {σ' H' v u} J rv q => ⟨v, H', J.os, J.bare, J.base, J.hok, rv, q⟩
  match fl, hs with
  | .ret u, ⟨v, σ', H', J, rv, q⟩ => exact fin J rv q
  | .next, ⟨σ', H', J, q⟩ => exact fin (v := V.non) (u := Value.none) J rfl q
  | .brk, ⟨_, _, _, q⟩ => exact False.elim q
  | .cont, ⟨_, _, _, q⟩ => exact False.elim q
theorem def_okG {P : Program} {w : World} {K : PySem.W.Frag} {mg : Str → Option Value} {base : Heap} {x qual : Str} {st : Stmt} {f : Addr} {fd : FuncData} {N ps : List Str} {k : Nat} {S : DSp} (F : Fun K x qual st f fd) (Sc : FnScope N ps (defScope st)) (gl : mg x = some (.ref f)) (bn : Binds K fd ps [])
    (len : ∀ vs ms kd xk, S vs ms kd xk → vs.length = ps.length)
    (body : ∀ (cdv : Value) (A : Around) (outer : List Env) (s : Shared) (H : Hp) (E : XK), Ctx (cxOf (L2.CX P w) P w K mg base N qual (defScope st) f cdv A outer s H E) N k → (cxOf (L2.CX P w) P w K mg base N qual (defScope st) f cdv A outer s H E).A.guards = some [] →
      PassesOwn (model P w) (cxOf (L2.CX P w) P w K mg base N qual (defScope st) f cdv A outer s H E).A (cxOf (L2.CX P w) P w K mg base N qual (defScope st) f cdv A outer s H E).env (cxOf (L2.CX P w) P w K mg base N qual (defScope st) f cdv A outer s H E).xe →
      ∀ vs ms kd xk, S vs ms kd xk → DSs (cxOf (L2.CX P w) P w K mg base N qual (defScope st) f cdv A outer s H E) (fun Cx d _ ms2 => ∃ ms3, MLe K ms2 ms3 ∧ xk Cx d ms3) (defBody st) (startD N vs) ms { nx := fun _ ms2 => ∃ ms3, MLe K ms2 ms3 ∧ kd .non ms3, rt := fun d ms2 => ∃ ms3, MLe K ms2 ms3 ∧ kd d ms3 }) :
    DefAtG P w K mg base (k + 1) x f fd ps S := by
  obtain ⟨oc, od, kV, doc, pm, an, cdv, ct, osl, rfl, lk, hcd⟩ := F.ex
  refine ⟨fn_ofG lk hcd Sc (fun vs H Q E ⟨F', ds, ms, kd, xk, r, s, q, v, xx⟩ => by rw [r.length]; exact len _ _ _ _ q) fun A outer s H vs Q E hr hg ⟨F', ds, ms, kd, xk, r, sp, q, v, xx⟩ _ => ?_, gl, F.kp, bn⟩
  refine body cdv A outer s H E ⟨rfl, Sc.nd, rfl, hr⟩ hg (passes_of (X := cxOf (L2.CX P w) P w K mg base N qual (defScope st) f cdv A outer s H E) rfl) ds ms kd xk q F' (L2.start N vs) H _ (fun cls d _ H => E cls d H)
    ⟨sr_start N r, sp, takes_of (X := cxOf (L2.CX P w) P w K mg base N qual (defScope st) f cdv A outer s H E) rfl rfl rfl rfl, fun F2 Cx dx dv v2 ds' σ' ms' H' e sr rv S2 hd ⟨ms3, l, q2⟩ => xx F2 Cx dx dv v2 ms3 H' e rv (l _ _ S2) hd q2⟩
    ⟨fun F2 ds' σ' ms' H' e sr S2 ⟨ms3, l, q2⟩ => v F2 .non .non ms3 H' e rfl (l _ _ S2) q2, fun F2 v2 d2 ms' H' e r2 S2 ⟨ms3, l, q2⟩ => v F2 v2 d2 ms3 H' e r2 (l _ _ S2) q2, fun _ _ _ _ _ _ _ _ z => z.elim, fun _ _ _ _ _ _ _ _ z => z.elim⟩

/-! ### repr of plain data -/
section
variable {X : Cx} {N : List Str} {k : Nat} {ms : MS} {kd : DK}
theorem cad_repr (C : Ctx X N k) (gd : X.A.guards = some []) {d : D} {xs : List D} (h : LsOf ms d xs) (hp : plainL xs = true) (hs : (pd (.lst xs)).showable = true) (hd : (pd (.lst xs)).hasDict = false) (hn : (pd (.lst xs)).depth ≤ 60) (hl : (pd (.lst xs)).shown.length ≤ sizeLine) (q : kd (.str (pd (.lst xs)).shown) ms) : CaD X (.builtin "repr") [d] ms kd := by
  intro F vs H Q r S V pins s σ us I rv
  obtain ⟨v, rfl, r1⟩ := r.inv1
  obtain ⟨p, ws, rfl, h1, h2⟩ := h.at r1 S
  have dp : Dp X.K H (.ref p) (pd (.lst xs)) := .lst (SqL.of h1) (dp_ofL S hp h2)
  cases rv with
  | cons ru rr =>
    cases rr
    rename_i u
    obtain rfl : u = Value.ref p := ru
    obtain ⟨as, rd⟩ := Dp.reads I _ _ _ dp rfl
    have hu := C.room.un
    exact repr_of_reads' rd hs (PyData.noDict_hsm hd) gd (by omega) (fun _ _ e => e) (fun h' t tk hk => ⟨.str _, H, I.kept (t' := tk) hk, ⟨t, rfl⟩, V.val (d := .str _) S rfl q⟩) hl
end
/-! what nested rows show -/
theorem str_app_len (x y : Str) : (x ++ y).length = x.length + y.length := by
  show (x.cps ++ y.cps).size = _
  rw [Array.size_append]; rfl
theorem textFrom_le : ∀ (ts : List Str) (k : Nat) (acc : Str), (textFrom k acc ts).length ≤ acc.length + (ts.map (·.length)).sum + 2 * ts.length
  | [], k, acc => by show acc.length ≤ _; simp
  | t :: r, k, acc => by
    have h := textFrom_le r (k + 1) (acc ++ (if k > 0 then ", " else "" : String) ++ t)
    have e : textFrom k acc (t :: r) = textFrom (k + 1) (acc ++ (if k > 0 then ", " else "" : String) ++ t) r := rfl
    rw [e]
    rw [str_app_len, str_app_len] at h
    have h2 : (Str.ofString (if k > 0 then ", " else "" : String)).length ≤ 2 := by split <;> decide +kernel
    rw [List.map_cons, List.sum_cons, List.length_cons]
    omega
theorem listText_le (ts : List Str) : (listText ts).length ≤ (ts.map (·.length)).sum + 2 * ts.length + 2 := by
  have h := textFrom_le ts 0 "["
  have e : listText ts = textFrom 0 "[" ts ++ "]" := rfl
  rw [e, str_app_len]
  have h1 : ("[" : Str).length = 1 := by decide +kernel
  have h2 : ("]" : Str).length = 1 := by decide +kernel
  omega
theorem tupleText_le (ts : List Str) : (tupleText ts).length ≤ (ts.map (·.length)).sum + 2 * ts.length + 3 := by
  have h := StrLaws.join_length_le ", " ts
  have e : tupleText ts = ("(" : Str) ++ Str.join ", " ts ++ (if ts.length == 1 then ",)" else ")" : String) := rfl
  rw [e, str_app_len, str_app_len]
  have h1 : ("(" : Str).length = 1 := by decide +kernel
  have h2 : (Str.ofString (if ts.length == 1 then ",)" else ")" : String)).length ≤ 2 := by split <;> decide +kernel
  have h3 : (", " : Str).length = 2 := by decide +kernel
  rw [h3] at h
  omega
/-- at most n deep, and what it shows is at most m long -/
structure Shw (d : D) (n m : Nat) : Prop where
  pl : plain d = true
  sh : (pd d).showable = true
  hd : (pd d).hasDict = false
  dp : (pd d).depth ≤ n
  ln : (pd d).shown.length ≤ m
theorem Shw.int {i : Int} {k : Nat} (hk : 0 < k) (h : i.natAbs < 10 ^ k) (h2 : 10 ^ k ≤ 2 ^ 1920) : Shw (.int i) 0 (k + 1) := by
  refine ⟨rfl, ?_, rfl, Nat.le_refl _, ?_⟩
  · show decide (i.natAbs.log2 < 1920) = true
    refine decide_eq_true ?_
    by_cases h0 : i.natAbs = 0
    · rw [h0]; decide
    · exact (Nat.log2_lt h0).mpr (Nat.lt_of_lt_of_le h h2)
  · have := int_text_length_le10 hk h
    show (Str.ofString (toString i)).length ≤ _
    rw [PySem.ofString_length]
    exact this
theorem Shw.all {xs : List D} {n m : Nat} (h : ∀ x ∈ xs, Shw x n m) : plainL xs = true ∧ PyData.showableAll (pdL xs) = true ∧ PyData.hasDictAll (pdL xs) = false ∧ PyData.depthAll (pdL xs) ≤ n ∧ ((PyData.shownAll (pdL xs)).map (·.length)).sum ≤ xs.length * m ∧ (PyData.shownAll (pdL xs)).length = xs.length := by
  induction xs with
  | nil => exact ⟨rfl, rfl, rfl, Nat.zero_le _, Nat.zero_le _, rfl⟩
  | cons x r ih =>
    obtain ⟨i1, i2, i3, i4, i5, i6⟩ := ih fun y hy => h y (List.mem_cons_of_mem _ hy)
    obtain ⟨h1, h2, h3, h4, h5⟩ := h x List.mem_cons_self
    refine ⟨?_, ?_, ?_, ?_, ?_, ?_⟩
    · show (plain x && plainL r) = true
      rw [h1, i1]; rfl
    · show ((pd x).showable && PyData.showableAll (pdL r)) = true
      rw [h2, i2]; rfl
    · show ((pd x).hasDict || PyData.hasDictAll (pdL r)) = false
      rw [h3, i3]; rfl
    · show max (pd x).depth (PyData.depthAll (pdL r)) ≤ n
      omega
    · show (((pd x).shown :: PyData.shownAll (pdL r)).map (·.length)).sum ≤ _
      rw [List.map_cons, List.sum_cons, List.length_cons, Nat.succ_mul]
      omega
    · show ((pd x).shown :: PyData.shownAll (pdL r)).length = _
      rw [List.length_cons, i6]; rfl
theorem Shw.lst {xs : List D} {n m : Nat} (h : ∀ x ∈ xs, Shw x n m) {l : Nat} (hl : xs.length ≤ l) : Shw (.lst xs) (n + 1) (l * (m + 2) + 2) := by
  obtain ⟨i1, i2, i3, i4, i5, i6⟩ := Shw.all h
  refine ⟨i1, i2, i3, Nat.succ_le_succ i4, ?_⟩
  have := listText_le (PyData.shownAll (pdL xs))
  rw [i6] at this
  have h1 : xs.length * m ≤ l * m := Nat.mul_le_mul_right _ hl
  show (listText (PyData.shownAll (pdL xs))).length ≤ _
  rw [Nat.mul_add]
  omega
theorem Shw.tup {xs : List D} {n m : Nat} (h : ∀ x ∈ xs, Shw x n m) {l : Nat} (hl : xs.length ≤ l) : Shw (.tup xs) (n + 1) (l * (m + 2) + 3) := by
  obtain ⟨i1, i2, i3, i4, i5, i6⟩ := Shw.all h
  refine ⟨i1, i2, i3, Nat.succ_le_succ i4, ?_⟩
  have := tupleText_le (PyData.shownAll (pdL xs))
  rw [i6] at this
  have h1 : xs.length * m ≤ l * m := Nat.mul_le_mul_right _ hl
  show (tupleText (PyData.shownAll (pdL xs))).length ≤ _
  rw [Nat.mul_add]
  omega
section
variable {X : Cx} {N : List Str} {k : Nat} {ms : MS} {kd : DK}
theorem cad_reprS (C : Ctx X N k) (gd : X.A.guards = some []) {d : D} {xs : List D} {n m : Nat} (h : LsOf ms d xs) (hs : Shw (.lst xs) n m) (hn : n ≤ 60) (hm : m ≤ sizeLine) (q : kd (.str (pd (.lst xs)).shown) ms) : CaD X (.builtin "repr") [d] ms kd :=
  cad_repr C gd h hs.pl hs.sh hs.hd (Nat.le_trans hs.dp hn) (Nat.le_trans hs.ln hm) q
end
end DL

/-! DL9: more operators; the pool's ledger; replacing. -/
namespace DL
open PySem PySem.Spec PyProof.Rows L2
section
variable {X : Cx} {xw : DX} {N : List Str} {k : Nat} {ds : DEnv} {ms : MS} {kd : DK} {e : Expr} {es : List Expr} {pos p sp_ : Pos}
theorem mul_foldl (x : Array Nat) : ∀ (n : Nat) (a : Array Nat), ((List.replicate n x).foldl (· ++ ·) a).size = a.size + n * x.size
  | 0, a => by simp
  | n + 1, a => by
    rw [List.replicate_succ, List.foldl_cons, mul_foldl x n, Array.size_append, Nat.succ_mul]
    omega
theorem mul_len (x : Str) (n : Int) : (Txt.mul x n).length ≤ n.toNat * x.length := by
  unfold Txt.mul
  split
  · exact Nat.zero_le _
  · split
    · rename_i h1 h2
      rcases Bool.or_eq_true_iff.mp h2 with h | h
      · have : n = 1 := by simpa using h
        subst this
        show x.length ≤ 1 * x.length
        omega
      · have : x.length = 0 := by simpa using h
        omega
    · show ((List.replicate n.toNat x.cps).foldl (· ++ ·) #[]).size ≤ _
      rw [mul_foldl]
      show 0 + n.toNat * x.cps.size ≤ n.toNat * x.cps.size
      omega
theorem opd_mulS {x : Str} {n : Int} (hx : x.length ≤ 16) (h0 : -(2 ^ 63 : Int) ≤ n) (h1 : n ≤ 1000000) (q : kd (.str (Txt.mul x n)) ms) : OpD X (binaryOp .Mult) (.str x) (.int n) ms kd := fun F v u H Q rv ru S V pins s σ v' u' I r1 r2 => by
  cases rv
  cases ru
  obtain ⟨t, rfl⟩ := r1
  obtain ⟨t2, rfl⟩ := r2
  exact SB.mul (mulOk_of 16 1048576 hx (by omega) h0 (by decide) (by decide)) fun t' k => ⟨.str _, H, I.tok k, ⟨t', rfl⟩, V.val (d := .str _) S rfl q⟩
theorem mle_more {K : PySem.W.Frag} {ms : MS} {p : Addr} {n m : Nat} (h : n ≤ m) : MLe K ((p, poolM n) :: ms) ((p, poolM m) :: ms) := MLe.head (o := poolM n) (o' := poolM m) fun F u ⟨a, b, c, e, ok⟩ => ⟨a, b, c, e, ⟨ok.a0, ok.b0, ok.b1, ok.c0, Int.le_trans ok.c1 (by exact_mod_cast h)⟩⟩
end

/-! ### where a token is out -/
section
open Builtin Builtin.Str
theorem gives_repl1 (x y z : Str) (t u v w : Tok) (h0 : (u == 0 || v == 0) = false) (huv : (u == v) = false) (hyz : (y == z) = false)
    (hl : tooLong (x.length + (occurrences x y 0 x.length 1).length * z.length) = false) :
    Gives («str.replace» ⟨[.str x t, .str y u, .str z v, .int 1 w], []⟩) (if ((occurrences x y 0 x.length 1).isEmpty || (y.length == 0 && z.length == 0)) = true then .val (.str x t) else .str (glued z (partsBetween x (occurrences x y 0 x.length 1) y.length))) := by
  show Gives (if ((occurrences x y 0 x.length 1).isEmpty || (y.length == 0 && z.length == 0)) = true then (do rule "str.replace.nothing"; ret (.str x t)) else
          (do let same ← isSame (.str y u) (.str z v)
              if same = true then (do rule "str.replace.old-is-new"; ret (.str x t)) else
              if tooLong (x.length + (occurrences x y 0 x.length 1).length * z.length) = true then unsupported "str.replace:memory" else
              retStr (glued z (partsBetween x (occurrences x y 0 x.length 1) y.length)))) _
  cases hc : ((occurrences x y 0 x.length 1).isEmpty || (y.length == 0 && z.length == 0))
  · rw [isSame_str_other y z u v h0 huv hyz, hl]
    exact .of_eq rfl
  · exact .rule (.of_eq rfl)
theorem parts_len (x : Str) (cuts : List Nat) (w : Nat) : (partsBetween x cuts w).length = cuts.length + 1 ∧ ((partsBetween x cuts w).map (·.length)).sum ≤ (cuts.length + 1) * x.length := by
  have hl : (partsBetween x cuts w).length = cuts.length + 1 := len_partsBetween x cuts w
  refine ⟨hl, ?_⟩
  have each : ∀ p ∈ partsBetween x cuts w, p.length ≤ x.length := by
    intro p hp
    unfold partsBetween at hp
    obtain ⟨⟨i, j⟩, _, rfl⟩ := List.mem_map.mp hp
    show (strSub x i j).cps.size ≤ _
    have e := StrLaws.strSub_toList x i j
    have e2 := congrArg List.length e
    rw [Array.length_toList, List.length_take, List.length_drop, Array.length_toList] at e2
    rw [e2]
    show min (j - i) (x.cps.size - i) ≤ x.cps.size
    omega
  rw [← hl]
  have gen : ∀ l : List Str, (∀ p ∈ l, p.length ≤ x.length) → (l.map (·.length)).sum ≤ l.length * x.length := by
    intro l
    induction l with
    | nil => intro _; exact Nat.zero_le _
    | cons p r ih =>
      intro each
      rw [List.map_cons, List.sum_cons, List.length_cons, Nat.succ_mul]
      have h1 := ih fun q hq => each q (List.mem_cons_of_mem _ hq)
      have h2 := each p List.mem_cons_self
      omega
  exact gen _ each
/-- x.replace(y, z, 1): a text, not much longer -/
theorem call_repl1 {prog : Program} {w : World} {A : Around} {E : Value → Shared → Prop} {s : Shared} {x y z : Str} {t u v w' : Tok} {Q : Value → Shared → Prop} (hu : u ≠ 0) (hv : v ≠ 0) (huv : u ≠ v) (hyz : (y == z) = false) (hx : x.length ≤ 100000) (hz : z.length ≤ 100)
    (hq : ∀ (o : Str) t' k, o.length ≤ 2 * x.length + 2 * z.length → Q (.str o t') { s with toks := k }) : wpAny (model prog w) A (call (.builtin "str.replace") [.str x t, .str y u, .str z v, .int 1 w']) Q E s := by
  have h1 := StrLaws.occ_length_le x y 0 x.length 1
  have hm : (occurrences x y 0 x.length 1).length * z.length ≤ 1 * z.length := Nat.mul_le_mul_right _ h1
  have hl : tooLong (x.length + (occurrences x y 0 x.length 1).length * z.length) = false := by
    unfold tooLong
    rw [sizeLine_eq]
    exact decide_eq_false (by omega)
  refine call_gives F.slot_str_replace (typeIs_str _ _ _) F.entry_str_replace (F.args_str_replace_4 _ _ _ _) (gives_repl1 x y z t u v w' (by simp [hu, hv]) (by simp [huv]) hyz hl) ?_
  have hlen : (glued z (partsBetween x (occurrences x y 0 x.length 1) y.length)).length ≤ 2 * x.length + 2 * z.length := by
    rw [StrLaws.glued_eq_join]
    have h2 := StrLaws.join_length_le z (partsBetween x (occurrences x y 0 x.length 1) y.length)
    obtain ⟨p1, p2⟩ := parts_len x (occurrences x y 0 x.length 1) y.length
    rw [p1] at h2
    have h3 : ((occurrences x y 0 x.length 1).length + 1) * x.length ≤ 2 * x.length := Nat.mul_le_mul_right _ (by omega)
    have h4 : ((occurrences x y 0 x.length 1).length + 1) * z.length ≤ 2 * z.length := Nat.mul_le_mul_right _ (by omega)
    omega
  split
  · exact hq x t s.toks (by omega)
  · exact ⟨by rw [sizeLine_eq]; omega, hq _ _ _ hlen⟩
end
def wET (X : Cx) (e : Expr) : TE := fun σ H Q => ∀ pins s, 1 ≤ s.toks → Inv X pins σ H s → wpAny (model X.prog X.w) X.A (eval e X.env) (EP X pins σ Q) X.xe s
theorem pet_w {X : Cx} {e : Expr} : PET X e (wET X e) := fun pins s σ H Q h0 I h => h pins s h0 I
def wAT (X : Cx) (es : List Expr) : TA := fun σ H Q => ∀ (pos : Pos) pins s, 1 ≤ s.toks → Inv X pins σ H s → wpAny (model X.prog X.w) X.A (spliced (backTo pos (starEach es X.env))) (AP X pins σ Q) X.xe s
theorem pat_w {X : Cx} {es : List Expr} : PAT X es (wAT X es) := fun pos pins s σ H Q h0 I h => h pos pins s h0 I
def wST (X : Cx) (st : Stmt) : TS := fun D σ H => ∀ pins s, 1 ≤ s.toks → Inv X pins σ H s → wpAny (model X.prog X.w) X.A (exec st X.env) (SP X pins D) X.xe s
def wSsT (X : Cx) (st : List Stmt) : TS := fun D σ H => ∀ pins s, 1 ≤ s.toks → Inv X pins σ H s → wpAny (model X.prog X.w) X.A (execs st X.env) (SP X pins D) X.xe s
theorem pst_w {X : Cx} {st : Stmt} : PST X st (wST X st) := fun pins s σ H D h0 I h => h pins s h0 I
theorem psst_w {X : Cx} {st : List Stmt} : PSsT X st (wSsT X st) := fun pins s σ H D h0 I h => h pins s h0 I
def DET (X : Cx) (xw : DX) (e : Expr) (ds : DEnv) (ms : MS) (kd : DK) : Prop := ∀ F σ H Q W, At X xw F ds σ ms H W → VC X.K F kd Q → wET X e σ H Q
def DAT (X : Cx) (xw : DX) (es : List Expr) (ds : DEnv) (ms : MS) (kd : List D → MS → Prop) : Prop := ∀ F σ H Q W, At X xw F ds σ ms H W → VCs X.K F kd Q → wAT X es σ H Q
def DST (X : Cx) (xw : DX) (st : Stmt) (ds : DEnv) (ms : MS) (E : DEnds) : Prop := ∀ F σ H D W, At X xw F ds σ ms H W → EC X.K F E D → wST X st D σ H
def DSsT (X : Cx) (xw : DX) (st : List Stmt) (ds : DEnv) (ms : MS) (E : DEnds) : Prop := ∀ F σ H D W, At X xw F ds σ ms H W → EC X.K F E D → wSsT X st D σ H
section
variable {X : Cx} {xw : DX} {N : List Str} {k : Nat} {ds : DEnv} {ms : MS} {kd : DK} {E : DEnds} {e : Expr} {es : List Expr} {pos p : Pos} {st : Stmt} {rest : List Stmt}
theorem DE.t (h : DE X xw e ds ms kd) : DET X xw e ds ms kd := fun F σ H Q W A V pins s _ I => h F σ H Q W A V pins s I
theorem DS.t (h : DS X xw st ds ms E) : DST X xw st ds ms E := fun F σ H Q W A V pins s _ I => h F σ H Q W A V pins s I
theorem DSs.t (h : DSs X xw rest ds ms E) : DSsT X xw rest ds ms E := fun F σ H Q W A V pins s _ I => h F σ H Q W A V pins s I
theorem dat_nil {kd : List D → MS → Prop} (q : kd [] ms) : DAT X xw [] ds ms kd := fun F σ H Q W A V pos pins s h0 I => pat_nil pos pins s σ H Q h0 I (V F [] [] ms H (Le.refl F) rfl A.sep q)
theorem dat_cons {kd : List D → MS → Prop} (h : DET X xw e ds ms fun x ms1 => DAT X xw es ds ms1 fun xs ms2 => kd (x :: xs) ms2) (hs : starEach (e :: es) X.env = (false, eval e X.env) :: starEach es X.env) : DAT X xw (e :: es) ds ms kd :=
  fun F σ H Q W A V pos pins s h0 I => pat_cons pet_w pat_w hs pos pins s σ H Q h0 I (h F σ H _ W A fun F1 x d ms1 H1 e1 r1 S1 k1 => k1 F1 σ H1 _ W (A.mv e1 S1) fun F2 xs d2 ms2 H2 e2 r2 S2 k2 =>
    V F2 (x :: xs) (d :: d2) ms2 H2 (e1.trans e2) ⟨x, xs, rfl, r1.mono e2, r2⟩ S2 k2)
theorem det_lst (h : DAT X xw es ds ms fun xs ms1 => xs.length ≤ sizeLine ∧ kd (.lst xs) ms1) : DET X xw (.List es pos) ds ms kd :=
  fun F σ H Q W A V pins s h0 I => pet_lst pat_w pins s σ H Q h0 I (h F σ H _ W A fun F1 xs d ms1 H1 e1 r1 S1 ⟨hl, q⟩ => ⟨by rw [r1.length]; exact hl, fun p hp =>
    V (upd F1 p (.lst xs)) (.ref p) (.lst d) ms1 _ (e1.trans (Le.new (S1.free hp))) ⟨p, xs, rfl, upd_same, r1.mono (Le.new (S1.free hp))⟩ (S1.newF hp) q⟩)
/-- o.replace('y', 'z', 1) -/
theorem det_repl {o : Expr} {y z : Str} {j1 j2 j3 : Nat} {c1 c2 c3 apos : Pos} (h : DE X xw o ds ms fun d ms1 => ∃ x : Str, d = .str x ∧ x.length ≤ 100000 ∧ ∀ z' : Str, z'.length ≤ 2 * x.length + 2 * z.length → kd (.str z') ms1) (hyz : (y == z) = false) (hz : z.length ≤ 100)
    (hbase : attributeBase o "replace" X.env (eval o X.env) = eval o X.env) (hline : (apos.endLine == pos.line) = true)
    (hfew : ((backTo pos (starEach [.Constant (.str y) j1 c1, .Constant (.str z) j2 c2, .Constant (.int 1) j3 c3] X.env)).all (fun x => !x.1) && (backToKw pos (keywordEach [] X.env)).all (fun x => x.1.isSome)
      && decide (([.Constant (.str y) j1 c1, .Constant (.str z) j2 c2, .Constant (.int 1) j3 c3] : List Expr).length + ([] : List Keyword).length + (if ([] : List Keyword).isEmpty then 0 else 1) < 30)) = true)
    (hs1 : starEach [.Constant (.str y) j1 c1, .Constant (.str z) j2 c2, .Constant (.int 1) j3 c3] X.env = [(false, eval (.Constant (.str y) j1 c1) X.env), (false, eval (.Constant (.str z) j2 c2) X.env), (false, eval (.Constant (.int 1) j3 c3) X.env)]) :
    DET X xw (.Call (.Attribute o "replace" apos) [.Constant (.str y) j1 c1, .Constant (.str z) j2 c2, .Constant (.int 1) j3 c3] [] pos) ds ms kd := by
  intro F σ H Q W A V pins s h0 I
  refine wpAny_Call_method_late hbase hfew hline rfl (wpAny_mono (PySem.wpAny_toks (h F σ H (fun v H1 => ∃ x : Str, v = .str x ∧ x.length ≤ 100000 ∧ ∀ z' : Str, z'.length ≤ 2 * x.length + 2 * z.length → Q (.str z') H1) W A (fun F1 v d ms1 H1 e1 r1 S1 ⟨x, ed, hx, q⟩ => ?_) pins s I)) (fun v s1 hq => ?_) fun _ _ z => z.2)
  · subst ed
    cases r1
    exact ⟨x, rfl, hx, fun z' hz' => V F1 (.str z') (.str z') ms1 H1 e1 rfl S1 (q z' hz')⟩
  · obtain ⟨hk, v', H1, I1, r1, x, e1, hx, q⟩ := hq
    subst e1
    obtain ⟨tx, rfl⟩ := r1
    refine ⟨"str", _, PySem.F.plainAttrs_str, PySem.F.slot_str_replace, PySem.F.type_str_replace, typeIs_str _ _ _, (fun _ e => nomatch e), ?_⟩
    rw [hs1]
    refine Calls.callWith_builtin rfl (Calls.evalArgs_plain (Calls.spliced_cons (Calls.Constant_str (k := j1) (pos := c1) (Calls.spliced_cons (Calls.Constant_str (k := j2) (pos := c2) (Calls.spliced_cons ?_))))))
    refine (pe_int (X := X) (i := 1) (j := j3) (pos := c3)).run pins _ σ H1 (fun v H2 => v = .int 1 ∧ H2 = H1) (I1.tok _) ⟨rfl, rfl⟩ |> fun hh => thn hh fun u s2 ⟨w1, H2, I2, r2, ew, eH⟩ => ?_
    subst ew eH
    obtain ⟨tw, rfl⟩ := r2
    refine Calls.spliced_nil ?_
    exact call_repl1 (by show s1.toks ≠ 0; omega) (by show s1.toks + 1 ≠ 0; omega) (by show s1.toks ≠ s1.toks + 1; omega) hyz hx hz fun o t' k hl => ⟨.str o, H2, I2.tok k, ⟨t', rfl⟩, q o hl⟩
/-- [ 'c', .. ]: behind the first item a token is out -/
theorem da_const1 {kd : List D → MS → Prop} {y : Str} {j : Nat} {c1 : Pos} (h : DAT X xw es ds ms fun xs ms2 => kd (.str y :: xs) ms2) (hs : starEach (.Constant (.str y) j c1 :: es) X.env = (false, eval (.Constant (.str y) j c1) X.env) :: starEach es X.env) : DA X xw (.Constant (.str y) j c1 :: es) ds ms kd := by
  intro F σ H Q W A V pos pins s I
  rw [hs]
  show wpAny _ _ (spliced ((false, eval (.Constant (.str y) j c1) X.env) :: backTo pos (starEach es X.env))) _ _ s
  refine Calls.spliced_cons (Calls.Constant_str ?_)
  refine thn (h F σ H (fun vs H2 => Q (.str y :: vs) H2) W A (fun F1 xs d ms1 H1 e1 r1 S1 q => V F1 (.str y :: xs) (.str y :: d) ms1 H1 e1 ⟨_, _, rfl, rfl, r1⟩ S1 q) pos pins _ (by show 1 ≤ s.toks + 1; omega) (I.tok _)) fun us s2 ⟨xs, H2, I2, r2, q2⟩ => ?_
  exact ⟨.str y :: xs, H2, I2, .cons ⟨_, rfl⟩ r2, q2⟩
/-- x = [ 'c', .. ], then the rest with a token out -/
theorem dss_menu (C : Ctx X N k) {x : Str} {i : Nat} {y : Str} {j : Nat} {c1 pos' lpos : Pos} (hi : Ix N x i) (hx : Loc X.env.scope x) (hf : X.fn x = true ∨ X.env.scope.names.lookup x = some .local)
    (h : DAT X xw es ds ms fun xs ms1 => (xs.length + 1 ≤ sizeLine) ∧ ∀ p, ∃ ds', Put ds i (some (.adr p)) ds' ∧ DSsT X xw rest ds' ((p, .lst (.str y :: xs)) :: ms1) E)
    (hs : starEach (.Constant (.str y) j c1 :: es) X.env = (false, eval (.Constant (.str y) j c1) X.env) :: starEach es X.env)
    (hsw : swapsWith (.List (.Constant (.str y) j c1 :: es) lpos) (some (.Name x pos')) pos.line X.env = pure false) :
    DSs X xw (.Assign [.Name x pos'] (.List (.Constant (.str y) j c1 :: es) lpos) pos :: rest) ds ms E := by
  intro F σ H Dd W A V pins s I
  refine wpAny_execs_cons (wpAny_Assign_Name (wpAny_List_spliced ?_) hsw)
  rw [hs]
  show wpAny _ _ (spliced ((false, eval (.Constant (.str y) j c1) X.env) :: backTo lpos (starEach es X.env))) _ _ s
  refine Calls.spliced_cons (Calls.Constant_str ?_)
  have hk : 1 ≤ s.toks + 1 := by omega
  refine wpAny_mono (PySem.wpAny_toks_of (n := 1) hk (h F σ H (fun vs H2 => vs.length + 1 ≤ sizeLine ∧ ∀ p, H2 p = none → wSsT X rest Dd (σ.set i (some (.ref p))) (upd H2 p (.lst (.str y :: vs)))) W A (fun F1 xs d ms1 H1 e1 r1 S1 ⟨hl, q⟩ => ⟨by rw [r1.length]; exact hl, fun p hp => ?_⟩) lpos pins { s with toks := s.toks + 1 } hk (I.tok _))) (fun us s2 hq => ?_) fun _ _ z => z.2
  · obtain ⟨ds', hput, q⟩ := q p
    refine q F1 _ _ Dd W (A.mvE e1 (by rw [hput.eq]; exact (A.sr.mono e1).set i (d := .adr p) rfl) (S1.new (o := .lst (.str y :: d)) hp ⟨_, rfl, ⟨_, _, rfl, rfl, r1⟩⟩)) (V.mono e1)
  · obtain ⟨h1, xs, H2, I2, r2, hl, q2⟩ := hq
    have hfr : H2 s2.heap.objs.size = none := I2.hok.fresh (Nat.le_refl _)
    have rr : Vals (.str y :: xs) (.str y s.toks :: us) := .cons ⟨_, rfl⟩ r2
    refine ⟨by rw [← rr.length]; exact hl, ?_⟩
    have J : Inv X pins σ (upd H2 s2.heap.objs.size (.lst (.str y :: xs))) { s2 with heap := s2.heap.push { cls := .type "list", data := .seq (Value.str y s.toks :: us).toArray } } :=
      I2.laid (t' := s2.toks) (fun b u e => Heap.get?_push_of_some _ e) (Nat.le_refl _) ⟨hl, _, 0, rr, Heap.get?_push_size _ rfl⟩
    refine wpAny_mono (PySem.wpAny_toks_of (n := 1) (by exact h1) (store_ok (v := L2.V.ref s2.heap.objs.size) (u := Value.ref s2.heap.objs.size) (Q := fun _ s3 => Inv X pins (σ.set i (some (L2.V.ref s2.heap.objs.size))) _ s3) J C.ndX (C.ix hi) hx rfl (fun _ I3 => I3) hf)) (fun _ s3 q => ?_) fun _ _ z => z.2
    exact q2 _ hfr pins s3 q.1 q.2
theorem dssT_nil (q : E.nx ds ms) : DSsT X xw [] ds ms E := (dss_nil q).t
theorem dssT_cons (h : DST X xw st ds ms { E with nx := fun ds1 ms1 => DSsT X xw rest ds1 ms1 E }) : DSsT X xw (st :: rest) ds ms E := fun F σ H D W A V pins s h0 I =>
  psst_cons pst_w psst_w pins s σ H D h0 I (h F σ H { D with nx := wSsT X rest D } W A ⟨fun F1 ds1 σ1 ms1 H1 e1 sr1 S1 k1 => k1 F1 σ1 H1 D W (A.mvE e1 sr1 S1) (V.mono e1), V.rt, V.bk, V.ct⟩)
/-- o.m(es), a token out -/
theorem dst_m {T id : String} {name : Str} {o : Expr} {apos cpos spos : Pos} (pa : PlainAttrs T) (slot : Slot T name id) (hty : typeOf (.builtin id) = pure (.type "method_descriptor"))
    (h : DE X xw o ds ms fun x ms1 => TyD ms1 T x ∧ DAT X xw (e :: es) ds ms1 fun xs ms2 => MtD X id x xs ms2 fun _ ms3 => E.nx ds ms3)
    (hbase : attributeBase o name X.env (eval o X.env) = eval o X.env)
    (hfew : ((backTo cpos (starEach (e :: es) X.env)).all (fun x => !x.1) && (backToKw cpos (keywordEach [] X.env)).all (fun x => x.1.isSome)
      && decide ((e :: es).length + ([] : List Keyword).length + (if ([] : List Keyword).isEmpty then 0 else 1) < 30)) = true)
    (hline : (apos.endLine == cpos.line) = true) (hs : starEach (e :: es) X.env = (false, eval e X.env) :: starEach es X.env) (hplain : (backTo cpos (starEach es X.env)).any (·.1) = false)
    (hsw : swapsWith (.Call (.Attribute o name apos) (e :: es) [] cpos) none spos.line X.env = pure false) : DST X xw (.Expr (.Call (.Attribute o name apos) (e :: es) [] cpos) spos) ds ms E := by
  intro F σ H Dd W A V pins s h0 I
  refine wpAny_Expr_any ?_ I.quiet hsw
  refine wpAny_Call_method_late hbase hfew hline rfl (wpAny_mono (PySem.wpAny_toks (h F σ H (fun v H1 => tyV X.K T v H1 ∧ wAT X (e :: es) σ H1 fun vs H2 => wM X id v vs H2 fun _ H3 => Dd.nx σ H3) W A (fun F1 x d ms1 H1 e1 r1 S1 ⟨ht, k1⟩ => ⟨ht.tyV r1 S1, k1 F1 σ H1 _ W (A.mv e1 S1) fun F2 xs d2 ms2 H2 e2 r2 S2 k2 => k2 F2 x xs H2 _ (r1.mono e2) r2 S2 fun F3 v3 d3 ms3 H3 e3 r3 S3 q => V.nx F3 ds σ ms3 H3 ((e1.trans e2).trans e3) (A.sr.mono ((e1.trans e2).trans e3)) S3 q⟩) pins s I)) (fun v s1 hq => ?_) fun _ _ z => z.2)
  obtain ⟨hk, x, H1, I1, r1, ty, q1⟩ := hq
  obtain ⟨h1, h2⟩ := tyV_is I1 r1 ty
  refine ⟨T, id, pa, slot, hty, h1, h2, ?_⟩
  have hA := q1 cpos pins s1 (Nat.le_trans h0 hk) I1
  rw [hs] at hA ⊢
  refine Calls.callWith_builtin (by show (false || (backTo cpos (starEach es X.env)).any (·.1)) = false; rw [hplain] <;> rfl) (Calls.evalArgs_plain ?_)
  exact thn hA fun us s2 ⟨vs, H2, I2, r2, q2⟩ => thn (q2 pins s2 σ v us I2 r1 r2) fun u s3 ⟨y, H3, I3, r3, q3⟩ => ⟨σ, H3, I3, q3⟩
end
/-- a text that is made of a text and some draws: not much longer -/
def spTxt (b j : Nat) : DSp := fun vs ms kd _ => ∃ p z n ms0, vs = [.adr p, .str z] ∧ ms = (p, poolM n) :: ms0 ∧ n + j < 2 ^ 30 ∧ z.length ≤ 20000 ∧ ∀ z' : Str, z'.length ≤ 3 * z.length + b → kd (.str z') ((p, poolM (n + j)) :: ms0)
end DL

/-! DL10: the end of a law whose defs are promised where no repr runs around. -/
namespace DL
open PySem PySem.Spec PyProof.Rows L2 PySem.W
/-- what is tracked at the law's call: the script, where it is none of the module's own objects -/
def scrH (K : Frag) (a : Addr) (o : Obj) (xs : List V) : Hp := fun b => if b = a ∧ K.lookup a = none then some (.frz o (.lst xs)) else none
theorem scrH_or (K : Frag) (a : Addr) (o : Obj) (xs : List V) (b : Addr) : scrH K a o xs b = none ∨ (b = a ∧ K.lookup a = none ∧ scrH K a o xs b = some (.frz o (.lst xs))) := by
  unfold scrH
  by_cases h : b = a ∧ K.lookup a = none
  · exact .inr ⟨h.1, h.2, if_pos h⟩
  · exact .inl (if_neg h)
theorem end_of_call {P : Program} {w : World} {K : Frag} {mg mb : Str → Option Value} {CX : CXT} {k : Nat} {fa a : Addr} {fd : FuncData} {x : Str} {sp : Sp} {s : Shared} {vs : List Value} {ns : List Int}
    (top : K.In s.heap ∧ s.heap.Ns mainGlobals mg ∧ s.heap.Ns builtinsNs mb ∧ (∀ y : Str, y ≠ "__name__" → mb y = bootBuiltins y) ∧ s.heap.NoLimit ∧ s.gens = #[])
    (script : s.heap.get? a = some { cls := .type "list", data := .seq vs.toArray } ∧ IntsAre vs ns ∧ ns.length ≤ sizeLine) (room : Room k callerA)
    (F : ∀ base : Heap, K.In base → base.Ns mainGlobals mg → FnOkG P w K mg base CX k fa fd [x] sp) (bind : ∀ (t : Shared) (u : Value), BindsTo t fd ⟨[u], []⟩ [(x, u)])
    (law : ∀ H : Hp, Only H → SqL K H a (ns.map V.int) → sp [.ref a] H (fun v _ => v = .bl true) fun _ _ _ => False)
    (quiet : ∀ H e s', CX [] H s (fun _ _ _ => False) e s' → False) :
    codeAny (model P w) callerA (.call (.ref fa) ⟨[.ref a], []⟩) (fun r s' => r = .ok (.ret (.bool true)) ∧ OldK s.heap s'.heap ∧ s'.os = s.os ∧ AllBare s'.gens) s := by
  obtain ⟨kin, glob, blt, bltn, nolim, gens⟩ := top
  obtain ⟨ha, hits, len⟩ := script
  have rel := vals_ints hits
  let o : Obj := { cls := .type "list", data := .seq vs.toArray }
  let H : Hp := scrH K a o (ns.map V.int)
  have two : ∀ b, H b = none ∨ (b = a ∧ K.lookup a = none ∧ H b = some (.frz o (.lst (ns.map V.int)))) := scrH_or K a o (ns.map V.int)
  have off : ∀ {b : Addr} {p : Obj}, s.heap.get? b = some p → p ≠ o → H b = none := fun {b p} e n => by
    rcases two b with h | ⟨rfl, _, _⟩
    · exact h
    · rw [ha] at e
      exact absurd (Option.some.inj e).symm n
  have hid : ∀ {b : Addr} {m : Str → Option Value}, s.heap.Ns b m → (hidT s.heap H).Ns b m := fun {b m} h => by
    obtain ⟨p, es, ep, e, d, r⟩ := h
    exact ⟨p, es, ep, hidT_get e (off e fun z => by rw [z] at d; cases d), d, r⟩
  have hok : HOk P w H s.heap := fun b u e => by
    rcases two b with h | ⟨rfl, _, h⟩
    · rw [h] at e; cases e
    · rw [h] at e
      cases e
      exact ⟨ha, by rw [List.length_map]; exact len, vs, _, rel, ha⟩
  have only : Only H := fun b => (two b).imp id fun h => ⟨o, ns.map V.int, h.2.2⟩
  have told : SqL K H a (ns.map V.int) := by
    cases e : K.lookup a with
    | none => exact .inl (.inr ⟨o, show scrH K a o (ns.map V.int) a = _ from if_pos ⟨rfl, e⟩⟩)
    | some p =>
      have e' := kin a p e
      rw [ha] at e'
      cases e'
      exact .inr ⟨o, vs.toArray, _, e, rfl, rfl, rfl, by rw [List.size_toArray, hits.length]; exact len, by simpa using rel⟩
  have kinB : K.In (hidT s.heap H) := fun b p e => hidT_get (kin b p e) (by
    rcases two b with h | ⟨rfl, h, _⟩
    · exact h
    · rw [h] at e; cases e)
  have M : Mod K mg (hidT s.heap H) := ⟨kinB, hid glob, ⟨mb, hid blt, bltn⟩, by obtain ⟨mc, h1, h2⟩ := nolim; exact ⟨mc, hid h1, h2⟩⟩
  have env : Env0 P w K mg (hidT s.heap H) callerA [] s H := ⟨rfl, M, fun b p e => of_hidT e, Nat.le_of_eq (hidT_size _ _), trivial, fun b z => (by cases z), hok, .of_eq gens⟩
  refine codeAny_mono ((F _ kinB (hid glob)).run callerA [] s H ⟨[.ref a], []⟩ [.ref a] [.ref a] _ _ room rfl env (bind s (.ref a)) (.cons rfl .nil) (law H only told)) fun r s' h => ?_
  match r, h with
  | .error e, h => exact (quiet H e s' h).elim
  | .ok .next, h => exact False.elim h
  | .ok .brk, h => exact False.elim h
  | .ok .cont, h => exact False.elim h
  | .ok (.ret u), ⟨v, H', os, bare, un, hok', rv, q⟩ =>
    subst q
    obtain rfl : u = Value.bool true := rv
    refine ⟨rfl, OldK.of_keep fun b p e => ?_, os, bare⟩
    rcases two b with h | ⟨rfl, _, h⟩
    · exact un.keep b p e h (fun z => by cases z) (by simp)
    · obtain ⟨e1, _⟩ := hok b _ h
      obtain ⟨e2, _⟩ := hok' b _ (un.frzs b o _ h)
      rw [e] at e1
      cases e1
      exact e2
theorem walk_ofG {l : OpenLaw} {n k : Nat} {q : Program} {loose : List Str} {XP : (Str → Option Value) → Heap → Prop} {YP : World → Heap → Prop} {d : DefRec} {K : Params → Frag} {CX : World → CXT} {sp : World → Sp} {x : Str}
    (hn : l.most = some n) (hn2 : n ≤ sizeLine) (hdf : d.params.defaults = []) (hr : Room k callerA) (hY : ∀ (w : World) (h : Heap), YP w h → (K w.params).In h)
    (F : ∀ (w : World) (mg : Str → Option Value) (fa : Addr) (h : Heap), (K w.params).In h → h.Ns mainGlobals mg → mg d.name = some (.ref fa) →
      ∃ fd : FuncData, (∀ (s : Shared) (u : Value), BindsTo s fd ⟨[u], []⟩ [(x, u)]) ∧ ∀ base : Heap, (K w.params).In base → base.Ns mainGlobals mg → FnOkG l.prog w (K w.params) mg base (CX w) k fa fd [x] (sp w))
    (law : ∀ (w : World) (H : Hp) (a : Addr) (ns : List Int), ns.length ≤ n → Only H → SqL (K w.params) H a (ns.map V.int) → sp w [.ref a] H (fun v _ => v = .bl true) fun _ _ _ => False)
    (quiet : ∀ (w : World) (H : Hp) (s : Shared) (e : Value) (s' : Shared), CX w [] H s (fun _ _ _ => False) e s' → False) : WalkO q loose XP YP l.row.toRowW d [] (fun f vs => PySem.call f vs) := by
  refine Att.attach_call hn hdf fun w s₀ s₁ mg mb fa o pm cd doc a vs ns G Y ho hd hcd hmg hobj hints hlen hg => ?_
  obtain ⟨fd, hb, hF⟩ := F w mg fa _ (hY w _ Y) G.T.g hmg
  exact end_of_call ⟨hY w _ Y, G.T.g, G.T.b, G.T.builtins, G.T.nolimit, hg⟩ ⟨hobj, hints, Nat.le_trans hlen hn2⟩ hr hF hb (fun H => law w H a ns hlen) fun H e s' => quiet w H s₁ e s'
/-- a law's promise on data, from the script -/
theorem toSp_script {K : Frag} {S : DSp} {H : Hp} {a : Addr} {ns : List Int} (h : SqL K H a (ns.map V.int)) (q : S [.scr ns] [] (fun d _ => d = .bl true) (fun _ _ _ => False)) : toSp K S [.ref a] H (fun v _ => v = .bl true) fun _ _ _ => False :=
  ⟨H, [.scr ns], [], fun d _ => d = .bl true, fun _ _ _ => False, ⟨.ref a, [], rfl, ⟨a, rfl, h⟩, rfl⟩, ⟨fun _ _ e => e, fun p hp => (by cases hp), List.nodup_nil⟩, q, fun F' v d ms' H' e r S' z => by subst z; exact r, fun _ _ _ _ _ _ _ _ _ _ _ z => z⟩
theorem quietL {P : Program} {w : World} (H : Hp) (s : Shared) (e : Value) (s' : Shared) (h : L2.CX P w [] H s (fun _ _ _ => False) e s') : False := by
  obtain ⟨_, _, _, _, _, _, _, _, _, _, _, _, z⟩ := h
  exact z.elim
/-- an error of its own class is what «except» names -/
theorem exm_own {K : Frag} {S : Addr} (h1 : subIn K (.ref S) (.type "BaseException") = some true) (h2 : hasDictIn K S = true) (h3 : typeIn K (.ref S) = some (.type "type")) (h4 : subIn K (.ref S) (.ref S) = some true) : exmOne K (.ref S) (.ref S) = some true := exm_ref h1 h2 h3 h4
theorem kw_one {K : Frag} {x qual : Str} {st : Stmt} {f : Addr} {fd : FuncData} {p : Str} (F : Fun K x qual st f fd)
    (h : ∀ (kV doc pm : Value) (an : Option Addr) (cdv ct u : Value), bindArgs (fnOf x qual (defArgs st) (defBody st) (defScope st) .none kV doc pm an cdv ct) ⟨[], [(p, u)]⟩ = pure [(p, u)]) : KwB K fd [p] [p] := by
  obtain ⟨oc, od, kV, doc, pm, an, cdv, ct, osl, rfl, lk, hcd⟩ := F.ex
  intro s us ws _ h1 h2
  match ws, h1 with
  | [u], _ =>
    match us, h2 with
    | [], _ => exact .of_eq (h kV doc pm an cdv ct u)
    | _ :: _, h2 => exact absurd h2 (by simp)
end DL

/-! DL11: list.insert. -/
namespace DL
open PySem PySem.Spec PyProof.Rows L2
section
variable {X : Cx} {N : List Str} {k : Nat} {ms : MS} {kd : D → MS → Prop}
theorem mtd_insert {p : Addr} {i n : Nat} {xs : List D} {y : D} {ms' : MS} (hm : Ms ms i p (.lst xs)) (hp : MPut ms i (.lst (xs.take n ++ [y] ++ xs.drop n)) ms') (hl : xs.length < sizeLine) (hn : n ≤ xs.length) (q : kd .non ms') : MtD X "list.insert" (.adr p) [.int n, y] ms kd := .of mt_insert fun F v vs H Q rx rv S V => by
  obtain ⟨u1, u2, rfl, r1, r2⟩ := rv.inv2
  obtain ⟨_, w, h1, us, rfl, h2⟩ := S.get hm.at
  obtain ⟨a, o, h3, rfl⟩ := hp.eq
  rw [hm.at] at h3
  cases h3
  have hz : xs.length < 2 ^ 24 + 1 := by rw [sizeLine_eq] at hl; omega
  exact ⟨p, us, n, u2, rx, by rw [show u1 = .int n from r1], h1, by rw [h2.length]; exact hl, by omega, by omega, V F .non .non _ _ (Le.refl F) rfl (S.set (o' := .lst _) hm.at ⟨us.take n ++ [u2] ++ us.drop n, rfl, ((h2.take n).append (RepL.one r2)).append (h2.drop n)⟩) q⟩
/-! a dict written out, its keys and values whole numbers -/
inductive IntD : List (Option Expr) → List Expr → List (Int × Int) → Prop
  | nil : IntD [] [] []
  | cons {i n : Int} {j j' p p'} {ks : List (Option Expr)} {vs : List Expr} {kv : List (Int × Int)} (r : IntD ks vs kv) : IntD (some (.Constant (.int i) j p) :: ks) (.Constant (.int n) j' p' :: vs) ((i, n) :: kv)
def intV (kv : List (Int × Int)) : List (Key × V) := kv.map fun p => (Sum.inl p.1, V.int p.2)
def intD (kv : List (Int × Int)) : List (Key × D) := kv.map fun p => (Sum.inl p.1, D.int p.2)
theorem repK_int {K : PySem.W.Frag} {F : Hp} : ∀ kv : List (Int × Int), RepK K F (intD kv) (intV kv)
  | [] => rfl
  | _ :: r => ⟨_, _, rfl, rfl, repK_int r⟩
theorem IntD.run {pos : Pos} {keys : List (Option Expr)} {values : List Expr} {kv : List (Int × Int)} (h : IntD keys values kv) :
    ∃ trs, PPs X pos keys values trs ∧ (∀ σ H (Q : List (V × V) → Hp → Prop), Q ((intV kv).map fun q => (kV q.1, q.2)) H → tPairs trs σ H Q) ∧ keys.all (·.isSome) = true ∧ keys.length = values.length := by
  induction h with
  | nil => exact ⟨[], pps_nil, fun _ _ _ q => q, rfl, rfl⟩
  | cons r ih =>
    obtain ⟨trs, h1, h2, h3, h4⟩ := ih
    refine ⟨_ :: trs, pps_cons pe_int pe_int h1, fun σ H Q q => h2 σ H _ q, ?_, ?_⟩
    · rw [List.all_cons, h3]; rfl
    · rw [List.length_cons, List.length_cons, h4]
theorem upd_twice {H : Hp} {p : Addr} {o u : HO} : upd (upd H p o) p u = upd H p u := by
  funext a
  by_cases e : a = p
  · subst e; rw [upd_same, upd_same]
  · rw [upd_ne e, upd_ne e, upd_ne e]
variable {xw : DX} {ds : DEnv}
theorem de_dicIM {pos : Pos} {keys : List (Option Expr)} {values : List Expr} {kv : List (Int × Int)} (h : IntD keys values kv) (h0 : keys ≠ []) (h15 : keys.length ≤ 15) (hl : (intV kv).length ≤ 15) (hm : mergeK [] (intV kv) = intV kv) (q : ∀ p, kd (.adr p) ((p, .dic (intD kv)) :: ms)) :
    DE X xw (.Dict keys values pos) ds ms kd := by
  obtain ⟨trs, h1, h2, h3, h4⟩ := h.run (X := X) (pos := pos)
  exact .of (pe_disp h1 h3 h4 h0 h15) fun F σ H Q W A V p hp => h2 σ _ _ ⟨upd_same, intV kv, rfl, hl, by
    rw [hm, upd_twice]
    exact V F (.ref p) (.adr p) _ _ (Le.refl F) rfl (A.sep.new (o := .dic (intD kv)) hp ⟨_, rfl, repK_int kv⟩) (q p)⟩
theorem de_dicI {pos : Pos} {keys : List (Option Expr)} {values : List Expr} {kv : List (Int × Int)} (h : IntD keys values kv) (h0 : keys ≠ []) (h15 : keys.length ≤ 15) (hl : (intV kv).length ≤ 15) (hm : mergeK [] (intV kv) = intV kv) (q : kd (.dic (intD kv)) ms) :
    DE X xw (.Dict keys values pos) ds ms kd := de_freezeD (de_dicIM h h0 h15 hl hm fun p => ⟨p, 0, _, _, rfl, .z, .z, q⟩)
end
end DL

/-! DL12: sorted(d.items()), keys and values whole numbers. -/
namespace DL
open PySem PySem.Spec PyProof.Rows L2 L2.DX
section
variable {X : Cx}
theorem mt_itemsI : MtR X "dict.items" (fun x xs H Q => ∃ (a : Addr) (kvs : List (Key × V)), x = .ref a ∧ xs = [] ∧ H a = some (.dK kvs) ∧ ∀ p, H p = none → Q (.ref p) (upd H p (itemsO p a))) := by
  intro pins s σ H x xs v us Q I rx rr h
  obtain ⟨a, kvs, e1, e2, ha, q⟩ := h
  subst e1; subst e2; cases rx; cases rr
  obtain ⟨_, hd, vs, _, o, es, ep, ho, hx, hdat, _⟩ := dk_of I.hok ha
  refine DT.callItems (es := es) (ep := ep) hd ⟨o, ho, hx, hdat⟩ ⟨.ref _, upd H s.heap.objs.size (itemsO s.heap.objs.size a), ?_, rfl, q _ (I.hok.fresh (Nat.le_refl _))⟩
  exact I.laid (t' := s.toks) (fun b u e => Heap.get?_push_of_some _ e) (Nat.le_refl _) (itemsO_ok (Heap.get?_push_size _ rfl))
/-- tuples of two numbers laid one by one -/
def layT (H : Hp) : List (Addr × Int × Int) → Hp
  | [] => H
  | z :: r => upd (layT H r) z.1 (.tup [.int z.2.1, .int z.2.2])
theorem layT_off : ∀ {ps : List (Addr × Int × Int)} {H : Hp} {b : Addr}, (∀ z ∈ ps, z.1 ≠ b) → layT H ps b = H b
  | [], _, _, _ => rfl
  | z :: r, H, b, h => by
    show upd _ _ _ b = _
    rw [upd_ne (fun e => h z List.mem_cons_self e.symm)]
    exact layT_off fun y hy => h y (List.mem_cons_of_mem _ hy)
theorem layT_inv {pins : List (Addr × Obj)} {σ : L2.St} {s0 s : Shared} {H0 : Hp} (I0 : Inv X pins σ H0 s0) {h' : Heap} {tk : Nat} : ∀ {ps : List (Addr × Int × Int)} {H : Hp}, Inv X pins σ H { s with heap := h', toks := tk } → (ps.map (·.1)).Nodup →
    (∀ z ∈ ps, s0.heap.objs.size ≤ z.1 ∧ H z.1 = none ∧ H0 z.1 = none ∧ ∃ o t u n, h'.get? z.1 = some o ∧ o.cls = .type "tuple" ∧ o.data = .seq #[.int z.2.1 t, .int z.2.2 u] n) → Inv X pins σ (layT H ps) { s with heap := h', toks := tk }
  | [], _, I, _, _ => I
  | z :: r, H, I, nd, h => by
    rw [List.map_cons, List.nodup_cons] at nd
    have I1 := layT_inv I0 I nd.2 fun y hy => h y (List.mem_cons_of_mem _ hy)
    obtain ⟨a1, a2, a3, o, t, u, n, g1, g2, g3⟩ := h z List.mem_cons_self
    have off : layT H r z.1 = none := by
      rw [layT_off fun y hy e => nd.1 (by rw [← e]; exact List.mem_map_of_mem hy)]
      exact a2
    exact I1.take (h' := h') (t' := tk) (fun b ob _ e => e) (I0.fpOk a1 off) ⟨by rw [sizeLine_eq]; show 2 ≤ 16777216; decide, [_, _], .cons ⟨t, rfl⟩ (.cons ⟨u, rfl⟩ .nil), o, g1, g2, n, g3⟩
def kkD (zs : List (Addr × Int × Int)) (v : Value) : Int × Int := match v with
  | .ref b => ((zs.find? fun z => z.1 == b).map (·.2)).getD (0, 0)
  | _ => (0, 0)
theorem kkD_at : ∀ {zs : List (Addr × Int × Int)}, (zs.map (·.1)).Nodup → ∀ {z}, z ∈ zs → kkD zs (.ref z.1) = z.2
  | [], _, _, h => by cases h
  | y :: r, nd, z, h => by
    rw [List.map_cons, List.nodup_cons] at nd
    show (((y :: r).find? fun x => x.1 == z.1).map (·.2)).getD (0, 0) = z.2
    rcases List.mem_cons.mp h with e | h
    · subst e
      rw [List.find?_cons_of_pos (by simp)]; rfl
    · have ne : ¬ (y.1 == z.1) = true := fun e => nd.1 (by rw [beq_iff_eq.mp e]; exact List.mem_map_of_mem h)
      rw [List.find?_cons_of_neg (p := fun x : Addr × Int × Int => x.1 == z.1) ne]
      exact kkD_at nd.2 h
theorem ent_at {P : Program} {w : World} : ∀ {es : List DictEntry} {vs : List (Key × Value)} {kv : List (Int × Int)}, Pairs (mixKind P w) es vs → KV (intV kv) vs → ∀ (j : Nat) (z : Int × Int) (e : DictEntry), kv[j]? = some z → es[j]? = some e →
    ∃ t u, e.key = .int z.1 t ∧ e.val = .int z.2 u
  | _, _, [], _, _, j, z, e, h, _ => by simp at h
  | _, _, y :: kv, p, r, j, z, e, h, g => by
    have r' : KV ((Sum.inl y.1, V.int y.2) :: intV kv) _ := r
    cases p with
    | nil => cases r'
    | cons k1 k2 p =>
      cases r' with
      | cons a1 a2 =>
        cases j with
        | zero =>
          simp at h g
          subst h; subst g
          obtain ⟨b1, b2⟩ := a1
          rw [← b1] at k1
          obtain ⟨t, e1⟩ := Value.isInt_shape (k := y.1) k1
          obtain ⟨u, e2⟩ := (show ∃ u, _ = Value.int y.2 u from b2)
          exact ⟨t, u, e1, by rw [k2]; exact e2⟩
        | succ j => exact ent_at p a2 j z e (by simpa using h) (by simpa using g)
theorem kv_len : ∀ {kv : List (Int × Int)} {vs : List (Key × Value)}, KV (intV kv) vs → kv.length = vs.length := fun {kv vs} h => by
  have e := Paired.length h
  rw [intV, List.length_map] at e
  exact e
def rSortItI : List V → Hp → VK → Prop := fun xs H Q => ∃ (p a : Addr) (kv : List (Int × Int)), xs = [.ref p] ∧ H p = some (itemsO p a) ∧ Rd H a (.dK (intV kv)) ∧
  ∀ (l : Addr) (ps : List (Addr × Int × Int)), H l = none → (ps.map (·.1)).Nodup → (∀ z ∈ ps, H z.1 = none ∧ z.1 ≠ l) → (ps.map (·.2)).Perm kv → (ps.map (·.2)).Pairwise (fun e f => e.1 ≤ f.1) → Q (.ref l) (layT (upd H l (.lst (ps.map fun z => V.ref z.1))) ps)
theorem cr_sortedItemsI (hc : X.calm = true) : CallR X (.builtin "sorted") rSortItI := by
  intro pins s σ H xs us Q I r h
  obtain ⟨p, a, kv, e1, hp, ha, q⟩ := h
  subst e1
  obtain rfl := Vals.ref1 r
  have view : s.heap.IsItemsView p a := (show ObjOk X.prog X.w H s.heap p (itemsO p a) from I.hok p _ hp).1
  obtain ⟨hz, hd, vs, rel, o, es, ep, ho, hx, hdat, _, hps, _⟩ := dk_rd I.hok ha
  have l1 := kv_len rel
  have l2 : es.size = vs.length := by rw [← Array.length_toList]; exact Pairs.length hps
  have l3 : kv.length ≤ sizeLine := by rw [intV, List.length_map] at hz; exact hz
  refine DT.sortedI (es := es) (ep := ep) (I.ok.hd hc) view ⟨o, ho, hx, hdat⟩ (by omega) fun h1 tk as hk hlt hl hG => ?_
  have lak : as.length = kv.length := by omega
  have nd : as.Nodup := hG.rise.imp fun {x y} h => Nat.ne_of_lt h
  have z1 : (as.zip kv).map (·.1) = as := List.map_fst_zip (by omega)
  have z2 : (as.zip kv).map (·.2) = kv := List.map_snd_zip (by omega)
  generalize hzs : as.zip kv = zs at z1 z2
  have tup : ∀ z ∈ zs, s.heap.objs.size < z.1 ∧ ∃ t u, h1.get? z.1 = some { cls := .type "tuple", data := .seq #[.int z.2.1 t, .int z.2.2 u] } := by
    intro z m
    rw [← hzs] at m
    obtain ⟨j, hj⟩ := List.mem_iff_getElem?.mp m
    obtain ⟨j1, j2⟩ := List.getElem?_zip_eq_some.mp hj
    obtain ⟨e, g1, g2⟩ := hG.pairs j z.1 j1
    obtain ⟨t, u, k1, k2⟩ := ent_at hps rel j z.2 e j2 (by rw [Array.getElem?_toList]; exact g1)
    exact ⟨hG.above _ (List.mem_of_getElem? j1), t, u, by rw [g2, k1, k2]⟩
  have nz : (zs.map (·.1)).Nodup := by rw [z1]; exact nd
  have am : as.map Value.ref = zs.map fun z => Value.ref z.1 := by rw [← z1, List.map_map]; rfl
  have hob : (h1.push { cls := .type "list", data := .seq (as.map Value.ref).toArray }).get? h1.objs.size = some (seqObj "list" (as.map Value.ref).toArray 0) := Heap.get?_push_size _ rfl
  have up1 : ∀ b o, h1.get? b = some o → (h1.push { cls := .type "list", data := .seq (as.map Value.ref).toArray }).get? b = some o := fun b o e => Heap.get?_push_of_some _ e
  have off1 : ∀ b o, h1.get? b = some o → b ≠ h1.objs.size := fun b o e => Nat.ne_of_lt (Heap.lt_size e)
  generalize h1.push { cls := .type "list", data := .seq (as.map Value.ref).toArray } = h2 at hob up1 ⊢
  have isp : ∀ v ∈ as.map Value.ref, Srt.IsPair h2 v (kkD zs v).1 (kkD zs v).2 := by
    intro v m
    rw [am] at m
    obtain ⟨z, mz, rfl⟩ := List.mem_map.mp m
    obtain ⟨_, t, u, g⟩ := tup z mz
    rw [kkD_at nz mz]
    exact ⟨z.1, _, t, u, 0, rfl, up1 _ _ g, rfl, rfl⟩
  refine wpAny_call_entry PyProof.Rows.slot_list_sort ⟨_, hob, rfl⟩ PyProof.Rows.entry_list_sort (SrtO.list_sort_ord (s := { s with heap := h2, toks := tk }) (SrtO.swo_lex (kkD zs)) hob (by rw [List.length_map]; omega) (fun h => SrtO.pairs_sortableO (by omega) isp fun o e c => ?_) fun out o1 o2 => ⟨.none, rfl, ?_⟩) (PyProof.Rows.args_list_sort _)
  · have e' : some o = some (seqObj "list" (as.map Value.ref).toArray 0) := e.symm.trans hob
    cases e'
    exact absurd (Value.type.inj c) (by decide)
  · show EP X pins σ Q (.ref h1.objs.size) { s with heap := sortedHeap h2 h1.objs.size (as.map Value.ref) out.toArray, toks := tk }
    obtain ⟨ps, pz, ez⟩ := perm_lift (fun z : Addr × Int × Int => Value.ref z.1) o2.perm zs am.symm
    obtain ⟨ef, hf⟩ := PyProof.Rows.sortedHeap_at (vs := as.map Value.ref) (out := out.toArray) hob
    have np : (ps.map (·.1)).Nodup := (pz.map (·.1)).nodup_iff.mpr nz
    have old : ∀ b u, h1.get? b = some u → (sortedHeap h2 h1.objs.size (as.map Value.ref) out.toArray).get? b = some u := fun b u e =>
      (PyProof.Rows.sortedHeap_old (off1 b u e) (Heap.lt_size (up1 b u e))).trans (up1 b u e)
    have hl0 : H h1.objs.size = none := I.hok.fresh (Nat.le_of_lt hlt)
    have J : Inv X pins σ H { s with heap := sortedHeap h2 h1.objs.size (as.map Value.ref) out.toArray, toks := tk } := I.kept (t' := tk) fun b u e => old b u (hk b u e)
    have pl : ps.length = kv.length := by rw [pz.length_eq, ← z2, List.length_map]
    have J2 : Inv X pins σ (upd H h1.objs.size (.lst (ps.map fun z => V.ref z.1))) { s with heap := sortedHeap h2 h1.objs.size (as.map Value.ref) out.toArray, toks := tk } :=
      J.take (h' := sortedHeap h2 h1.objs.size (as.map Value.ref) out.toArray) (t' := tk) (fun b u _ e => e) (I.fpOk (Nat.le_of_lt hlt) hl0) ⟨by rw [List.length_map]; omega, out, ef, by rw [← ez]; exact vals_maps (fun z : Addr × Int × Int => V.ref z.1) (fun z => Value.ref z.1) ps fun _ _ => rfl, hf⟩
    have mem : ∀ z ∈ ps, s.heap.objs.size < z.1 ∧ ∃ t u, h1.get? z.1 = some { cls := .type "tuple", data := .seq #[.int z.2.1 t, .int z.2.2 u] } := fun z m => tup z (pz.mem_iff.mp m)
    have ne1 : ∀ z ∈ ps, z.1 ≠ h1.objs.size := fun z m => let ⟨_, t, u, g⟩ := mem z m; off1 _ _ g
    have J3 := layT_inv I J2 np fun z m => by
      obtain ⟨g0, t, u, g⟩ := mem z m
      have hn := I.hok.fresh (Nat.le_of_lt g0)
      exact ⟨Nat.le_of_lt g0, by rw [upd_ne (ne1 z m)]; exact hn, hn, _, t, u, 0, old _ _ g, rfl, rfl⟩
    refine ⟨.ref h1.objs.size, _, J3, rfl, q h1.objs.size ps hl0 np (fun z m => ⟨I.hok.fresh (Nat.le_of_lt (mem z m).1), ne1 z m⟩) (by rw [← z2]; exact pz.map (·.2)) ?_⟩
    rw [← ez, SrtO.Srtd, List.pairwise_map] at o1
    rw [List.pairwise_map]
    refine List.Pairwise.imp_of_mem (fun {x y} hx hy h => ?_) o1
    rw [kkD_at nz (pz.mem_iff.mp hx), kkD_at nz (pz.mem_iff.mp hy)] at h
    have := SrtO.lexB_no.mp h
    omega
end
end DL

/-! DL13: d.items() and sorted of it, on data. -/
namespace DL
open PySem PySem.Spec PyProof.Rows L2 L2.DX
section
variable {X : Cx} {N : List Str} {k : Nat} {ms : MS} {kd : DK}
theorem mtd_items {p : Addr} {i : Nat} {kvs : List (Key × D)} (hm : Ms ms i p (.dic kvs)) (q : ∀ r, kd (.adr r) ((r, .oth (itemsO r p)) :: ms)) : MtD X "dict.items" (.adr p) [] ms kd := .of mt_itemsI fun F v vs H Q rx rv S V => by
  obtain ⟨_, w, h1, us, rfl, h2⟩ := S.get hm.at
  exact ⟨p, us, rx, rv, h1, fun r hr => V F (.ref r) (.adr r) _ _ (Le.refl F) rfl (S.new (o := .oth _) hr rfl) (q r)⟩
theorem repK_intV {K : PySem.W.Frag} {F : Hp} : ∀ {kv : List (Int × Int)} {us : List (Key × V)}, RepK K F (intD kv) us → us = intV kv
  | [], _, h => h
  | z :: r, _, ⟨v, t, h1, h2, h3⟩ => by
    subst h1
    have e : v = .int z.2 := h2
    rw [e, repK_intV h3]; rfl
theorem layT_swap {H : Hp} {l : Addr} {o : HO} : ∀ {ps : List (Addr × Int × Int)}, (∀ z ∈ ps, z.1 ≠ l) → layT (upd H l o) ps = upd (layT H ps) l o
  | [], _ => rfl
  | z :: r, h => by
    show upd (layT (upd H l o) r) z.1 _ = upd (upd (layT H r) z.1 _) l o
    rw [layT_swap fun y hy => h y (List.mem_cons_of_mem _ hy)]
    funext b
    by_cases e1 : b = l
    · subst e1
      rw [upd_ne (fun e => h z List.mem_cons_self e.symm), upd_same, upd_same]
    · by_cases e2 : b = z.1
      · subst e2
        rw [upd_same, upd_ne e1, upd_same]
      · rw [upd_ne e2, upd_ne e1, upd_ne e1, upd_ne e2]
theorem layT_sep {K : PySem.W.Frag} {F H : Hp} (S : Sep K F ms H) : ∀ {ps : List (Addr × Int × Int)}, (ps.map (·.1)).Nodup → (∀ z ∈ ps, H z.1 = none) →
    Le F (layT F ps) ∧ Sep K (layT F ps) ms (layT H ps) ∧ RepL K (layT F ps) (ps.map fun z => .tup [.int z.2.1, .int z.2.2]) (ps.map fun z => V.ref z.1)
  | [], _, _ => ⟨Le.refl F, S, rfl⟩
  | z :: r, nd, h => by
    rw [List.map_cons, List.nodup_cons] at nd
    obtain ⟨a1, a2, a3⟩ := layT_sep S nd.2 fun y hy => h y (List.mem_cons_of_mem _ hy)
    have hn : layT H r z.1 = none := by
      rw [layT_off fun y hy e => nd.1 (by rw [← e]; exact List.mem_map_of_mem hy)]
      exact h z List.mem_cons_self
    have g := Le.new (o := .tup [.int z.2.1, .int z.2.2]) (a2.free hn)
    exact ⟨a1.trans g, a2.newF hn, _, _, rfl, ⟨z.1, [.int z.2.1, .int z.2.2], rfl, .inl (.inl upd_same), _, _, rfl, rfl, _, _, rfl, rfl, rfl⟩, a3.mono g⟩
theorem cad_sortedI (C : Ctx X N k) {r p : Addr} {i j : Nat} {kv : List (Int × Int)} (hr : Ms ms j r (.oth (itemsO r p))) (hp : Ms ms i p (.dic (intD kv)))
    (q : ∀ l (ps : List (Int × Int)), ps.Perm kv → ps.Pairwise (fun e f => e.1 ≤ f.1) → kd (.adr l) ((l, .lst (ps.map fun z => .tup [.int z.1, .int z.2])) :: ms)) : CaD X (.builtin "sorted") [.adr r] ms kd := .of (cr_sortedItemsI C.calm) fun F vs H Q rv S V => by
  obtain ⟨u, rfl, r1⟩ := rv.inv1
  obtain ⟨_, w, h1, us, rfl, h2⟩ := S.get hp.at
  obtain ⟨_, w2, g1, g2⟩ := S.get hr.at
  have e2 : w2 = itemsO r p := g2
  rw [e2] at g1
  rw [repK_intV h2] at h1
  refine ⟨r, p, kv, by rw [show u = .ref r from r1], g1, .inl h1, fun l ps hl nd hn pm so => ?_⟩
  obtain ⟨a1, a2, a3⟩ := layT_sep S nd fun z m => (hn z m).1
  rw [layT_swap fun z m => (hn z m).2]
  have hl' : layT H ps l = none := by rw [layT_off fun z m => (hn z m).2]; exact hl
  have e3 : (ps.map fun z => D.tup [.int z.2.1, .int z.2.2]) = (ps.map (·.2)).map fun z => D.tup [.int z.1, .int z.2] := by rw [List.map_map]; rfl
  exact V _ (.ref l) (.adr l) _ _ a1 rfl (a2.new (o := .lst _) hl' ⟨_, rfl, by rw [← e3]; exact a3⟩) (q l (ps.map (·.2)) pm so)
end
end DL

/-! DL14: own classes on data: fields, properties, methods, making. -/
namespace DL
open PySem PySem.Spec PyProof.Rows L2
/-! ### instances -/
def InsOf (ms : MS) (d : D) (C : Addr) (fs : List (Str × D)) : Prop := d = .ins C fs ∨ ∃ p i, d = .adr p ∧ Ms ms i p (.ins C fs)
section
variable {K : PySem.W.Frag} {F F' H : Hp} {ms : MS}
theorem InsOf.at {d : D} {C : Addr} {fs : List (Str × D)} {v : V} (h : InsOf ms d C fs) (r : Rep K F d v) (S : Sep K F ms H) : ∃ a dx us, v = .ref a ∧ H a = some (.ins C dx us) ∧ RepF K F fs us := by
  rcases h with rfl | ⟨p, i, rfl, h⟩
  · obtain ⟨a, dx, us, rfl, h1, h2⟩ := r
    exact ⟨a, dx, us, rfl, S.ex _ _ h1, h2⟩
  · obtain ⟨_, u, h1, dx, us, rfl, h2⟩ := S.get h.at
    exact ⟨p, dx, us, r, h1, h2⟩
theorem RepF.look {f : Str} : ∀ {fds : List (Str × D)} {fs : List (Str × V)}, RepF K F fds fs → (∀ d, fds.lookup f = some d → ∃ v, fs.lookup f = some v ∧ Rep K F d v) ∧ (fds.lookup f = none → fs.lookup f = none)
  | [], _, h => by
    have h' : _ = [] := h
    subst h'
    exact And.intro (fun d e => absurd (show (none : Option D) = some d from e) (fun z => nomatch z)) (fun _ => rfl)
  | (k, d') :: fds, _, ⟨v, r, e, h1, h2⟩ => by
    subst e
    obtain ⟨i1, i2⟩ := RepF.look h2
    rw [List.lookup_cons, List.lookup_cons]
    cases hk : f == k with
    | true => exact And.intro (fun d e => by cases e; exact ⟨v, rfl, h1⟩) (fun e => by cases e)
    | false => exact ⟨i1, i2⟩
theorem RepF.length : ∀ {fds : List (Str × D)} {fs : List (Str × V)}, RepF K F fds fs → fs.length = fds.length
  | [], _, h => by cases h; rfl
  | (_, _) :: _, _, ⟨v, r, h1, _, h3⟩ => by cases h1; rw [List.length_cons, List.length_cons, RepF.length h3]
end
/-- a field put -/
def putFD (f : Str) (v : D) : List (Str × D) → List (Str × D)
  | [] => [(f, v)]
  | (g, x) :: r => if g = f then (g, v) :: r else (g, x) :: putFD f v r
theorem RepF.put {K : PySem.W.Frag} {F : Hp} {f : Str} {d : D} {v : V} (g : Rep K F d v) : ∀ {fds : List (Str × D)} {fs : List (Str × V)}, RepF K F fds fs → RepF K F (putFD f d fds) (putF f v fs)
  | [], _, h => by cases h; exact ⟨v, [], rfl, g, rfl⟩
  | (k, d') :: fds, _, ⟨w, r, e, h1, h2⟩ => by
    subst e
    unfold putFD putF
    by_cases hk : k = f
    · rw [if_pos hk, if_pos hk]; exact ⟨v, r, rfl, g, h2⟩
    · rw [if_neg hk, if_neg hk]; exact ⟨w, _, rfl, h1, RepF.put g h2⟩
/-- a def that is a method, or a getter -/
structure MethAtG (P : Program) (w : World) (K : PySem.W.Frag) (mg : Str → Option Value) (base : Heap) (k : Nat) (f : Addr) (fd : FuncData) (ps : List Str) (S : DSp) : Prop where
  fn : FnOkG P w K mg base (L2.CX P w) k f fd ps (toSp K S)
  bn : Binds K fd ps []
section
variable {X : Cx} {xw : DX} {N : List Str} {k : Nat} {ds : DEnv} {ms : MS} {kd : DK} {e o value : Expr} {es : List Expr} {pos p apos pos' : Pos} {C f : Addr} {x : Str} {E : DEnds}
theorem MethAtG.mono {P : Program} {w : World} {K : PySem.W.Frag} {mg : Str → Option Value} {base : Heap} {j k : Nat} {fd : FuncData} {ps : List Str} {S : DSp} (G : MethAtG P w K mg base j f fd ps S) (h : j ≤ k) : MethAtG P w K mg base k f fd ps S :=
  ⟨⟨G.fn.len, fun A outer s H args us vs Q E hr => G.fn.run A outer s H args us vs Q E (hr.mono h)⟩, G.bn⟩
theorem to_sp' {K : PySem.W.Frag} {S : DSp} {F : Hp} {vs : List V} {xs : List D} {H : Hp} {Q : VK} {xk : Addr → D → MS → Prop} {E : XK} (S0 : Sep K F ms H) (r : RepL K F xs vs) (V : VC K F kd Q) (hx : XCf K F xk E) (q : S xs ms kd xk) : toSp K S vs H Q E := ⟨F, xs, ms, kd, xk, r, S0, q, V, hx⟩
theorem XCf.none {K : PySem.W.Frag} {F : Hp} {E : XK} : XCf K F (fun _ _ _ => False) E := fun _ _ _ _ _ _ _ _ _ _ _ z => z.elim
/-- e.x, a field -/
theorem de_attr (c : Cls X.K C) (n : NoAttr X.K C x) (h : DE X xw e ds ms fun d ms1 => ∃ fs v, InsOf ms1 d C fs ∧ fs.lookup x = some v ∧ kd v ms1) (hb : attributeBase e x X.env (eval e X.env) = eval e X.env) : DE X xw (.Attribute e x pos) ds ms kd :=
  .of (pe_fld pe_w hb) fun F σ H Q W A V => h F σ H _ W A fun F1 v d ms1 H1 e1 r1 S1 ⟨fs, y, hi, hl, q⟩ => by
    obtain ⟨a, dx, us, rfl, h1, h2⟩ := hi.at r1 S1
    obtain ⟨u, u1, u2⟩ := h2.look.1 y hl
    exact ⟨a, C, dx, us, u, rfl, h1, c, n, u1, V F1 u y ms1 H1 e1 u2 S1 q⟩
/-- e.x = value -/
theorem ds_fld (c : Cls X.K C) (n : NoAttr X.K C x) (h : DE X xw value ds ms fun y ms1 => DE X xw o ds ms1 fun d ms2 => ∃ p i fs ms3, d = .adr p ∧ Ms ms2 i p (.ins C fs) ∧ fs.length < 1000 ∧ MPut ms2 i (.ins C (putFD x y fs)) ms3 ∧ E.nx ds ms3)
    (hs : swapsWith value (some (.Attribute o x pos')) pos.line X.env = pure false) : DS X xw (.Assign [.Attribute o x pos'] value pos) ds ms E :=
  .of (ps_fld pe_w pe_w hs) fun F σ H D W A V => h F σ H _ W A fun F1 y d ms1 H1 e1 r1 S1 k1 => k1 F1 σ H1 _ W (A.mv e1 S1) fun F2 v d2 ms2 H2 e2 r2 S2 ⟨p, i, fs, ms3, ed, hm, hl, hp, q⟩ => by
    subst ed
    have r2' : v = .ref p := r2
    subst r2'
    obtain ⟨_, u, h1, dx, us, rfl, h2⟩ := S2.get hm.at
    obtain ⟨a, ob, h3, rfl⟩ := hp.eq
    rw [hm.at] at h3
    cases h3
    exact ⟨p, C, dx, us, rfl, h1, c, n, by rw [h2.length]; exact hl, V.nx F2 ds σ _ _ (e1.trans e2) (A.sr.mono (e1.trans e2)) (S2.set (o' := .ins C _) hm.at ⟨dx, _, rfl, h2.put (r1.mono e2)⟩) q⟩
/-- e.x, a property -/
theorem getprop_okG {pins : List (Addr × Obj)} {σ : L2.St} {H : Hp} {s : Shared} {Q : VK} {b : Bool} {E' : Value → Shared → Prop} {a dx p g : Addr} {fs : List (Str × V)} {fd : FuncData} {ps : List Str} {sp : Sp} (I : Inv X pins σ H s) (ea : H a = some (.ins C dx fs)) (c : Cls X.K C) (hp : PropOf X.K C x p g)
    (F : FnOkG X.prog X.w X.K X.mg X.base (L2.CX X.prog X.w) k g fd ps sp) (hr : Room (k + 1) X.A) (gd : X.A.guards = some []) (hb : Binds X.K fd ps []) (h : sp [.ref a] H Q (fun _ _ _ => False)) :
    wpAny (model X.prog X.w) X.A (getAttr (.ref a) x b) (EP X pins σ Q) E' s := by
  obtain ⟨mA, O, _, _, _, _⟩ := ins_get I.hok ea
  obtain ⟨od, J, _⟩ := O.look
  obtain ⟨rest, hrec⟩ := hp.rec_
  have I1 := I.tok (s.toks + 1)
  have hl : ([Value.ref a] ++ []).length = ps.length := by
    rw [← F.len _ _ _ _ h]; rfl
  have hc : (PySem.W.clsIn X.K C).isSome = true := by
    obtain ⟨cd, hc, _⟩ := PySem.W.any_some c.hd
    rw [hc]
    rfl
  refine PySem.W.get_bind I.kIn J (PySem.W.plainGet_of (c.get x)).1 (PySem.W.findObj_data hc hp.at_ hp.get hp.tak) (PySem.W.plainGet_of (c.get x)).2 (wpAny_call (PySem.W.prop_get (s := { s with toks := s.toks + 1 }) I.kIn hrec ?_))
  refine codeAny_mono (F.run X.A.in1 X.stack { s with toks := s.toks + 1 } H ⟨[.ref a], []⟩ [.ref a] [.ref a] Q (fun _ _ _ => False) hr.in1 gd I1.env0.in1 (hb _ [.ref a] I1.kIn hl) (.cons rfl .nil) h) fun r s' hq => ?_
  cases r with
  | error er =>
    obtain ⟨_, _, _, _, _, _, _, _, _, _, _, _, z⟩ := hq
    exact z.elim
  | ok fl =>
    cases fl with
    | ret u =>
      obtain ⟨v, H', I3, rv, q3⟩ := I1.after hq
      show wpAny _ _ (handedOut u) _ _ _
      rw [PySem.W.handedOut_of (handed_of rv)]
      exact wpAny_pure ⟨v, H', I3, rv, q3⟩
    | next => exact False.elim hq
    | brk => exact False.elim hq
    | cont => exact False.elim hq
theorem de_prop {p g : Addr} {fd : FuncData} {ps : List Str} {S : DSp} {j : Nat} (Cc : Ctx X N (k + 1)) (gd : X.A.guards = some []) (c : Cls X.K C) (hp : PropOf X.K C x p g) (G : MethAtG X.prog X.w X.K X.mg X.base j g fd ps S) (hj : j ≤ k)
    (h : DE X xw e ds ms fun d ms1 => (∃ fs, InsOf ms1 d C fs) ∧ S [d] ms1 kd fun _ _ _ => False) (hb : attributeBase e x X.env (eval e X.env) = eval e X.env) : DE X xw (.Attribute e x pos) ds ms kd := fun F σ H Q W A V pins s I => by
  refine attr_of hb (thn (h F σ H (fun v H1 => ∃ a dx us, v = .ref a ∧ H1 a = some (.ins C dx us) ∧ toSp X.K S [.ref a] H1 Q (fun _ _ _ => False)) W A (fun F1 v d ms1 H1 e1 r1 S1 ⟨⟨fs, hi⟩, q⟩ => by
    obtain ⟨a, dx, us, rfl, h1, h2⟩ := hi.at r1 S1
    exact ⟨a, dx, us, rfl, h1, to_sp' S1 (RepL.one r1) (V.mono e1) XCf.none q⟩) pins s I) fun u s1 ⟨v, H1, I1, rv, a, dx, us, ev, h1, q⟩ => ?_)
  subst ev
  obtain rfl : u = Value.ref a := rv
  exact getprop_okG (k := k) I1 h1 c hp (G.mono hj).fn Cc.room gd G.bn q
/-- o.m(..) -/
theorem de_meth {m : Str} {fd : FuncData} {ps : List Str} {S : DSp} {j : Nat} (Cc : Ctx X N k) (gd : X.A.guards = some []) (c : Cls X.K C) (hm : Meth X.K C m f) (G : MethAtG X.prog X.w X.K X.mg X.base j f fd ps S) (hj : j ≤ k) {pl : Sem Bool}
    (h : DE X xw o ds ms fun d ms1 => (∃ fs, InsOf ms1 d C fs ∧ fs.lookup m = none) ∧ DA X xw (e :: es) ds ms1 fun vs ms2 => S (d :: vs) ms2 kd fun Cx d ms3 => xw Cx d ds ms3)
    (hst : starEach (e :: es) X.env = (false, eval e X.env) :: starEach es X.env) (hpl : (backTo pos (starEach es X.env)).any (·.1) = false)
    (ht : eval (.Call (.Attribute o m apos) (e :: es) [] pos) X.env = (do
      let ov ← eval o X.env
      standAt apos.atName
      let (f, first) ← holding [ov] (getMethod ov m pl)
      callWith pos f first (backTo pos (starEach (e :: es) X.env)) (backToKw pos (keywordEach [] X.env)))) : DE X xw (.Call (.Attribute o m apos) (e :: es) [] pos) ds ms kd := fun F σ H Q W A V pins s I => by
  refine PySem.W.methodCall_KW (pl := pl) (thn (h F σ H (fun v H1 => ∃ a dx us, v = .ref a ∧ H1 a = some (.ins C dx us) ∧ us.lookup m = none ∧ wA X (e :: es) σ H1 fun vs H2 => toSp X.K S (.ref a :: vs) H2 Q (WE W σ)) W A (fun F1 v d ms1 H1 e1 r1 S1 ⟨⟨fs, hi, hl⟩, k1⟩ => by
    obtain ⟨a, dx, us, rfl, h1, h2⟩ := hi.at r1 S1
    exact ⟨a, dx, us, rfl, h1, h2.look.2 hl, k1 F1 σ H1 _ W (A.mv e1 S1) fun F2 vs xs ms2 H2 e2 r2 S2 q => to_sp (A.mv (e1.trans e2) S2) rfl (xs := d :: xs) ⟨_, _, rfl, r1.mono e2, r2⟩ (V.mono (e1.trans e2)) q⟩) pins s I) fun u s1 ⟨v, H1, I1, rv, a, dx, us, ev, h1, l, q⟩ => ?_) ht
  subst ev
  obtain rfl : u = Value.ref a := rv
  refine getmeth_ok I1 h1 c hm l ?_
  refine PySem.W.callWith_K (first := [.ref a]) (h₀ := X.base) I.ok.mod.kin hm.kp (thn (q pos pins s1 I1) fun us s2 ⟨vs, H2, I2, r, q2⟩ => ⟨I2.kIn, ?_⟩) hst hpl
  exact run_fnG (us := .ref a :: us) (vs := .ref a :: vs) (E := WE W) G.fn (Cc.room.mono hj) gd G.bn (passAt A.tk σ) I2 (.cons rfl r) q2
theorem de_meth0 {m : Str} {fd : FuncData} {ps : List Str} {S : DSp} {j : Nat} (Cc : Ctx X N k) (gd : X.A.guards = some []) (c : Cls X.K C) (hm : Meth X.K C m f) (G : MethAtG X.prog X.w X.K X.mg X.base j f fd ps S) (hj : j ≤ k) {pl : Sem Bool}
    (h : DE X xw o ds ms fun d ms1 => (∃ fs, InsOf ms1 d C fs ∧ fs.lookup m = none) ∧ S [d] ms1 kd fun Cx d ms3 => xw Cx d ds ms3)
    (ht : eval (.Call (.Attribute o m apos) [] [] pos) X.env = (do
      let ov ← eval o X.env
      standAt apos.atName
      let (f, first) ← holding [ov] (getMethod ov m pl)
      callWith pos f first (backTo pos (starEach [] X.env)) (backToKw pos (keywordEach [] X.env)))) : DE X xw (.Call (.Attribute o m apos) [] [] pos) ds ms kd := fun F σ H Q W A V pins s I => by
  refine PySem.W.methodCall_KW (pl := pl) (thn (h F σ H (fun v H1 => ∃ a dx us, v = .ref a ∧ H1 a = some (.ins C dx us) ∧ us.lookup m = none ∧ toSp X.K S [.ref a] H1 Q (WE W σ)) W A (fun F1 v d ms1 H1 e1 r1 S1 ⟨⟨fs, hi, hl⟩, q⟩ => by
    obtain ⟨a, dx, us, rfl, h1, h2⟩ := hi.at r1 S1
    exact ⟨a, dx, us, rfl, h1, h2.look.2 hl, to_sp (A.mv e1 S1) rfl (RepL.one r1) (V.mono e1) q⟩) pins s I) fun u s1 ⟨v, H1, I1, rv, a, dx, us, ev, h1, l, q⟩ => ?_) ht
  subst ev
  obtain rfl : u = Value.ref a := rv
  refine getmeth_ok I1 h1 c hm l ?_
  exact PySem.W.callWith_K0 (first := [.ref a]) I1.kIn hm.kp (run_fnG (us := [.ref a]) (vs := [.ref a]) (E := WE W) G.fn (Cc.room.mono hj) gd G.bn (passAt A.tk σ) I1 (.cons rfl .nil) q)
/-- x(..), x a class -/
theorem run_makeG {pins : List (Addr × Obj)} {σ : L2.St} {H : Hp} {s : Shared} {Q : VK} {us : List Value} {vs : List V} {fd : FuncData} {ps : List Str} {sp : Sp} {E : L2.St → XK} (M : Mk X.K C f) (F : FnOkG X.prog X.w X.K X.mg X.base (L2.CX X.prog X.w) k f fd ps sp) (hr : Room (k + 1) X.A) (gd : X.A.guards = some []) (hb : Binds X.K fd ps [])
    (hx : PassesAt (L2.CX X.prog X.w) X σ (E σ)) (I : Inv X pins σ H s) (r : Vals vs us)
    (h : ∀ x dx, H x = none → H dx = none → dx ≠ x → sp (.ref x :: vs) (upd (upd H dx (.own x)) x (.ins C dx [])) (fun v H2 => v = .non ∧ Q (.ref x) H2) (E σ)) :
    wpAny (model X.prog X.w) X.A (call (.ref C) us) (EP X pins σ Q) X.xe s := by
  have hq := h (s.heap.objs.size + 1) s.heap.objs.size (I.hok.fresh (Nat.le_succ _)) (I.hok.fresh (Nat.le_refl _)) (Nat.ne_of_lt (Nat.lt_succ_self _))
  have I2 := Inv.made (C := C) I
  have r2 : Vals (V.ref (s.heap.objs.size + 1) :: vs) (Value.ref (s.heap.objs.size + 1) :: us) := .cons rfl r
  have hl : (Value.ref (s.heap.objs.size + 1) :: us).length = ps.length := by
    have e := r2.length
    rw [F.len _ _ _ _ hq] at e
    exact e.symm
  have hb2 := hb _ (Value.ref (s.heap.objs.size + 1) :: us) I2.kIn (by rw [List.append_nil]; exact hl)
  rw [List.append_nil] at hb2
  refine wpAny_call (make_map (f := f) I.kIn M.makes M.init (beq_iff_eq.mp M.fn) (codeAny_mono (F.run _ X.stack _ _ ⟨Value.ref (s.heap.objs.size + 1) :: us, []⟩ (Value.ref (s.heap.objs.size + 1) :: us) _ _ (E σ) (hr.make C us [])
    (by first | exact gd | simpa [Around.under] using gd) (I2.env0.make C us []) hb2 r2 hq) fun r s' hq' => ?_))
  cases r with
  | error e => exact hx pins _ _ e s' I2 hq'
  | ok fl =>
    cases fl with
    | ret u =>
      obtain ⟨v, H', I3, rv, ev, q3⟩ := I2.after hq'
      subst ev
      exact ⟨rv, ⟨V.ref (s.heap.objs.size + 1), H', I3, rfl, q3⟩⟩
    | next => exact False.elim hq'
    | brk => exact False.elim hq'
    | cont => exact False.elim hq'
theorem Sep.made {K : PySem.W.Frag} {F H : Hp} {a dx : Addr} (S : Sep K F ms H) (ha : H a = none) (hd : H dx = none) (hn : dx ≠ a) : Sep K F ((a, .ins C []) :: ms) (upd (upd H dx (.own a)) a (.ins C dx [])) :=
  (S.newU hd).new (o := .ins C []) (by rw [upd_ne (Ne.symm hn)]; exact ha) ⟨dx, [], rfl, rfl⟩
theorem de_make {fd : FuncData} {ps : List Str} {S : DSp} {j : Nat} (Cc : Ctx X N (k + 1)) (gd : X.A.guards = some []) (M : Mk X.K C f) (hm : X.mg x = some (.ref C)) (G : MethAtG X.prog X.w X.K X.mg X.base j f fd ps S) (hj : j ≤ k)
    (h : DA X xw (e :: es) ds ms fun vs ms1 => ∀ a, S (.adr a :: vs) ((a, .ins C []) :: ms1) (fun d ms2 => d = .non ∧ kd (.adr a) ms2) fun Cx d ms3 => xw Cx d ds ms3) (hg : Gl X x)
    (hdb : (x == ("__debug__" : Str)) = false) (he : starEach (e :: es) X.env = (false, eval e X.env) :: starEach es X.env) (hpl : (backTo pos (starEach es X.env)).any (·.1) = false) : DE X xw (.Call (.Name x p) (e :: es) [] pos) ds ms kd := fun F σ H Q W A V pins s I => by
  refine wpAny_Call_Name_kw (ld_glob I hg hm ?_ hdb)
  refine PySem.W.callWith_K (h₀ := X.base) I.ok.mod.kin M.kp (thn (h F σ H (fun vs H1 => ∀ a dx, H1 a = none → H1 dx = none → dx ≠ a → toSp X.K S (.ref a :: vs) (upd (upd H1 dx (.own a)) a (.ins C dx [])) (fun v H2 => v = .non ∧ Q (.ref a) H2) (WE W σ)) W A (fun F1 vs xs ms1 H1 e1 r1 S1 k1 a dx ha hd hn => ?_) pos pins s I) fun us s1 ⟨vs, H1, I1, r, q⟩ => ⟨I1.kIn, ?_⟩) he hpl
  · refine to_sp (A.mv e1 (S1.made ha hd hn)) rfl (xs := .adr a :: xs) ⟨_, _, rfl, rfl, r1⟩ (kd := fun d ms2 => d = .non ∧ kd (.adr a) ms2) (fun F2 v d ms2 H2 e2 r2 S2 ⟨ed, q⟩ => ?_) (k1 a)
    subst ed
    exact ⟨r2, V F2 (.ref a) (.adr a) ms2 H2 (e1.trans e2) rfl S2 q⟩
  · exact run_makeG (k := k) (E := WE W) M (G.mono hj).fn Cc.room gd G.bn (passAt A.tk σ) I1 r q
end
/-- a method's body keeps its promise -/
theorem def_okM {P : Program} {w : World} {K : PySem.W.Frag} {mg : Str → Option Value} {base : Heap} {x qual : Str} {st : Stmt} {f : Addr} {fd : FuncData} {N ps : List Str} {k : Nat} {S : DSp} (F : Fun K x qual st f fd) (Sc : FnScope N ps (defScope st)) (bn : Binds K fd ps [])
    (len : ∀ vs ms kd xk, S vs ms kd xk → vs.length = ps.length)
    (body : ∀ (cdv : Value) (A : Around) (outer : List Env) (s : Shared) (H : Hp) (E : XK), Ctx (cxOf (L2.CX P w) P w K mg base N qual (defScope st) f cdv A outer s H E) N k → (cxOf (L2.CX P w) P w K mg base N qual (defScope st) f cdv A outer s H E).A.guards = some [] →
      PassesOwn (model P w) (cxOf (L2.CX P w) P w K mg base N qual (defScope st) f cdv A outer s H E).A (cxOf (L2.CX P w) P w K mg base N qual (defScope st) f cdv A outer s H E).env (cxOf (L2.CX P w) P w K mg base N qual (defScope st) f cdv A outer s H E).xe →
      ∀ vs ms kd xk, S vs ms kd xk → DSs (cxOf (L2.CX P w) P w K mg base N qual (defScope st) f cdv A outer s H E) (fun Cx d _ ms2 => ∃ ms3, MLe K ms2 ms3 ∧ xk Cx d ms3) (defBody st) (startD N vs) ms { nx := fun _ ms2 => ∃ ms3, MLe K ms2 ms3 ∧ kd .non ms3, rt := fun d ms2 => ∃ ms3, MLe K ms2 ms3 ∧ kd d ms3 }) :
    MethAtG P w K mg base (k + 1) f fd ps S := by
  obtain ⟨oc, od, kV, doc, pm, an, cdv, ct, osl, rfl, lk, hcd⟩ := F.ex
  refine ⟨fn_ofG lk hcd Sc (fun vs H Q E ⟨F', ds, ms, kd, xk, r, s, q, v, xx⟩ => by rw [r.length]; exact len _ _ _ _ q) fun A outer s H vs Q E hr hg ⟨F', ds, ms, kd, xk, r, sp, q, v, xx⟩ _ => ?_, bn⟩
  refine body cdv A outer s H E ⟨rfl, Sc.nd, rfl, hr⟩ hg (passes_of (X := cxOf (L2.CX P w) P w K mg base N qual (defScope st) f cdv A outer s H E) rfl) ds ms kd xk q F' (L2.start N vs) H _ (fun cls d _ H => E cls d H)
    ⟨sr_start N r, sp, takes_of (X := cxOf (L2.CX P w) P w K mg base N qual (defScope st) f cdv A outer s H E) rfl rfl rfl rfl, fun F2 Cx dx dv v2 ds' σ' ms' H' e sr rv S2 hd ⟨ms3, l, q2⟩ => xx F2 Cx dx dv v2 ms3 H' e rv (l _ _ S2) hd q2⟩
    ⟨fun F2 ds' σ' ms' H' e sr S2 ⟨ms3, l, q2⟩ => v F2 .non .non ms3 H' e rfl (l _ _ S2) q2, fun F2 v2 d2 ms' H' e r2 S2 ⟨ms3, l, q2⟩ => v F2 v2 d2 ms3 H' e r2 (l _ _ S2) q2, fun _ _ _ _ _ _ _ _ z => z.elim, fun _ _ _ _ _ _ _ _ z => z.elim⟩
end DL

/-! DL15: tuple(xs) told in full, dict(pairs), max and min of a dict, sorted of pairs, list(range(..)), [..] * n that may change. -/
namespace DL
open PySem PySem.Spec PyProof.Rows L2
section
variable {X : Cx} {xw : DX} {N : List Str} {k : Nat} {ds : DEnv} {ms : MS} {kd : DK} {e a b : Expr} {pos p : Pos}
/-! ### tuple(xs) -/
theorem call_tuple_ofX : CallR X (.type "tuple") (fun xs H Q => ∃ p ys, xs = [.ref p] ∧ SqL X.K H p ys ∧ ∀ l o, ExT o → H l = none → Q (.ref l) (upd H l (.frz o (.tup ys)))) := by
  intro pins s σ H xs us Q I r h
  obtain ⟨p, ys, rfl, hq, q⟩ := h
  obtain ⟨u, rfl, rx⟩ := vals1 r
  cases rx
  obtain ⟨its, r', pl, hz⟩ := I.list hq
  have hlen := r'.length
  refine call_tuple_list pl.isList (fun h' kp => ?_) (by simp only [List.size_toArray] <;> omega)
  have I1 : Inv X pins σ H { s with heap := h' } := I.kept (t' := s.toks) kp
  have I2 : Inv X pins σ (upd H h'.objs.size (.frz { cls := .type "tuple", data := .seq its.toArray } (.tup ys))) { s with heap := h'.push { cls := .type "tuple", data := .seq its.toArray } } :=
    I1.laid (t' := s.toks) (fun b o e => Heap.get?_push_of_some _ e) (Nat.le_refl _) (show ObjOk X.prog X.w _ _ _ (.frz _ (.tup ys)) from ⟨Heap.get?_push_size _ rfl, hz, its, r', IsTup.new _ _⟩)
  exact ⟨.ref h'.objs.size, _, I2, rfl, q _ _ ⟨rfl, rfl, _, _, rfl⟩ (I1.hok.fresh (Nat.le_refl _))⟩
theorem cad_tupX {d : D} {xs : List D} (h : LsOf ms d xs) (q : kd (.ttp xs) ms) : CaD X (.type "tuple") [d] ms kd := .of call_tuple_ofX fun F vs H Q r S V => by
  obtain ⟨v, rfl, r1⟩ := r.inv1
  obtain ⟨a, us, rfl, h1, h2⟩ := h.at r1 S
  exact ⟨a, us, rfl, SqL.of h1, fun p o ho hp => V _ (.ref p) (.ttp xs) ms _ (Le.new (S.free hp)) ⟨p, us, rfl, ⟨o, upd_same, ho⟩, h2.mono (Le.new (S.free hp))⟩ (S.newF hp) q⟩
/-! ### dict(pairs) -/
theorem repL_refs {K : PySem.W.Frag} {F H : Hp} (S : Sep K F ms H) : ∀ {kv : List (Int × Int)} {vs : List V}, RepL K F (kv.map fun q => D.tup [.int q.1, .int q.2]) vs → ∃ ps : List Addr, vs = ps.map V.ref ∧ Paired (fun p (q : Key × V) => SqT K H p [kV q.1, q.2]) ps (intV kv)
  | [], vs, r => by
    have r' : vs = [] := r
    subst r'
    exact ⟨[], rfl, .nil⟩
  | q :: kv, vs, ⟨v, r, e, h1, h2⟩ => by
    subst e
    obtain ⟨ps, rfl, g⟩ := repL_refs S h2
    obtain ⟨a, us, rfl, h3, h4⟩ := h1
    have e := RepL.ints (ns := [q.1, q.2]) h4
    subst e
    exact ⟨a :: ps, rfl, .cons (S.sqT h3) g⟩
/-- the pairs of a dict, one put behind the other -/
def putI (kv : List (Int × Int)) (k v : Int) : List (Int × Int) := if (kv.any fun q => decide (q.1 = k)) = true then kv.map (fun q => if q.1 = k then (q.1, v) else q) else kv ++ [(k, v)]
theorem putD_int (kv : List (Int × Int)) (k v : Int) : putD (intD kv) (.inl k) (.int v) = intD (putI kv k v) := by
  unfold putD putI intD
  have e : ((kv.map fun p => ((Sum.inl p.1 : Key), D.int p.2)).any fun kv => decide (kv.1 = .inl k)) = kv.any fun q => decide (q.1 = k) := by
    rw [List.any_map]
    congr 1
    funext q
    simp
  rw [e]
  split
  · rw [List.map_map, List.map_map]
    apply List.map_congr_left
    intro q _
    show (if (Sum.inl q.1 : Key) = .inl k then _ else _) = _
    by_cases hq : q.1 = k
    · rw [if_pos (by rw [hq])]
      show _ = ((Sum.inl (if q.1 = k then (q.1, v) else q).1 : Key), D.int (if q.1 = k then (q.1, v) else q).2)
      rw [if_pos hq]
    · rw [if_neg (fun e => hq (Sum.inl.inj e))]
      show _ = ((Sum.inl (if q.1 = k then (q.1, v) else q).1 : Key), D.int (if q.1 = k then (q.1, v) else q).2)
      rw [if_neg hq]
  · rw [List.map_append]; rfl
theorem putK_int (kv : List (Int × Int)) (k v : Int) : putK (intV kv) (.inl k) (.int v) = intV (putI kv k v) := by
  unfold putK putI intV
  have e : ((kv.map fun p => ((Sum.inl p.1 : Key), V.int p.2)).any fun kv => decide (kv.1 = .inl k)) = kv.any fun q => decide (q.1 = k) := by
    rw [List.any_map]
    congr 1
    funext q
    simp
  rw [e]
  split
  · rw [List.map_map, List.map_map]
    apply List.map_congr_left
    intro q _
    show (if (Sum.inl q.1 : Key) = .inl k then _ else _) = _
    by_cases hq : q.1 = k
    · rw [if_pos (by rw [hq])]
      show _ = ((Sum.inl (if q.1 = k then (q.1, v) else q).1 : Key), V.int (if q.1 = k then (q.1, v) else q).2)
      rw [if_pos hq]
    · rw [if_neg (fun e => hq (Sum.inl.inj e))]
      show _ = ((Sum.inl (if q.1 = k then (q.1, v) else q).1 : Key), V.int (if q.1 = k then (q.1, v) else q).2)
      rw [if_neg hq]
  · rw [List.map_append]; rfl
def mergeI (acc kv : List (Int × Int)) : List (Int × Int) := kv.foldl (fun a q => putI a q.1 q.2) acc
theorem mergeK_int : ∀ (kv acc : List (Int × Int)), mergeK (intV acc) (intV kv) = intV (mergeI acc kv)
  | [], acc => rfl
  | q :: kv, acc => by
    show mergeK (putK (intV acc) (.inl q.1) (.int q.2)) (intV kv) = _
    rw [putK_int, mergeK_int kv]
    rfl
theorem putI_new {kv : List (Int × Int)} {k v : Int} (h : k ∉ kv.map (·.1)) : putI kv k v = kv ++ [(k, v)] := by
  unfold putI
  rw [if_neg]
  simp only [List.any_eq_true, decide_eq_true_eq, not_exists, not_and]
  intro x hx e
  exact h (by rw [← e]; exact List.mem_map_of_mem hx)
theorem mergeI_nodup : ∀ {kv acc : List (Int × Int)}, ((acc ++ kv).map (·.1)).Nodup → mergeI acc kv = acc ++ kv
  | [], acc, _ => by simp [mergeI]
  | q :: kv, acc, h => by
    show mergeI (putI acc q.1 q.2) kv = _
    have hq : q.1 ∉ acc.map (·.1) := by
      rw [List.map_append, List.map_cons, List.nodup_append] at h
      intro hm
      exact h.2.2 _ hm _ List.mem_cons_self rfl
    rw [putI_new hq, mergeI_nodup (by simpa using h)]
    simp
theorem cad_dctL (C : Ctx X N k) {d : D} {kv : List (Int × Int)} (h : LsOf ms d (kv.map fun q => .tup [.int q.1, .int q.2])) (q : ∀ p, kd (.adr p) ((p, .dic (intD (mergeI [] kv))) :: ms)) : CaD X (.type "dict") [d] ms kd := .of (call_dictP C.calm) fun F vs H Q r S V => by
  obtain ⟨v, rfl, r1⟩ := r.inv1
  obtain ⟨a, us, rfl, h1, h2⟩ := h.at r1 S
  obtain ⟨ps, rfl, g⟩ := repL_refs S h2
  refine ⟨a, ps, _, rfl, SqL.of h1, g, fun p hp => V F (.ref p) (.adr p) _ _ (Le.refl F) rfl (S.new (o := .dic (intD (mergeI [] kv))) hp ⟨_, rfl, ?_⟩) (q p)⟩
  rw [show ([] : List (Key × L2.V)) = intV [] from rfl, mergeK_int]
  exact repK_int _
theorem pairs_of2 {pins : List (Addr × Obj)} {σ : L2.St} {H : Hp} {s : Shared} (I : Inv X pins σ H s) : ∀ {ps : List Addr} {kvs : List (Key × V)}, Paired (fun p kv => SqT X.K H p [kV kv.1, kv.2]) ps kvs →
    ∃ (prs : List (Key × Value)) (us : List (Value × Value)), KV kvs prs ∧ prs.length = ps.length ∧ us.length = ps.length ∧ (∀ (j : Nat) (x : Value × Value), us[j]? = some x → ∃ (b : Addr) (y : Key), ps[j]? = some b ∧ IsTup s.heap b #[x.1, x.2] ∧ prs[j]? = some (y, x.2) ∧ keyIs y x.1 = true)
  | _, _, .nil => ⟨[], [], .nil, rfl, rfl, fun j q e => by simp at e⟩
  | _, _, .cons (a := p) (b := kv) h t => by
    obtain ⟨prs, us, r, hl, hl2, hp⟩ := pairs_of2 I t
    obtain ⟨its, rv, ht, _⟩ := I.tuple h
    obtain ⟨u, y, ei, ru, ry⟩ := vals2 rv
    subst ei
    refine ⟨(kv.1, y) :: prs, (u, y) :: us, .cons ⟨rfl, ry⟩ r, by rw [List.length_cons, List.length_cons, hl], by rw [List.length_cons, List.length_cons, hl2], fun j q e => ?_⟩
    cases j with
    | zero =>
      have e' : (u, y) = q := Option.some.inj e
      subst e'
      exact ⟨p, kv.1, rfl, ht, rfl, kV_is (P := X.prog) (w := X.w) ru⟩
    | succ j =>
      obtain ⟨b, y', e1, e2, e3, e4⟩ := hp j q (by simpa using e)
      exact ⟨b, y', by simpa using e1, e2, by simpa using e3, e4⟩
theorem call_dictT (hcalm : X.calm = true) : CallR X (.type "dict") (fun xs H Q => ∃ (a : Addr) (ps : List Addr) (kvs : List (Key × V)) (o : Obj), xs = [.ref a] ∧ H a = some (.frz o (.tup (ps.map V.ref))) ∧ ExT o ∧ Paired (fun p kv => SqT X.K H p [kV kv.1, kv.2]) ps kvs ∧
    ∀ p, H p = none → Q (.ref p) (upd H p (.dK (mergeK [] kvs)))) := by
  intro pins s σ H xs us Q I r q
  obtain ⟨a, ps, kvs, o, ex, ha, ho, hp, q⟩ := q
  subst ex
  obtain ⟨u, eu, rx⟩ := vals1 r
  subst eu
  cases rx
  obtain ⟨hget, hz, its, rv, hT⟩ := I.hok a _ ha
  have ei := refs_at rv
  subst ei
  rw [List.length_map] at hz
  obtain ⟨prs, us2, rel, hl, hl2, hpr⟩ := pairs_of2 I hp
  obtain ⟨hc, hd, its2, n, hdat⟩ := ho
  have hit : its2 = (ps.map Value.ref).toArray := by
    obtain ⟨o2, e1, e2, n2, e3⟩ := hT
    rw [hget] at e1
    cases e1
    rw [hdat] at e3
    cases e3
    rfl
  subst hit
  let Ts : Nat → Addr := fun j => ps.getD j 0
  have P := PySem.PairArg.tuple (prog := X.prog) (w := X.w) a (ps.map Value.ref).toArray Ts us2
  refine PySem.call_dict_pairs (knd := mixKind X.prog X.w) (kvs := prs) P (I.ok.hd hcalm) ⟨⟨o, n, hget, hc, hd, hdat⟩, by simp [hl2], fun j k v e => ?_⟩ ⟨by rw [hl, hl2], fun i key v e => ?_⟩ (by rw [hl2]; exact hz) fun h' tk hd' k => ?_
  · obtain ⟨b, y, e1, e2, e3, e4⟩ := hpr j (k, v) e
    have hj : Ts j = b := by show ps.getD j 0 = b; rw [List.getD_eq_getElem?_getD, e1]; rfl
    rw [hj]
    exact ⟨by simp [e1], .inl e2⟩
  · obtain ⟨b, y, e1, e2, e3, e4⟩ := hpr i (key, v) e
    exact ⟨y, e3, e4⟩
  · have hm : (s.heap.objs.size == sysModules) = false := beq_eq_false_iff_ne.mpr (Nat.ne_of_gt I.big)
    have hlen : (mergeK [] kvs).length ≤ sizeLine := by
      refine Nat.le_trans (length_mergeK kvs []) ?_
      rw [List.length_nil, Nat.zero_add, rel.length, hl]
      exact hz
    exact ⟨.ref s.heap.objs.size, upd H s.heap.objs.size (.dK (mergeK [] kvs)), I.laid (t' := tk) (fun b ob e => k b ob (by simp) e) (Nat.le_refl _) (show ObjOk X.prog X.w _ _ _ (.dK (mergeK [] kvs)) from ⟨hlen, hm, merged [] prs, KV.merge rel .nil, hd'⟩), rfl, q _ (I.hok.fresh (Nat.le_refl _))⟩
theorem cad_dctT (C : Ctx X N k) {kv : List (Int × Int)} (q : ∀ p, kd (.adr p) ((p, .dic (intD (mergeI [] kv))) :: ms)) : CaD X (.type "dict") [.ttp (kv.map fun q => .tup [.int q.1, .int q.2])] ms kd := .of (call_dictT C.calm) fun F vs H Q r S V => by
  obtain ⟨v, rfl, r1⟩ := r.inv1
  obtain ⟨a, us, rfl, ⟨o, h1, ho⟩, h2⟩ := r1
  obtain ⟨ps, rfl, g⟩ := repL_refs S h2
  refine ⟨a, ps, _, o, rfl, S.ex _ _ h1, ho, g, fun p hp => V F (.ref p) (.adr p) _ _ (Le.refl F) rfl (S.new (o := .dic (intD (mergeI [] kv))) hp ⟨_, rfl, ?_⟩) (q p)⟩
  rw [show ([] : List (Key × L2.V)) = intV [] from rfl, mergeK_int]
  exact repK_int _
theorem bt_dict' : bootBuiltins "dict" = some (.type "dict") := bt_dict
/-! ### sorted of pairs of ints -/
def rSortedPX (K : PySem.W.Frag) : List V → Hp → VK → Prop := fun vs H Q => ∃ (a : Addr) (xs : List V) (k : V → Int × Int), vs = [V.ref a] ∧ SqL K H a xs ∧ (∀ x ∈ xs, ∃ t, x = V.ref t ∧ SqT K H t [.int (k x).1, .int (k x).2]) ∧
  ∀ ys p, SrtO.Srtd (ltP k) ys → SrtO.Stb (ltP k) ys xs → H p = none → Q (.ref p) (upd H p (.lst ys))
theorem cr_sortedPX : CallR X (.builtin "sorted") (rSortedPX X.K) := by
  intro pins s σ H vs us Q I r h
  obtain ⟨a, xs, k, rfl, hs, hx, q⟩ := h
  obtain ⟨its, rv, hl, hz⟩ := I.list hs
  obtain ⟨u, rfl, ru⟩ := vals1 r
  obtain rfl : u = Value.ref a := ru
  obtain ⟨e1, e2⟩ := refs_back rv fun x m => by
    obtain ⟨t, e, _⟩ := hx x m
    exact ⟨t, e⟩
  refine SrtO.sorted_pairsO (k := fun u => k (backV u)) hl.isList (by rw [← rv.length]; exact hz) (fun v hv => ?_) fun h' d out h1 h2 kp hd hn => ?_
  · obtain ⟨t, rfl⟩ := e2 v hv
    have hm : V.ref t ∈ xs := by rw [e1]; exact List.mem_map.mpr ⟨_, hv, rfl⟩
    obtain ⟨t', e, ht⟩ := hx _ hm
    cases e
    obtain ⟨its2, r2, ⟨o, ho, hc, n, hd⟩, _⟩ := I.tuple ht
    obtain ⟨u1, u2, rfl, ri, rj⟩ := vals2 r2
    obtain ⟨t1, rfl⟩ := ri
    obtain ⟨t2, rfl⟩ := rj
    exact ⟨t, o, t1, t2, n, rfl, ho, hc, hd⟩
  · have h3 : ∀ u ∈ out, ∃ a, u = Value.ref a := fun u hu => e2 u (h2.perm.mem_iff.mp hu)
    obtain ⟨n, hn⟩ := hn
    have hb : SrtO.Stb (ltP k) (out.map backV) xs := by
      rw [e1]
      exact SrtO.Stb.map (ltP_swo k) backV h2
    refine ⟨.ref d, upd H d (.lst (out.map backV)), I.laid (t' := s.toks) kp hd ⟨?_, out, n, vals_back h3, hn⟩, rfl, q _ d (SrtO.srtd_map h1) hb (I.hok.fresh hd)⟩
    rw [hb.len]
    exact hz
/-- pairs by their ints -/
def pleq (p q : Int × Int) : Prop := p.1 < q.1 ∨ (p.1 = q.1 ∧ p.2 ≤ q.2)
theorem repL_zip {K : PySem.W.Frag} {F : Hp} : ∀ {kv : List (Int × Int)} {vs : List V}, RepL K F (kv.map fun q => D.tup [.int q.1, .int q.2]) vs → ∃ zs : List (V × Int × Int), zs.map (·.1) = vs ∧ zs.map (·.2) = kv ∧ ∀ z ∈ zs, ∃ t, z.1 = .ref t ∧ SqT K F t [.int z.2.1, .int z.2.2]
  | [], vs, r => by
    have r' : vs = [] := r
    subst r'
    exact ⟨[], rfl, rfl, fun z hz => by cases hz⟩
  | q :: kv, vs, ⟨v, r, e, h1, h2⟩ => by
    subst e
    obtain ⟨zs, rfl, rfl, g⟩ := repL_zip h2
    obtain ⟨a, us, rfl, h3, h4⟩ := h1
    have e := RepL.ints (ns := [q.1, q.2]) h4
    subst e
    refine ⟨(.ref a, q) :: zs, rfl, rfl, fun z hz => ?_⟩
    rcases List.mem_cons.mp hz with rfl | hz
    · exact ⟨a, rfl, h3⟩
    · exact g z hz
theorem repL_unzip {K : PySem.W.Frag} {F : Hp} : ∀ {zs : List (V × Int × Int)}, (∀ z ∈ zs, ∃ t, z.1 = .ref t ∧ SqT K F t [.int z.2.1, .int z.2.2]) → RepL K F ((zs.map (·.2)).map fun q => D.tup [.int q.1, .int q.2]) (zs.map (·.1))
  | [], _ => rfl
  | z :: zs, h => by
    obtain ⟨t, e, g⟩ := h z List.mem_cons_self
    exact ⟨z.1, zs.map (·.1), rfl, ⟨t, _, e, g, RepL.of_ints [z.2.1, z.2.2]⟩, repL_unzip fun y hy => h y (List.mem_cons_of_mem _ hy)⟩
theorem sqT_ints {pins : List (Addr × Obj)} {σ : L2.St} {H : Hp} {s : Shared} (I : Inv X pins σ H s) {t : Addr} {p q : Int × Int} (h1 : SqT X.K H t [.int p.1, .int p.2]) (h2 : SqT X.K H t [.int q.1, .int q.2]) : p = q := by
  obtain ⟨its, r1, r2⟩ := sqT_inj I h1 h2
  obtain ⟨a1, a2, rfl, x1, x2⟩ := vals2 r1
  obtain ⟨b1, b2, e, y1, y2⟩ := vals2 r2
  cases e
  obtain ⟨_, rfl⟩ := x1
  obtain ⟨_, rfl⟩ := x2
  obtain ⟨_, e1⟩ := y1
  obtain ⟨_, e2⟩ := y2
  injection e1 with e1
  injection e2 with e2
  exact Prod.ext e1 e2
theorem cad_sortedP {d : D} {kv : List (Int × Int)} (h : LsOf ms d (kv.map fun q => .tup [.int q.1, .int q.2])) (q : ∀ (kv' : List (Int × Int)) p, kv'.Perm kv → kv'.Pairwise pleq → kd (.adr p) ((p, .lst (kv'.map fun q => .tup [.int q.1, .int q.2])) :: ms)) : CaD X (.builtin "sorted") [d] ms kd := by
  intro F vs H Q r S V pins s σ us I rr
  obtain ⟨v, rfl, r1⟩ := r.inv1
  obtain ⟨a, ws, rfl, h1, h2⟩ := h.at r1 S
  obtain ⟨zs, z1, z2, z3⟩ := repL_zip h2
  have zH : ∀ z ∈ zs, ∃ t, z.1 = .ref t ∧ SqT X.K H t [.int z.2.1, .int z.2.2] := fun z hz => let ⟨t, e, g⟩ := z3 z hz; ⟨t, e, S.sqT g⟩
  let rd : L2.V → Int × Int := fun v => ((zs.find? fun z => decide (z.1 = v)).map (·.2)).getD (0, 0)
  have rd_at : ∀ z ∈ zs, rd z.1 = z.2 := fun z hz => by
    show ((zs.find? fun y => decide (y.1 = z.1)).map (·.2)).getD (0, 0) = z.2
    cases hf : zs.find? fun y => decide (y.1 = z.1) with
    | none => exact absurd (List.find?_eq_none.mp hf z hz) (by simp)
    | some y =>
      have hy := List.mem_of_find?_eq_some hf
      have ey : y.1 = z.1 := by simpa using List.find?_some hf
      obtain ⟨t, e1, g1⟩ := zH y hy
      obtain ⟨t', e2, g2⟩ := zH z hz
      rw [ey, e2] at e1
      cases e1
      exact sqT_ints I g1 g2
  refine cr_sortedPX pins s σ H _ us Q I rr ⟨a, ws, rd, rfl, SqL.of h1, fun x hx => ?_, fun ys p hs hb hp => ?_⟩
  · rw [← z1] at hx
    obtain ⟨z, hz, rfl⟩ := List.mem_map.mp hx
    obtain ⟨t, e, g⟩ := zH z hz
    exact ⟨t, e, by rw [rd_at z hz]; exact g⟩
  · obtain ⟨ps, pz, ez⟩ := perm_lift (fun z : L2.V × Int × Int => z.1) hb.perm zs z1
    have mem : ∀ z ∈ ps, z ∈ zs := fun z hz => pz.mem_iff.mp hz
    have rp := repL_unzip (K := X.K) (F := F) fun z hz => z3 z (mem z hz)
    rw [ez] at rp
    refine V F (.ref p) (.adr p) _ _ (Le.refl F) rfl (S.new (o := .lst _) hp ⟨ys, rfl, rp⟩) (q (ps.map (·.2)) p (by rw [← z2]; exact pz.map _) ?_)
    rw [← ez, SrtO.Srtd, List.pairwise_map] at hs
    rw [List.pairwise_map]
    refine List.Pairwise.imp_of_mem (fun {x y} hx hy h => ?_) hs
    have h' : SrtO.lexB (rd y.1) (rd x.1) = false := h
    rw [rd_at _ (mem _ hx), rd_at _ (mem _ hy)] at h'
    have := SrtO.lexB_no.mp h'
    unfold pleq
    omega
/-! ### max and min of a dict with int keys -/
theorem keys_walk {pins : List (Addr × Obj)} {σ : L2.St} {H : Hp} {s : Shared} (I : Inv X pins σ H s) {p : Addr} {o : Obj} {kv : List (Int × Int)} (hp : H p = some (.frz o (.dK (intV kv)))) : ∃ (es : Array DictEntry) (ep : Nat), s.heap.DictRaw p es ep ∧ (p == sysModules) = false ∧ es.size = kv.length ∧ ∀ (i : Nat) (hi : i < es.size), ∃ t, es[i].key = .int ((kv.map (·.1)).getD i 0) t := by
  obtain ⟨hs, hgd, hx, es, ep, vs, hdt, hsz, rel, hm⟩ := I.frzK hp
  obtain ⟨o', es', e1, e2, e3, _, hps, _⟩ := hm
  rw [hgd] at e1
  cases e1
  rw [hdt] at e3
  cases e3
  have hl : es.size = kv.length := by rw [hsz, intV, List.length_map]
  refine ⟨es, ep, ⟨o, hgd, hx, hdt⟩, hs, hl, fun i hi => ?_⟩
  obtain ⟨t, u, k1, k2⟩ := ent_at hps rel i kv[i] es[i] (List.getElem?_eq_getElem (by omega)) (by rw [Array.getElem?_toList]; simp [hi])
  refine ⟨t, ?_⟩
  rw [k1]
  congr 1
  rw [List.getD_eq_getElem?_getD, List.getElem?_map, List.getElem?_eq_getElem (by omega)]
  rfl
theorem call_maxD (hc : X.calm = true) : CallR X (.builtin "max") (fun xs H Q => ∃ (p : Addr) (o : Obj) (kv : List (Int × Int)), xs = [.ref p] ∧ H p = some (.frz o (.dK (intV kv))) ∧ kv ≠ [] ∧ ∀ m, m ∈ kv.map (·.1) → (∀ y ∈ kv.map (·.1), y ≤ m) → Q (.int m) H) := by
  intro pins s σ H xs us Q I r ⟨p, o, kv, ex, hp, hn, q⟩
  subst ex
  obtain rfl := Vals.ref1 r
  obtain ⟨es, ep, hraw, hsm, hl, hk⟩ := keys_walk I hp
  have h0 : 0 < es.size := by rw [hl]; exact List.length_pos_iff.mpr hn
  let num : Nat → Int := fun i => (kv.map (·.1)).getD i 0
  refine PySem.call_max_walk ?_
  refine wpAny_pyIter_dict_raw hsm hraw ?_
  have hpn : p ≠ s.heap.objs.size := by
    obtain ⟨o', e, _⟩ := hraw
    exact Nat.ne_of_lt (Heap.lt_size e)
  have hpl : p < s.heap.objs.size := by
    obtain ⟨o', e, _⟩ := hraw
    exact Heap.lt_size e
  refine ⟨s.heap.objs.size, _, _, es.size, _, _, _, rfl, Walks.rawKeys (A := X.A.in1) (I.ok.hd hc) s.heap.objs.size p hpn es ep, ⟨⟨_, Heap.get?_push_size _ rfl, rfl, rfl⟩, hraw.at fun o e => Heap.get?_push_of_some _ e⟩, fun b hb => ?_, h0, CmpOf.ints_gt num (fun i v ⟨hi, e⟩ => ?_), fun v h' tk hP hkk => ?_⟩
  · rw [Heap.size_push]
    rcases List.mem_cons.mp hb with rfl | hb
    · exact Nat.lt_succ_self _
    · rw [List.mem_singleton] at hb
      subst hb
      exact Nat.lt_succ_of_lt hpl
  · obtain ⟨t, ek⟩ := hk i hi
    exact ⟨t, e.trans ek⟩
  · obtain ⟨hi, e⟩ := hP
    obtain ⟨t, ek⟩ := hk _ hi
    obtain ⟨b1, b2⟩ := argBest_gt num (es.size - 1)
    have hlt : ∀ i, i < es.size → num i ∈ kv.map (·.1) := fun i hi => by
      have hi2 : i < (kv.map (·.1)).length := by rw [List.length_map]; omega
      show (kv.map (·.1)).getD i 0 ∈ _
      rw [List.getD_eq_getElem?_getD, List.getElem?_eq_getElem hi2]
      exact List.getElem_mem hi2
    refine ⟨.int _, H, I.kept (t' := tk) (fun b ob eb => hkk b ob (by simp; exact Nat.ne_of_lt (Heap.lt_size eb)) (Heap.get?_push_of_some _ eb)), ⟨t, e.trans ek⟩, q _ (hlt _ hi) fun y hy => ?_⟩
    obtain ⟨j, hj, rfl⟩ := List.getElem_of_mem hy
    rw [List.length_map] at hj
    have := b2 j (by omega)
    have ej : num j = (kv.map (·.1))[j]'(by rw [List.length_map]; exact hj) := by
      show (kv.map (·.1)).getD j 0 = _
      rw [List.getD_eq_getElem?_getD, List.getElem?_eq_getElem (by rw [List.length_map]; exact hj)]
      rfl
    rw [← ej]
    exact this
theorem cad_maxD (C : Ctx X N k) {kv : List (Int × Int)} (hn : kv ≠ []) (q : ∀ m, m ∈ kv.map (·.1) → (∀ y ∈ kv.map (·.1), y ≤ m) → kd (.int m) ms) : CaD X (.builtin "max") [.dic (intD kv)] ms kd := .of (call_maxD C.calm) fun F vs H Q r S V => by
  obtain ⟨v, rfl, r1⟩ := r.inv1
  obtain ⟨a, us, rfl, ⟨o, h1⟩, h2⟩ := r1
  rw [repK_intV h2] at h1
  exact ⟨a, o, kv, rfl, S.ex _ _ h1, hn, fun m h3 h4 => V.val (d := .int m) S rfl (q m h3 h4)⟩
theorem call_minD (hc : X.calm = true) : CallR X (.builtin "min") (fun xs H Q => ∃ (p : Addr) (o : Obj) (kv : List (Int × Int)), xs = [.ref p] ∧ H p = some (.frz o (.dK (intV kv))) ∧ kv ≠ [] ∧ ∀ m, m ∈ kv.map (·.1) → (∀ y ∈ kv.map (·.1), m ≤ y) → Q (.int m) H) := by
  intro pins s σ H xs us Q I r ⟨p, o, kv, ex, hp, hn, q⟩
  subst ex
  obtain rfl := Vals.ref1 r
  obtain ⟨es, ep, hraw, hsm, hl, hk⟩ := keys_walk I hp
  have h0 : 0 < es.size := by rw [hl]; exact List.length_pos_iff.mpr hn
  let num : Nat → Int := fun i => (kv.map (·.1)).getD i 0
  refine PySem.call_min_walk ?_
  refine wpAny_pyIter_dict_raw hsm hraw ?_
  have hpn : p ≠ s.heap.objs.size := by
    obtain ⟨o', e, _⟩ := hraw
    exact Nat.ne_of_lt (Heap.lt_size e)
  have hpl : p < s.heap.objs.size := by
    obtain ⟨o', e, _⟩ := hraw
    exact Heap.lt_size e
  refine ⟨s.heap.objs.size, _, _, es.size, _, _, _, rfl, Walks.rawKeys (A := X.A.in1) (I.ok.hd hc) s.heap.objs.size p hpn es ep, ⟨⟨_, Heap.get?_push_size _ rfl, rfl, rfl⟩, hraw.at fun o e => Heap.get?_push_of_some _ e⟩, fun b hb => ?_, h0, CmpOf.ints_lt num (fun i v ⟨hi, e⟩ => ?_), fun v h' tk hP hkk => ?_⟩
  · rw [Heap.size_push]
    rcases List.mem_cons.mp hb with rfl | hb
    · exact Nat.lt_succ_self _
    · rw [List.mem_singleton] at hb
      subst hb
      exact Nat.lt_succ_of_lt hpl
  · obtain ⟨t, ek⟩ := hk i hi
    exact ⟨t, e.trans ek⟩
  · obtain ⟨hi, e⟩ := hP
    obtain ⟨t, ek⟩ := hk _ hi
    obtain ⟨b1, b2⟩ := argBest_lt num (es.size - 1)
    have hlt : ∀ i, i < es.size → num i ∈ kv.map (·.1) := fun i hi => by
      have hi2 : i < (kv.map (·.1)).length := by rw [List.length_map]; omega
      show (kv.map (·.1)).getD i 0 ∈ _
      rw [List.getD_eq_getElem?_getD, List.getElem?_eq_getElem hi2]
      exact List.getElem_mem hi2
    refine ⟨.int _, H, I.kept (t' := tk) (fun b ob eb => hkk b ob (by simp; exact Nat.ne_of_lt (Heap.lt_size eb)) (Heap.get?_push_of_some _ eb)), ⟨t, e.trans ek⟩, q _ (hlt _ hi) fun y hy => ?_⟩
    obtain ⟨j, hj, rfl⟩ := List.getElem_of_mem hy
    rw [List.length_map] at hj
    have := b2 j (by omega)
    have ej : num j = (kv.map (·.1))[j]'(by rw [List.length_map]; exact hj) := by
      show (kv.map (·.1)).getD j 0 = _
      rw [List.getD_eq_getElem?_getD, List.getElem?_eq_getElem (by rw [List.length_map]; exact hj)]
      rfl
    rw [← ej]
    exact this
theorem cad_minD (C : Ctx X N k) {kv : List (Int × Int)} (hn : kv ≠ []) (q : ∀ m, m ∈ kv.map (·.1) → (∀ y ∈ kv.map (·.1), m ≤ y) → kd (.int m) ms) : CaD X (.builtin "min") [.dic (intD kv)] ms kd := .of (call_minD C.calm) fun F vs H Q r S V => by
  obtain ⟨v, rfl, r1⟩ := r.inv1
  obtain ⟨a, us, rfl, ⟨o, h1⟩, h2⟩ := r1
  rw [repK_intV h2] at h1
  exact ⟨a, o, kv, rfl, S.ex _ _ h1, hn, fun m h3 h4 => V.val (d := .int m) S rfl (q m h3 h4)⟩
/-! ### list(range(a, b)) -/
theorem de_listR2 (C : Ctx X N k) (hl : X.mg "list" = none) (hm : X.mg "range" = none) {p2 pos2 : Pos} (h : DE X xw a ds ms fun x ms1 => DE X xw b ds ms1 fun y ms2 => ∃ i j : Int, x = .int i ∧ y = .int j ∧ RgOk i j ∧ ∀ q, kd (.adr q) ((q, .lst (rangeD i (j - i).toNat)) :: ms2)) (hg : Gl X "list") (hg2 : Gl X "range")
    (na : starEach [a, b] X.env = (false, eval a X.env) :: starEach [b] X.env) (nb : starEach [b] X.env = (false, eval b X.env) :: starEach [] X.env) (hp : (backTo pos2 (starEach [b] X.env)).any (·.1) = false) : DE X xw (.Call (.Name "list" p) [.Call (.Name "range" p2) [a, b] [] pos2] [] pos) ds ms kd :=
  .of (pe_listRg C.calm hg hl (prg_2 hg2 hm pe_w pe_w na nb hp) rfl) fun F σ H Q W A V => h F σ H _ W A fun F1 v d ms1 H1 e1 r1 S1 k1 => k1 F1 σ H1 _ W (A.mv e1 S1) fun F2 v2 d2 ms2 H2 e2 r2 S2 ⟨i, j, ei, ej, hr, q⟩ => by
    subst ei ej
    refine ⟨i, j, r1, r2, hr, fun q' hq => V F2 (.ref q') (.adr q') _ _ (e1.trans e2) rfl (S2.new (o := .lst (rangeD i (j - i).toNat)) hq ⟨_, rfl, ?_⟩) (q q')⟩
    unfold rangeD rgV
    rw [show ((List.range (j - i).toNat).map fun (n : Nat) => D.int (i + (n : Int))) = (((List.range (j - i).toNat).map fun (n : Nat) => i + (n : Int)).map D.int) by rw [List.map_map]; rfl,
      show ((List.range (j - i).toNat).map fun n => L2.V.int (i + (n : Nat))) = (((List.range (j - i).toNat).map fun (n : Nat) => i + (n : Int)).map L2.V.int) by rw [List.map_map]; rfl]
    exact RepL.of_ints _
/-! ### [..] * n that may change -/
theorem opd_repM {d : D} {xs : List D} {n : Int} (h : LsOf ms d xs) (h1 : -(2 ^ 63) ≤ n) (h2 : n < 2 ^ 63) (hl : xs.length * n.toNat ≤ sizeLine) (q : ∀ p, kd (.adr p) ((p, .lst (List.replicate n.toNat xs).flatten) :: ms)) : OpD X (binaryOp .Mult) d (.int n) ms kd := .of op_rep fun F v u H Q rv ru S V => by
  obtain ⟨a, vs, rfl, g1, g2⟩ := h.at rv S
  exact ⟨a, n, vs, rfl, ru, g1, h1, h2, by rw [g2.length]; exact hl, fun p hp => V F (.ref p) (.adr p) _ _ (Le.refl F) rfl (S.new (o := .lst _) hp ⟨_, rfl, g2.rep _⟩) (q p)⟩
end
end DL

/-! DL16: sorted(d.items()) of a dict that stays. -/
namespace DL
open PySem PySem.Spec PyProof.Rows L2 L2.DX
section
variable {X : Cx} {xw : DX} {N : List Str} {k : Nat} {ds : DEnv} {ms : MS} {kd : DK} {o : Expr} {pos p apos cpos : Pos}
theorem pe_itemsF {td : TE} (he : PE X o td) (hbase : attributeBase o "items" X.env (eval o X.env) = eval o X.env) (hline : (apos.endLine == cpos.line) = true) :
    PE X (.Call (.Attribute o "items" apos) [] [] cpos) (fun σ H Q => td σ H fun x H1 => ∃ d ob kvs, x = .ref d ∧ H1 d = some (.frz ob (.dK kvs)) ∧ ∀ p, H1 p = none → Q (.ref p) (upd H1 p (itemsO p d))) := by
  refine ⟨fun pins s σ H Q I h => ?_⟩
  refine wpAny_Call_method (T := "dict") (id := "dict.items") hbase rfl hline F.plainAttrs_dict F.slot_dict_items F.type_dict_items (thn (he.run pins s σ H _ I h) fun u s1 ⟨x, H1, I1, rx, d, ob, kvs, ex, hd, q⟩ => ?_)
  subst ex
  obtain rfl : u = Value.ref d := rx
  obtain ⟨hs, hgd, hx, es, ep, vs, hdt, hsz, kv, hm⟩ := I1.frzK hd
  refine ⟨hm.dictOf.typeIs, hm.dictOf.mapOf.noDict, ?_⟩
  show wpAny _ _ (callWith cpos (.builtin "dict.items") [.ref d] [] []) _ X.xe s1
  refine method_meetsIn F.slot_dict_items F.entry_dict_items rfl (PySem.evalArgs_none ⟨rfl, hm.dictOf.typeIs, F.args_dict_items_1 _, _, meets_dict_items (mixKind X.prog X.w) d hs, ⟨vs, hm.dictOf⟩, ?_⟩)
  exact ⟨.ref _, upd H1 s1.heap.objs.size (itemsO s1.heap.objs.size d), I1.laid (t' := s1.toks) (fun b u e => Heap.get?_push_of_some _ e) (Nat.le_refl _) (itemsO_ok (Heap.get?_push_size _ rfl)), rfl, q _ (I1.hok.fresh (Nat.le_refl _))⟩
theorem de_srtI (C : Ctx X N k) (hm : X.mg "sorted" = none) (h : DE X xw o ds ms fun d ms1 => ∃ kv, d = .dic (intD kv) ∧ ∀ l (ps : List (Int × Int)), ps.Perm kv → ps.Pairwise (fun e f => e.1 ≤ f.1) → kd (.adr l) ((l, .lst (ps.map fun z => .tup [.int z.1, .int z.2])) :: ms1))
    (hg : Gl X "sorted") (hb : attributeBase o "items" X.env (eval o X.env) = eval o X.env) (hl : (apos.endLine == cpos.line) = true) : DE X xw (.Call (.Name "sorted" p) [.Call (.Attribute o "items" apos) [] [] cpos] [] pos) ds ms kd := by
  refine .of (pe_callB (cr_sortedItemsI C.calm) hg hm bt_sorted (pa_cons (pe_itemsF pe_w hb hl) pa_nil rfl) (by decide +kernel) (by decide +kernel) rfl rfl) fun F σ H Q W A V => ?_
  refine h F σ H _ W A fun F1 v d ms1 H1 e1 r1 S1 ⟨kv, ed, q⟩ => ?_
  subst ed
  obtain ⟨a, us, rfl, ⟨ob, h1⟩, h2⟩ := r1
  rw [repK_intV h2] at h1
  have hA := S1.ex _ _ h1
  refine ⟨a, ob, _, rfl, hA, fun r hr => ?_⟩
  have S2 := S1.newU (u := itemsO r a) hr
  refine ⟨r, a, kv, rfl, upd_same, .inr ⟨ob, by rw [upd_ne (ne_of_none hA hr)]; exact hA⟩, fun l ps hl nd hn pm so => ?_⟩
  obtain ⟨a1, a2, a3⟩ := layT_sep S2 nd fun z m => (hn z m).1
  rw [layT_swap fun z m => (hn z m).2]
  have hl' : layT (upd H1 r (itemsO r a)) ps l = none := by rw [layT_off fun z m => (hn z m).2]; exact hl
  have e3 : (ps.map fun z => D.tup [.int z.2.1, .int z.2.2]) = (ps.map (·.2)).map fun z => D.tup [.int z.1, .int z.2] := by rw [List.map_map]; rfl
  exact V _ (.ref l) (.adr l) _ _ (e1.trans a1) rfl (a2.new (o := .lst _) hl' ⟨_, rfl, by rw [← e3]; exact a3⟩) (q l (ps.map (·.2)) pm so)
end
end DL

/-! DL17: method calls' own shape; dicts of one pair; fields frozen. -/
namespace DL
open PySem PySem.Spec PyProof.Rows L2
theorem ht_of {o : Expr} {m : Str} {apos pos : Pos} {es : List Expr} {env : Env} (hb : attributeBase o m env (eval o env) = eval o env) (hl : (apos.endLine == pos.line) = true)
    (hfew : ((backTo pos (starEach es env)).all (fun x => !x.1) && (backToKw pos (keywordEach [] env)).all (fun x => x.1.isSome)
      && decide (es.length + ([] : List Keyword).length + (if ([] : List Keyword).isEmpty then 0 else 1) < 30)) = true) :
    eval (.Call (.Attribute o m apos) es [] pos) env = (do
      let ov ← eval o env
      standAt apos.atName
      let (f, first) ← holding [ov] (getMethod ov m (do return (← importBound o env).getD true))
      callWith pos f first (backTo pos (starEach es env)) (backToKw pos (keywordEach [] env))) := by
  rw [arm_eval_Call, hb]
  have hform : methodCallForm (es.length + ([] : List Keyword).length) (backTo pos (starEach es env)) (backToKw pos (keywordEach [] env)) = true := hfew
  have hpos : methodCallPos true o env apos pos = pure pos := by unfold methodCallPos; simp [hl]
  congr 1
  funext ov
  congr 1
  funext _
  unfold methodCall
  rw [hform, hpos]
  rfl
section
variable {X : Cx} {xw : DX} {N : List Str} {k : Nat} {ds : DEnv} {ms : MS} {kd : DK} {e a b o value : Expr} {es : List Expr} {pos p apos pos' : Pos} {C f : Addr} {x : Str} {E : DEnds}
theorem mperm {ms ms2 : MS} {K : PySem.W.Frag} {i : Nat} {p : Addr} {o : MO} (h1 : Ms ms i p o) (h2 : MDel ms i ms2) : MLe K ms ((p, o) :: ms2) := by
  have := perm_front h1.at
  rw [← h2.eq] at this
  exact .perm this
theorem de_dic1 (h : ∀ p, DE X xw a ds ((p, .dic []) :: ms) fun x ms1 => DE X xw b ds ms1 fun y ms2 => ∃ ky i ms3, x = keyD ky ∧ Ms ms2 i p (.dic []) ∧ MDel ms2 i ms3 ∧ kd (.adr p) ((p, .dic [(ky, y)]) :: ms3)) : DE X xw (.Dict [some a] [b] pos) ds ms kd :=
  .of (pe_disp (pps_cons pe_w pe_w pps_nil) rfl rfl (by simp) (by simp)) fun F σ H Q W A V p hp => by
    refine h p F σ _ _ W (A.mv (Le.refl F) (A.sep.new (o := .dic []) hp ⟨[], rfl, rfl⟩)) fun F1 v d ms1 H1 e1 r1 S1 k1 => ?_
    refine k1 F1 σ H1 _ W (A.mv e1 S1) fun F2 u y ms2 H2 e2 r2 S2 ⟨ky, i, ms3, ex, hm, hd, q⟩ => ?_
    subst ex
    have ek : v = kV ky := by cases ky <;> exact r1
    have S3 := (mperm hm hd : MLe X.K ms2 _) F2 H2 S2
    obtain ⟨_, w, hw, us, rfl, hu⟩ := S3.get (i := 0) rfl
    have hu' : us = [] := hu
    subst hu'
    show tPairs [] σ H2 _
    refine ⟨hw, [(ky, u)], by rw [ek]; rfl, by simp, ?_⟩
    refine V F2 (.ref p) (.adr p) _ _ (e1.trans e2) rfl (S3.set (i := 0) (o' := .dic [(ky, y)]) rfl ⟨_, rfl, ?_⟩) q
    exact ⟨u, [], rfl, r2, rfl⟩
/-! ### any(xs) of whole numbers -/
theorem truth_ints {prog : Program} {w : World} {A : Around} {bs : List Int} {its : List Value} (e : IntsAre its bs) :
    TruthOf prog w A (fun i v => its.toArray[i]? = some v) (fun i => (bs.map fun b => b != 0).getD i false) := fun i v s Q E hv hq => by
  have hv' : its[i]? = some v := by simpa using hv
  have hi := (List.getElem?_eq_some_iff.mp hv').1
  rw [IntsAre.length e] at hi
  obtain ⟨t, ht⟩ := e.get i _ (List.getElem?_eq_getElem hi)
  rw [hv'] at ht
  cases ht
  have hg : (bs.map fun b => b != 0).getD i false = (bs[i] != 0) := by rw [List.getD_eq_getElem?_getD, List.getElem?_map, List.getElem?_eq_getElem hi]; rfl
  have hq' : Q ((bs.map fun b => b != 0).getD i false) s := hq
  rw [hg] at hq'
  exact PySem.P.truthy_int hq'
theorem cr_anyI (hc : X.calm = true) : CallR X (.builtin "any") (fun vs H Q => ∃ (a : Addr) (ns : List Int), vs = [.ref a] ∧ SqL X.K H a (ns.map L2.V.int) ∧ Q (.bl (ns.any fun b => b != 0)) H) := by
  intro pins s σ H vs us Q I r h
  obtain ⟨a, bs, rfl, hs, q⟩ := h
  obtain ⟨its, rv, hl, _⟩ := I.list hs
  rw [Vals.ref1 r]
  have hb := rv.ints
  refine call_any_walk (iter_any hl.isList fun s₂ e2 st hne => ?_)
  subst e2
  refine ⟨_, _, _, _, _, _, _, rfl, Walks.list (A := X.A.in1) (I.ok.hd hc) _ a hne its.toArray, st, truth_ints hb, fun h' tk hk => ?_⟩
  refine ⟨.bl _, H, I.kept fun b o eo => hk b o (fun hmem => ?_) (Heap.get?_push_of_some _ eo), ?_, q⟩
  · rcases List.mem_cons.mp hmem with e1 | hmem
    · exact absurd (e1 ▸ Heap.lt_size eo) (Nat.lt_irrefl _)
    · cases hmem
  · show Value.bool _ = Value.bool _
    have hln : its.toArray.size = (bs.map fun b => b != 0).length := by rw [List.size_toArray, List.length_map]; exact IntsAre.length hb
    rw [hln, L2.any_range, List.any_map]
    rfl
theorem cad_anyI (C : Ctx X N k) {d : D} {ns : List Int} (h : LsOf ms d (ns.map D.int)) (q : kd (.bl (ns.any fun b => b != 0)) ms) : CaD X (.builtin "any") [d] ms kd := .of (cr_anyI C.calm) fun F vs H Q r S V => by
  obtain ⟨v, rfl, r1⟩ := r.inv1
  obtain ⟨a, us, rfl, h1, h2⟩ := h.at r1 S
  rw [h2.ints] at h1
  exact ⟨a, ns, rfl, SqL.of h1, V.val (d := .bl _) S rfl q⟩
end
end DL
namespace DL
open PySem PySem.Spec PyProof.Rows L2
/-! ### repr of what stays -/
theorem cad_reprP {X : Cx} {N : List Str} {k : Nat} {ms : MS} {kd : DK} (C : Ctx X N k) (gd : X.A.guards = some []) {d : D} {n m : Nat} (hs : Shw d n m) (hn : n ≤ 60) (hm : m ≤ sizeLine) (q : kd (.str (pd d).shown) ms) : CaD X (.builtin "repr") [d] ms kd := by
  intro F vs H Q r S V pins s σ us I rv
  obtain ⟨v, rfl, r1⟩ := r.inv1
  have dp : Dp X.K H v (pd d) := dp_of S hs.pl r1
  cases rv with
  | cons ru rr =>
    cases rr
    have tok : L2.Inv X pins σ H { s with toks := s.toks + 1 } := I.tok (s.toks + 1)
    have refs : ∀ {p : Addr} {u : Value}, Dp X.K H (.ref p) (pd d) → RelV (.ref p) u → wpAny (model X.prog X.w) X.A (call (.builtin "repr") [u]) (EP X pins σ Q) X.xe s := fun {p u} dp ru => by
      obtain ⟨as, rd⟩ := Dp.reads I _ _ _ dp ru
      obtain rfl : u = Value.ref p := ru
      have hu := C.room.un
      have h1 := hs.dp
      exact repr_of_reads' rd hs.sh (PyData.noDict_hsm hs.hd) gd (by omega) (fun _ _ e => e) (fun h' t tk hk => ⟨.str _, H, I.kept (t' := tk) hk, ⟨t, rfl⟩, V.val (d := .str _) S rfl q⟩) (Nat.le_trans hs.ln hm)
    cases d with
    | non =>
      cases r1
      cases ru
      exact PySem.P.repr_of_none ⟨.str _, H, tok, ⟨_, rfl⟩, V.val (d := .str _) S rfl q⟩
    | bl b =>
      cases r1
      cases ru
      exact PySem.P.repr_of_bool ⟨.str _, H, tok, ⟨_, rfl⟩, V.val (d := .str _) S rfl q⟩
    | int i =>
      cases r1
      obtain ⟨t, rfl⟩ := ru
      have hi : decide (i.natAbs.log2 < 1920) = true := hs.sh
      exact PySem.P.repr_of_int (of_decide_eq_true hi) ⟨.str _, H, tok, ⟨_, rfl⟩, V.val (d := .str _) S rfl q⟩
    | str z =>
      cases r1
      obtain ⟨t, rfl⟩ := ru
      exact PySem.P.repr_of_str ⟨.str _, H, tok, ⟨_, rfl⟩, V.val (d := .str _) S rfl q⟩ (hsz := Nat.le_trans hs.ln hm)
    | lst xs =>
      obtain ⟨a, vs, rfl, _⟩ := r1
      exact refs dp ru
    | tup xs =>
      obtain ⟨a, vs, rfl, _⟩ := r1
      exact refs dp ru
    | _ => exact absurd hs.pl Bool.false_ne_true
end DL

/-! DL18: keywords in any sequence. -/
namespace DL
open PySem PySem.Spec PyProof.Rows L2
/-- items by places -/
def re {α : Type} (idx : List Nat) (l : List α) : List α := idx.filterMap fun i => l[i]?
theorem re_vals {vs : List L2.V} {us : List Value} (h : Vals vs us) : ∀ {idx : List Nat}, Vals (re idx vs) (re idx us)
  | [] => .nil
  | i :: r => by
    have ih := re_vals h (idx := r)
    unfold re at ih ⊢
    rw [List.filterMap_cons, List.filterMap_cons]
    have hl := h.length
    by_cases hi : i < vs.length
    · obtain ⟨u, h1, h2⟩ := h.get (List.getElem?_eq_getElem hi)
      rw [List.getElem?_eq_getElem hi, h1]
      exact .cons h2 ih
    · rw [List.getElem?_eq_none (by omega), List.getElem?_eq_none (by omega)]
      exact ih
theorem re_repL {K : PySem.W.Frag} {F : Hp} {ds : List D} {vs : List L2.V} (h : RepL K F ds vs) : ∀ {idx : List Nat}, RepL K F (re idx ds) (re idx vs)
  | [] => rfl
  | i :: r => by
    have ih := re_repL h (idx := r)
    unfold re at ih ⊢
    rw [List.filterMap_cons, List.filterMap_cons]
    have hl := h.length
    by_cases hi : i < ds.length
    · obtain ⟨u, h1, h2⟩ := h.get (List.getElem?_eq_getElem hi)
      rw [List.getElem?_eq_getElem hi, h1]
      exact ⟨u, _, rfl, h2, ih⟩
    · rw [List.getElem?_eq_none (by omega), List.getElem?_eq_none (by omega)]
      exact ih
theorem toSp_re {K : PySem.W.Frag} {S S0 : DSp} {idx : List Nat} (hS : ∀ vs ms kd xk, S vs ms kd xk → S0 (re idx vs) ms kd xk) {vs : List L2.V} {H : Hp} {Q : VK} {E : XK} (h : toSp K S vs H Q E) : toSp K S0 (re idx vs) H Q E := by
  obtain ⟨F, ds, ms, kd, xk, r, s, q, v, x⟩ := h
  exact ⟨F, re idx ds, ms, kd, xk, re_repL r, s, hS _ _ _ _ q, v, x⟩
/-- n places, then keywords -/
def KwI (K : PySem.W.Frag) (fd : FuncData) (n : Nat) (ps ks : List Str) (idx : List Nat) : Prop := ∀ (s : Shared) (us ws : List Value), K.In s.heap → us.length = n → ws.length = ks.length → BindsTo s fd ⟨us, ks.zip ws⟩ (ps.zip (re idx (us ++ ws)))
def DefKw (P : Program) (w : World) (K : PySem.W.Frag) (mg : Str → Option Value) (base : Heap) (k : Nat) (x : Str) (n : Nat) (ks : List Str) (S : DSp) : Prop :=
  ∃ f fd ps idx S0, DefAtG P w K mg base k x f fd ps S0 ∧ (∀ vs ms kd xk, S vs ms kd xk → vs.length = n + ks.length ∧ S0 (re idx vs) ms kd xk) ∧ KwI K fd n ps ks idx
end DL

/-! DL19: a def that an except suite hands its error to. -/
namespace DL
open PySem PySem.Spec PyProof.Rows L2
/-- the context bears the error a of class C -/
structure PinX (X : Cx) (a dx C : Addr) : Prop where
  ex : ∃ oe : Obj, (a, oe) ∈ X.pn ∧ Zc (.ref C) (some dx) oe ∧ ∃ fv, oe.data = .fields fv
theorem Suite.pinX {X : Cx} {a dx C : Addr} (U : Suite X a dx C) : PinX X a dx C := by
  obtain ⟨X0, oe, pn, rfl, hz, hf⟩ := U.ex
  exact ⟨oe, List.mem_cons_self, hz, hf⟩
section
variable {X : Cx} {xw : DX} {ds : DEnv} {ms : MS} {kd : DK}
theorem PinX.at {a dx C : Addr} (U : PinX X a dx C) {pins : List (Addr × Obj)} {σ : L2.St} {H : Hp} {s : Shared} (I : Inv X pins σ H s) {u : V} (hu : H dx = some (.xd [("value", u)])) : ∃ oe od, PySem.W.InstAt s.heap a oe C (some od) := by
  obtain ⟨oe, hm, hz, fv, hv⟩ := U.ex
  have hget := (I.pin (a, oe) (List.mem_append_left _ hm)).1
  obtain ⟨mA, hns, _⟩ := (show ObjOk X.prog X.w H s.heap dx (.xd [("value", u)]) from I.hok dx _ hu)
  obtain ⟨od, ho, _⟩ := lookIn_ns hns
  exact ⟨oe, od, hget, hz.1, by unfold PySem.W.notCls; rw [hv] <;> rfl, by rw [hz.2]; exact ho⟩
theorem cad_isErrP {a dx C : Addr} {c v : D} {cv : Value} {b : Bool} (U : PinX X a dx C) (T : ExcC X.K C) (hc : ∀ F w, Rep X.K F c w → ∀ u, RelV w u → u = cv) (hk : PySem.W.kitOne X.K (.ref C) cv = some b) (q : kd (.bl b) ms) : CaD X (.builtin "isinstance") [.err a dx v, c] ms kd := by
  intro F vs H Q r S V pins s σ us I rv
  obtain ⟨x, y, rfl, rx, ry⟩ := r.inv2
  obtain ⟨rfl, u, hu, ru⟩ := rx
  cases rv with
  | cons g1 rr =>
    cases rr with
    | cons g2 rr =>
      cases rr
      cases g1
      have e := hc F y ry _ g2
      subst e
      obtain ⟨oe, od, J⟩ := U.at I (S.ex _ _ hu)
      exact PySem.W.kia_one (err_kit T) I.kIn J hk (fun z => nomatch z) fun tk => ⟨.bl b, H, I.kept (t' := tk) fun _ _ z => z, rfl, V.val (d := .bl b) S rfl q⟩
theorem repL_adrs {K : PySem.W.Frag} {F : Hp} : ∀ {cs : List Addr} {ws : List L2.V}, RepL K F (cs.map D.adr) ws → ws = cs.map L2.V.ref
  | [], _, h => h
  | c :: r, _, ⟨w, t, e, g1, g2⟩ => by
    have g1 : w = .ref c := g1
    rw [e, g1, repL_adrs g2]; rfl
theorem vals_refs : ∀ {cs : List Addr} {its : List Value}, Vals (cs.map L2.V.ref) its → its = cs.map Value.ref
  | [], _, h => by cases h; rfl
  | c :: r, _, h => by
    cases h with
    | cons e rr =>
      have e := (show _ = Value.ref c from e)
      rw [e, vals_refs rr]; rfl
/-- .. a tuple of classes -/
theorem cad_isErrT {a dx C : Addr} {v : D} {cs : List Addr} {b : Bool} (U : PinX X a dx C) (T : ExcC X.K C) (hk : PySem.W.kitAny X.K (.ref C) (cs.map Value.ref) = some b) (q : kd (.bl b) ms) : CaD X (.builtin "isinstance") [.err a dx v, .tup (cs.map D.adr)] ms kd := by
  intro F vs H Q r S V pins s σ us I rv
  obtain ⟨x, y, rfl, rx, ry⟩ := r.inv2
  obtain ⟨rfl, u, hu, ru⟩ := rx
  obtain ⟨tp, ws, rfl, h1, h2⟩ := ry
  cases rv with
  | cons g1 rr =>
    cases rr with
    | cons g2 rr =>
      cases rr
      cases g1
      cases g2
      obtain ⟨oe, od, J⟩ := U.at I (S.ex _ _ hu)
      obtain ⟨its, rvs, p, hz⟩ := I.tuple (S.sqT h1)
      have hw : ws = cs.map L2.V.ref := repL_adrs h2
      have hi : its = cs.map Value.ref := vals_refs (by rw [hw] at rvs; exact rvs)
      subst hi
      obtain ⟨ob, o1, o2, n, o3⟩ := p
      obtain ⟨oc, od2, dt, sl⟩ := ob
      simp only at o2 o3
      subst o2 o3
      exact PySem.W.kia_tup (err_kit T) I.kIn J o1 hk (fun z => nomatch z) fun tk => ⟨.bl b, H, I.kept (t' := tk) fun _ _ z => z, rfl, V.val (d := .bl b) S rfl q⟩
theorem de_errValP {a dx C : Addr} (U : PinX X a dx C) (T : XfC X.K C) (hno : PySem.W.findIn X.K (.ref C) "value" = some none) {e : Expr} {pos : Pos} (h : DE X xw e ds ms fun d ms1 => ∃ v, d = .err a dx v ∧ kd v ms1)
    (hb : attributeBase e "value" X.env (eval e X.env) = eval e X.env) : DE X xw (.Attribute e "value" pos) ds ms kd := fun F σ H Q W A V pins s I => by
  refine attr_of hb (thn (h F σ H (fun x H1 => x = .ref a ∧ ∃ u, H1 dx = some (.xd [("value", u)]) ∧ Q u H1) W A (fun F1 x d ms1 H1 e1 r1 S1 ⟨v, ed, q⟩ => ?_) pins s I) fun u s1 ⟨x, H1, I1, rx, ex, v, ea, q⟩ => ?_)
  · subst ed
    obtain ⟨rfl, u, hu, ru⟩ := r1
    exact ⟨rfl, u, S1.ex _ _ hu, V F1 u v ms1 H1 e1 ru S1 q⟩
  · subst ex
    have hu : u = Value.ref a := rx
    subst hu
    obtain ⟨oe, hm, hz, fv, hv⟩ := U.ex
    have ha := (I1.pin (a, oe) (List.mem_append_left _ hm)).1
    obtain ⟨mA, hns, hr⟩ := (show ObjOk X.prog X.w H1 s1.heap dx (.xd [("value", v)]) from I1.hok dx _ ea)
    obtain ⟨od, ho, hl⟩ := lookIn_ns hns
    obtain ⟨w, hw, rw_⟩ := RelO.some_of (v := v) (o := mA "value") (by have := hr "value"; exact this)
    have J : PySem.W.InstAt s1.heap a oe C (some od) := ⟨ha, hz.1, by unfold PySem.W.notCls; rw [hv] <;> rfl, by rw [hz.2]; exact ho⟩
    exact HandSPX.exc_get I1.kIn J T.ga T.gg T.exC (PySem.W.findObj_own T.hdC hno rfl (by rw [hl, hw])) (handed_of rw_) ⟨v, H1, I1.tok _, rw_, q⟩
theorem de_tyB {x : Str} {T : String} {pos : Pos} (hg : Gl X x) (hm : X.mg x = none) (hv : bootBuiltins x = some (.type T)) (hn : x ≠ "__name__") (hd : (x == ("__debug__" : Str)) = false) (q : kd (.ty T) ms) : DE X xw (.Name x pos) ds ms kd :=
  fun F σ H Q W A V pins s I => ld_blt I hg hm hv ⟨.ty T, H, I, rfl, V.val (d := .ty T) A.sep rfl q⟩ hn hd
end
/-! ### such a def -/
/-- a def's promise, its error told -/
structure FnP (P : Program) (w : World) (K : PySem.W.Frag) (mg : Str → Option Value) (base : Heap) (CX : CXT) (k : Nat) (f : Addr) (fd : FuncData) (ps : List Str) (sp : Addr × Obj → Sp) : Prop where
  len : ∀ p vs H Q E, sp p vs H Q E → vs.length = ps.length
  run : ∀ (A : Around) (outer : List Env) (s : Shared) (H : Hp) (args : Args) (us : List Value) (vs : List V) (Q : VK) (E : XK) (p : Addr × Obj), L2H.RoomH k A → L2H.PinOk outer H s p → Env0 P w K mg base A outer s H →
    BindsTo s fd args (ps.zip us) → Vals vs us → sp p vs H Q E → codeAny (model P w) A (.call (.ref f) args) (CR CX outer P w H s Q E) s
theorem fn_ofP {CX : CXT} {P : Program} {w : World} {K : PySem.W.Frag} {mg : Str → Option Value} {base : Heap} {k : Nat} {f : Addr} {name qual : Str} {params : Arguments} {body : List Stmt} {scope : Scope} {dV kV doc pm cdv ct oc : Value} {an od : Option Addr}
    {osl : Array (Option Value)} {N ps : List Str} {sp : Addr × Obj → Sp} (lk : K.lookup f = some ⟨oc, od, .func (PySem.W.fnOf name qual params body scope dV kV doc pm an cdv ct), osl⟩) (hcd : PySem.W.codeIn K cdv qual = true) (S : FnScope N ps scope)
    (len : ∀ p vs H Q E, sp p vs H Q E → vs.length = ps.length)
    (hbody : ∀ (A : Around) (outer : List Env) (s : Shared) (H : Hp) (vs : List V) (Q : VK) (E : XK) (p : Addr × Obj), L2H.RoomH k (A.deeper (envOfC qual scope s.heap.objs.size f cdv)) → sp p vs H Q E →
      wSs (L2H.cxH CX P w K mg base N qual scope f cdv A outer s H E p) body { nx := fun _ H' => Q .non H', rt := Q } (start N vs) H) :
    FnP P w K mg base CX (k + 1) f (PySem.W.fnOf name qual params body scope dV kV doc pm an cdv ct) ps sp := by
  refine ⟨len, fun A outer s H args us vs Q E p hr hpin e0 hb r hsp => ?_⟩
  have hln := len _ _ _ _ _ hsp
  have sub : ∀ b o, base.get? b = some o → s.heap.get? b = some o := fun b o e => (e0.bs b o e).1
  have KX : K.In s.heap := e0.mod.kin.keeps sub
  have lims : s.heap.NoLimit := e0.mod.nolimit.keeps sub
  have kinds : ∀ y ∈ ps.zip us, scope.names.lookup y.1 = some .local ∨ (scope.names.lookup y.1 = some .cell ∧ ((cellsFrom (s.heap.objs.size + 1) scope.names []).lookup y.1).isSome = true) := by
    rintro ⟨n, v⟩ hy
    exact (S.par n (List.of_mem_zip hy).1).imp id fun q => ⟨q, PySem.W.cellsFrom_some _ _ _ (.inl q)⟩
  refine codeAny_call_function hr.depth (KX _ _ lk) rfl S.co S.gen rfl (PySem.W.codeRec_of KX hcd) (hb _ _ _ _ (wpAny_newFunctionEnv_cells S.kind kinds fun env he s1 x => ?_))
  subst he
  refine ⟨lims.keeps x.toInCall.keep, codeAny_func ?_⟩
  have I := L2H.inv_startH (CX := CX) (E := E) S hpin e0 hln r x
  refine wpAny_mono (pss_w.run [] s1 (start N vs) H _ I (hbody A outer s H vs Q E p (hr.deeper _) hsp)) (fun fl sE hE => ?_) fun e sE hE => hE
  match fl, hE with
  | .ret u, ⟨v, σE, HE, J, rv, q⟩ => exact ⟨v, HE, J.os, J.bare, J.base, J.hok, rv, q⟩
  | .next, ⟨σE, HE, J, q⟩ => exact ⟨V.non, HE, J.os, J.bare, J.base, J.hok, rfl, q⟩
  | .brk, ⟨_, _, _, q⟩ => exact False.elim q
  | .cont, ⟨_, _, _, q⟩ => exact False.elim q
theorem run_fnP {X : Cx} {pins : List (Addr × Obj)} {σ : L2.St} {H : Hp} {s : Shared} {Q : VK} {us : List Value} {vs : List V} {CX : CXT} {k : Nat} {f : Addr} {fd : FuncData} {ps : List Str} {sp : Addr × Obj → Sp} {E : L2.St → XK} {p : Addr × Obj} (F : FnP X.prog X.w X.K X.mg X.base CX k f fd ps sp)
    (hr : L2H.RoomH k X.A) (hp : p ∈ X.pn) (hb : Binds X.K fd ps []) (hx : PassesAt CX X σ (E σ)) (I : Inv X pins σ H s) (r : Vals vs us) (h : sp p vs H Q (E σ)) : wpAny (model X.prog X.w) X.A (call (.ref f) us) (EP X pins σ Q) X.xe s := by
  have hln : us.length = ps.length := by rw [← r.length]; exact F.len _ _ _ _ _ h
  have bb := hb s us I.kIn (by rw [List.append_nil]; exact hln)
  rw [List.append_nil] at bb
  obtain ⟨g1, g2, g3, g4, g5⟩ := I.pin p (List.mem_append_left _ hp)
  have hpin : L2H.PinOk X.stack H s p := ⟨g1, g2, fun z => by
    rcases List.mem_cons.mp (I.stkSub p.1 z) with e | e
    · exact g3 e
    · exact g4 e, g5⟩
  refine wpAny_call (codeAny_mono (F.run X.A X.stack s H ⟨us, []⟩ us vs Q (E σ) p hr hpin I.env0 bb r h) fun rs sE hq => ?_)
  match rs, hq with
  | .error e, hq => exact hx pins H s e sE I hq
  | .ok (.ret u), hq => exact I.after hq
  | .ok .next, hq => exact False.elim hq
  | .ok .brk, hq => exact False.elim hq
  | .ok .cont, hq => exact False.elim hq
/-- its promise on data; S a dx C -/
abbrev PSp := Addr → Addr → Addr → DSp
def toSpP (K : PySem.W.Frag) (S : PSp) (p : Addr × Obj) : Sp := fun vs H Q E => ∃ dx C, Zc (.ref C) (some dx) p.2 ∧ (∃ fv, p.2.data = .fields fv) ∧ toSp K (S p.1 dx C) vs H Q E
structure DefAtP (P : Program) (w : World) (K : PySem.W.Frag) (mg : Str → Option Value) (base : Heap) (k : Nat) (x : Str) (f : Addr) (fd : FuncData) (ps : List Str) (S : PSp) : Prop where
  fn : FnP P w K mg base (L2.CX P w) k f fd ps (toSpP K S)
  gl : mg x = some (.ref f)
  kp : PySem.W.keepIn K (.ref f) = true
  bn : Binds K fd ps []
theorem def_okP {P : Program} {w : World} {K : PySem.W.Frag} {mg : Str → Option Value} {base : Heap} {x qual : Str} {st : Stmt} {f : Addr} {fd : FuncData} {N ps : List Str} {k : Nat} {S : PSp} (F : Fun K x qual st f fd) (Sc : FnScope N ps (defScope st)) (gl : mg x = some (.ref f)) (bn : Binds K fd ps [])
    (len : ∀ a dx C vs ms kd xk, S a dx C vs ms kd xk → vs.length = ps.length)
    (body : ∀ (cdv : Value) (A : Around) (outer : List Env) (s : Shared) (H : Hp) (E : XK) (p : Addr × Obj) (dx C : Addr), PinX (L2H.cxH (L2.CX P w) P w K mg base N qual (defScope st) f cdv A outer s H E p) p.1 dx C →
      ∀ vs ms kd xk, S p.1 dx C vs ms kd xk → DSs (L2H.cxH (L2.CX P w) P w K mg base N qual (defScope st) f cdv A outer s H E p) xNo (defBody st) (startD N vs) ms { nx := fun _ ms2 => ∃ ms3, MLe K ms2 ms3 ∧ kd .non ms3, rt := fun d ms2 => ∃ ms3, MLe K ms2 ms3 ∧ kd d ms3 }) :
    DefAtP P w K mg base (k + 1) x f fd ps S := by
  obtain ⟨oc, od, kV, doc, pm, an, cdv, ct, osl, rfl, lk, hcd⟩ := F.ex
  refine ⟨fn_ofP lk hcd Sc (fun p vs H Q E ⟨dx, C, _, _, F', ds, ms, kd, xk, r, s, q, v, xx⟩ => by rw [r.length]; exact len _ _ _ _ _ _ _ q) fun A outer s H vs Q E p hr ⟨dx, C, hz, hf, F', ds, ms, kd, xk, r, sp, q, v, xx⟩ => ?_, gl, F.kp, bn⟩
  refine body cdv A outer s H E p dx C ⟨p.2, List.mem_cons_self, hz, hf⟩ ds ms kd xk q F' (L2.start N vs) H _ (fun _ _ _ _ => False) ⟨sr_start N r, sp, takes0, xcNo⟩
    ⟨fun F2 ds' σ' ms' H' e sr S2 ⟨ms3, l, q2⟩ => v F2 .non .non ms3 H' e rfl (l _ _ S2) q2, fun F2 v2 d2 ms' H' e r2 S2 ⟨ms3, l, q2⟩ => v F2 v2 d2 ms3 H' e r2 (l _ _ S2) q2, fun _ _ _ _ _ _ _ _ z => z.elim, fun _ _ _ _ _ _ _ _ z => z.elim⟩
section
variable {X : Cx} {xw : DX} {ds : DEnv} {ms : MS} {kd : DK}
theorem de_callP {k : Nat} {a dx C : Addr} {x : Str} {f : Addr} {fd : FuncData} {ps : List Str} {S : PSp} {e : Expr} {es : List Expr} {pos p : Pos} (G : DefAtP X.prog X.w X.K X.mg X.base k x f fd ps S) (hr : L2H.RoomH k X.A) (U : PinX X a dx C) (h : DA X xw (e :: es) ds ms fun vs ms1 => ∃ ms2, MLe X.K ms1 ms2 ∧ S a dx C vs ms2 kd fun Cx d ms2 => xw Cx d ds ms2) (hg : Gl X x)
    (hdb : (x == ("__debug__" : Str)) = false) (he : starEach (e :: es) X.env = (false, eval e X.env) :: starEach es X.env) (hpl : (backTo pos (starEach es X.env)).any (·.1) = false) : DE X xw (.Call (.Name x p) (e :: es) [] pos) ds ms kd := fun F σ H Q W A V pins s I => by
  obtain ⟨oe, hm, hz, hf⟩ := U.ex
  refine wpAny_Call_Name_kw (ld_glob I hg G.gl ?_ hdb)
  refine PySem.W.callWith_K (h₀ := X.base) I.ok.mod.kin G.kp (thn (h F σ H (fun vs H1 => toSp X.K (S a dx C) vs H1 Q (WE W σ)) W A (fun F1 vs xs ms1 H1 e1 r1 S1 ⟨ms2, l, k1⟩ => to_sp (A.mv e1 (l _ _ S1)) rfl r1 (V.mono e1) k1) pos pins s I) fun us s1 ⟨vs, H1, I1, r, q⟩ => ⟨I1.kIn, ?_⟩) he hpl
  exact run_fnP (p := (a, oe)) (E := WE W) G.fn hr hm G.bn (passAt A.tk σ) I1 r ⟨dx, C, hz, hf, q⟩
theorem ds_setS {N : List Str} (hN : X.N = N) (nd : N.Nodup) {x : Str} {i : Nat} {e : Expr} {pos pos' : Pos} {E : DEnds} (hi : Ix N x i) (h : DE X xw e ds ms fun d ms1 => ∃ ds', Put ds i (some d) ds' ∧ E.nx ds' ms1) (hx : Loc X.env.scope x) (hs : swapsWith e (some (.Name x pos')) pos.line X.env = pure false)
    (hf : X.fn x = true ∨ X.env.scope.names.lookup x = some .local) : DS X xw (.Assign [.Name x pos'] e pos) ds ms E :=
  .of (ps_set (by rw [hN]; exact nd) (by rw [hN]; exact hi.at) hx pe_w hs hf) fun F σ H D W A V => h F σ H _ W A fun F1 v d ms1 H1 e1 r1 S1 ⟨ds', hp, q⟩ => V.nx F1 ds' _ ms1 H1 e1 (by rw [hp.eq]; exact (A.sr.mono e1).set i r1) S1 q
end
end DL

/-! V0: a def's text as a small tree of its own, and what is to be shown of it, reckoned. -/
namespace DL
open PySem PySem.Spec PyProof.Rows L2
/-! ### slots, the store -/
@[reducible] def getK : DEnv → Nat → (D → Prop) → Prop
  | o :: _, 0, k => match o with
    | some d => k d
    | none => False
  | _ :: ds, i + 1, k => getK ds i k
  | [], _, _ => False
@[reducible] def setK : DEnv → Nat → Option D → (DEnv → Prop) → Prop
  | _ :: ds, 0, d, k => k (d :: ds)
  | o :: ds, i + 1, d, k => setK ds i d fun ds' => k (o :: ds')
  | [], _, _, _ => False
@[reducible] def wipeK : List Nat → DEnv → (DEnv → Prop) → Prop
  | [], ds, k => k ds
  | i :: is, ds, k => setK ds i none fun ds' => wipeK is ds' k
@[reducible] def msetK : MS → Nat → MO → (MS → Prop) → Prop
  | (a, _) :: ms, 0, o, k => k ((a, o) :: ms)
  | q :: ms, i + 1, o, k => msetK ms i o fun ms' => k (q :: ms')
  | [], _, _, _ => False
@[reducible] def mdelK : MS → Nat → (MS → Prop) → Prop
  | _ :: ms, 0, k => k ms
  | q :: ms, i + 1, k => mdelK ms i fun ms' => k (q :: ms')
  | [], _, _ => False
theorem getK_at : ∀ {ds : DEnv} {i : Nat} {k : D → Prop}, getK ds i k → ∃ d, ds[i]? = some (some d) ∧ k d
  | some d :: _, 0, k, h => ⟨d, rfl, h⟩
  | none :: _, 0, k, h => h.elim
  | o :: ds, i + 1, k, h => by
    have h' : getK ds i k := h
    obtain ⟨d, h1, h2⟩ := getK_at h'
    exact ⟨d, by simpa using h1, h2⟩
  | [], 0, k, h => h.elim
  | [], _ + 1, k, h => h.elim
theorem setK_at : ∀ {ds : DEnv} {i : Nat} {d : Option D} {k : DEnv → Prop}, setK ds i d k → i < ds.length ∧ k (ds.set i d)
  | _ :: ds, 0, d, k, h => ⟨Nat.zero_lt_succ _, h⟩
  | o :: ds, i + 1, d, k, h => by
    obtain ⟨h1, h2⟩ := setK_at (ds := ds) (i := i) h
    exact ⟨Nat.succ_lt_succ h1, h2⟩
  | [], 0, d, k, h => h.elim
  | [], _ + 1, d, k, h => h.elim
theorem wipeK_at : ∀ {is : List Nat} {ds : DEnv} {k : DEnv → Prop}, wipeK is ds k → ∃ es : DEnv, es.length = ds.length ∧ (∀ (i : Nat) (d : D), es[i]? = some (some d) → ds[i]? = some (some d)) ∧ k es
  | [], ds, k, h => ⟨ds, rfl, fun _ _ e => e, h⟩
  | i :: is, ds, k, h => by
    obtain ⟨_, h2⟩ := setK_at h
    obtain ⟨es, e1, e2, e3⟩ := wipeK_at h2
    refine ⟨es, by rw [e1, List.length_set], fun j d e => ?_, e3⟩
    have := e2 j d e
    rw [List.getElem?_set] at this
    split at this
    · first
        | cases this
        | (split at this <;> cases this)
    · exact this
theorem put_set : ∀ {ds : DEnv} {i : Nat} {d : Option D}, i < ds.length → Put ds i d (ds.set i d)
  | _ :: _, 0, _, _ => .z
  | _ :: ds, i + 1, _, h => .s (put_set (ds := ds) (Nat.lt_of_succ_lt_succ h))
theorem msetK_at : ∀ {ms : MS} {i : Nat} {o : MO} {k : MS → Prop}, msetK ms i o k → ∃ ms', MPut ms i o ms' ∧ k ms'
  | (a, _) :: ms, 0, o, k, h => ⟨_, .z, h⟩
  | q :: ms, i + 1, o, k, h => by
    obtain ⟨ms', h1, h2⟩ := msetK_at (ms := ms) (i := i) h
    exact ⟨_, .s h1, h2⟩
  | [], 0, _, _, h => h.elim
  | [], _ + 1, _, _, h => h.elim
theorem mdelK_at : ∀ {ms : MS} {i : Nat} {k : MS → Prop}, mdelK ms i k → ∃ ms', MDel ms i ms' ∧ k ms'
  | q :: ms, 0, k, h => ⟨_, .z, h⟩
  | q :: ms, i + 1, k, h => by
    obtain ⟨ms', h1, h2⟩ := mdelK_at (ms := ms) (i := i) h
    exact ⟨_, .s h1, h2⟩
  | [], 0, _, h => h.elim
  | [], _ + 1, _, h => h.elim
theorem nm_of : ∀ {N : List Str} {ds : DEnv} {i : Nat} {x : Str} {d : D}, N[i]? = some x → ds[i]? = some (some d) → Nm N ds x i d
  | _ :: _, _ :: _, 0, _, _, h, g => by simp at h g; subst h; subst g; exact .z
  | _ :: _, _ :: _, _ + 1, _, _, h, g => .s (nm_of (by simpa using h) (by simpa using g))
  | [], _, _, _, _, h, _ => by simp at h
  | _ :: _, [], _, _, _, _, g => by simp at g
theorem ix_of : ∀ {N : List Str} {i : Nat} {x : Str}, N[i]? = some x → Ix N x i
  | _ :: _, 0, _, h => by simp at h; subst h; exact .z
  | _ :: _, _ + 1, _, h => .s (ix_of (by simpa using h))
  | [], _, _, h => by simp at h

/-! ### branches -/
@[reducible] def vIf (b : Bool) (p q : Prop) : Prop := match b with
  | true => p
  | false => q
theorem vIf_and {b : Bool} {p q : Prop} (h : vIf b p q) : (b = true → p) ∧ (b = false → q) := by
  cases b
  · exact ⟨fun h => absurd h (by decide), fun _ => h⟩
  · exact ⟨fun _ => h, fun h => absurd h (by decide)⟩
theorem vIf_dec {p : Prop} [Decidable p] {A B : Prop} (h1 : p → A) (h2 : ¬ p → B) : vIf (decide p) A B := by
  by_cases h : p
  · rw [decide_eq_true h]; exact h1 h
  · rw [decide_eq_false h]; exact h2 h
theorem vIf_nec {p : Prop} [Decidable p] {A B : Prop} (h1 : ¬ p → A) (h2 : p → B) : vIf (!decide p) A B := by
  by_cases h : p
  · rw [decide_eq_true h]; exact h2 h
  · rw [decide_eq_false h]; exact h1 h
theorem vIf_bl {b : Bool} {A B : Prop} (h1 : b = true → A) (h2 : b = false → B) : vIf b A B := by
  cases b
  · exact h2 rfl
  · exact h1 rfl
theorem vIf_t {b : Bool} {A B : Prop} (h : b = true) (a : A) : vIf b A B := by subst h; exact a
theorem vIf_f {b : Bool} {A B : Prop} (h : b = false) (a : B) : vIf b A B := by subst h; exact a

/-! ### operators on data -/
abbrev KB := Bool → MS → Prop
@[reducible] def lsK (ms : MS) (d : D) (k : List D → Prop) : Prop := match d with
  | .lst xs => k xs
  | .adr p => ∃ i xs, Ms ms i p (.lst xs) ∧ k xs
  | _ => False
theorem lsK_at {ms : MS} {d : D} {k : List D → Prop} (h : lsK ms d k) : ∃ xs, LsOf ms d xs ∧ k xs := by
  cases d <;> first | exact h.elim | skip
  · exact ⟨_, .f, h⟩
  · obtain ⟨i, xs, h1, h2⟩ := h; exact ⟨xs, .m h1, h2⟩
def MulOk (i j : Int) : Prop := CMul i j ∨ CMulW i j
@[reducible] def vAdd (x y : D) (ms : MS) (kd : DK) : Prop := match x with
  | .int i => match y with
    | .int j => kd (.int (i + j)) ms
    | _ => False
  | .str a => match y with
    | .str b => a.length + b.length ≤ sizeLine ∧ kd (.str (a ++ b)) ms
    | _ => False
  | .tup xs => match y with
    | .tup ys => (xs ≠ [] ∧ ys ≠ [] ∧ xs.length + ys.length ≤ sizeLine) ∧ kd (.tup (xs ++ ys)) ms
    | _ => False
  | x => lsK ms x fun xs => lsK ms y fun ys => xs.length + ys.length ≤ sizeLine ∧ kd (.lst (xs ++ ys)) ms
@[reducible] def vSub (x y : D) (ms : MS) (kd : DK) : Prop := match x with
  | .int i => match y with
    | .int j => kd (.int (i - j)) ms
    | _ => False
  | _ => False
@[reducible] def vMul (x y : D) (ms : MS) (kd : DK) : Prop := match x with
  | .int i => match y with
    | .int j => MulOk i j ∧ kd (.int (i * j)) ms
    | _ => False
  | .str a => match y with
    | .int n => (a.length ≤ 16 ∧ -(2 ^ 63 : Int) ≤ n ∧ n ≤ 1000000) ∧ kd (.str (Txt.mul a n)) ms
    | _ => False
  | x => match y with
    | .int n => lsK ms x fun xs => (-(2 ^ 63 : Int) ≤ n ∧ n < 2 ^ 63 ∧ xs.length * n.toNat ≤ sizeLine) ∧ kd (.lst (List.replicate n.toNat xs).flatten) ms
    | _ => False
@[reducible] def vDiv (x y : D) (ms : MS) (kd : DK) : Prop := match x with
  | .int i => match y with
    | .int j => CDivW i j ∧ kd (.int (i / j)) ms
    | _ => False
  | _ => False
@[reducible] def vMod (x y : D) (ms : MS) (kd : DK) : Prop := match x with
  | .int i => match y with
    | .int j => 0 < j ∧ kd (.int (i % j)) ms
    | _ => False
  | _ => False
@[reducible] def vPow (x y : D) (ms : MS) (kd : DK) : Prop := match x with
  | .int i => match y with
    | .int j => CPowW i j ∧ kd (.int (i ^ j.toNat)) ms
    | _ => False
  | _ => False
@[reducible] def vBin (op : Operator) (x y : D) (ms : MS) (kd : DK) : Prop := match op with
  | .Add => vAdd x y ms kd
  | .Sub => vSub x y ms kd
  | .Mult => vMul x y ms kd
  | .FloorDiv => vDiv x y ms kd
  | .Mod => vMod x y ms kd
  | .Pow => vPow x y ms kd
  | _ => False
@[reducible] def vNeg (x : D) (ms : MS) (kd : DK) : Prop := match x with
  | .int i => kd (.int (-i)) ms
  | _ => False
/-- x == y: scalars at once, else by EqS -/
def unT : D → D
  | .ttp xs => .tup xs
  | d => d
def vEqX (x y : D) (ms : MS) (kb : KB) : Prop := ∃ n x' y' b, EqS n x' y' b ∧ EqOf ms (unT x) x' ∧ EqOf ms (unT y) y' ∧ n ≤ 60 ∧ kb b ms
@[reducible] def vEq (x y : D) (ms : MS) (kb : KB) : Prop := match x with
  | .int i => match y with
    | .int j => kb (decide (i = j)) ms
    | y => vEqX (.int i) y ms kb
  | .str i => match y with
    | .str j => kb (decide (i = j)) ms
    | y => vEqX (.str i) y ms kb
  | .bl i => match y with
    | .bl j => kb (decide (i = j)) ms
    | y => vEqX (.bl i) y ms kb
  | x => vEqX x y ms kb
@[reducible] def vIn (x y : D) (ms : MS) (kb : KB) : Prop := match y with
  | .str z => ∃ c, x = .str ⟨#[c]⟩ ∧ kb (decide (c ∈ z.cps.toList)) ms
  | .tup xs => (flatD x = true ∧ xs.all flatD = true) ∧ kb (inD x xs) ms
  | y => lsK ms y fun xs => (flatD x = true ∧ xs.all flatD = true) ∧ kb (inD x xs) ms
@[reducible] def vCmp (op : CmpOp) (x y : D) (ms : MS) (kb : KB) : Prop := match op with
  | .Eq => vEq x y ms kb
  | .NotEq => vEq x y ms fun b ms' => kb (!b) ms'
  | .Lt => match x with
    | .int i => match y with
      | .int j => kb (decide (i < j)) ms
      | _ => False
    | _ => False
  | .LtE => match x with
    | .int i => match y with
      | .int j => kb (decide (i ≤ j)) ms
      | _ => False
    | _ => False
  | .Gt => match x with
    | .int i => match y with
      | .int j => kb (decide (j < i)) ms
      | _ => False
    | _ => False
  | .GtE => match x with
    | .int i => match y with
      | .int j => kb (decide (j ≤ i)) ms
      | _ => False
    | _ => False
  | .Is => match y with
    | .non => kb (isNonD x) ms
    | _ => False
  | .IsNot => match y with
    | .non => kb (!isNonD x) ms
    | _ => False
  | .In => vIn x y ms kb
  | .NotIn => vIn x y ms fun b ms' => kb (!b) ms'
@[reducible] def vTru (x : D) (ms : MS) (kb : KB) : Prop := match x with
  | .bl b => kb b ms
  | .int i => kb (i != 0) ms
  | .str z => z.length ≤ sizeLine ∧ kb ((z.length : Int) != 0) ms
  | .non => kb false ms
  | .tup xs => kb (!xs.isEmpty) ms
  | .ttp xs => kb (!xs.isEmpty) ms
  | x => lsK ms x fun xs => kb (!xs.isEmpty) ms
/-! subscripts, slices -/
@[reducible] def vIx (x y : D) (ms : MS) (kd : DK) : Prop := match x with
  | .tup xs => match y with
    | .int i => ∃ d, atI xs i = some d ∧ kd d ms
    | _ => False
  | .ttp xs => match y with
    | .int i => ∃ d, atI xs i = some d ∧ kd d ms
    | _ => False
  | .scr ns => match y with
    | .int i => ∃ n, atI ns i = some n ∧ kd (.int n) ms
    | _ => False
  | .str z => match y with
    | .int i => z.length ≤ sizeLine ∧ ∃ c, atI z.cps.toList i = some c ∧ kd (.str ⟨#[c]⟩) ms
    | _ => False
  | .dic kvs => match y with
    | .int i => ∃ d, valD kvs (.inl i) = some d ∧ kd d ms
    | .str i => ∃ d, valD kvs (.inr i) = some d ∧ kd d ms
    | _ => False
  | .lst xs => match y with
    | .int i => ∃ d, atI xs i = some d ∧ kd d ms
    | _ => False
  | .adr p => ∃ i o, Ms ms i p o ∧ match o with
    | .lst xs => match y with
      | .int i => ∃ d, atI xs i = some d ∧ kd d ms
      | _ => False
    | .dic kvs => match y with
      | .int i => ∃ d, valD kvs (.inl i) = some d ∧ kd d ms
      | .str i => ∃ d, valD kvs (.inr i) = some d ∧ kd d ms
      | _ => False
    | _ => False
  | _ => False
@[reducible] def vSl (x : D) (lo hi : Option Int) (ms : MS) (kd : DK) : Prop := match x with
  | .str z => z.length ≤ sizeLine ∧ kd (.str (cutS z lo hi)) ms
  | x => lsK ms x fun xs => kd (.lst (cutD xs lo hi)) ms
/-! calls of built-ins -/
inductive BI
  | len | abs | max | min | all | any | sum | int_ | str_ | list_ | tuple_ | sorted | dict_ | repr
  deriving DecidableEq
def BI.name : BI → Str
  | .len => "len"
  | .abs => "abs"
  | .max => "max"
  | .min => "min"
  | .all => "all"
  | .any => "any"
  | .sum => "sum"
  | .int_ => "int"
  | .str_ => "str"
  | .list_ => "list"
  | .tuple_ => "tuple"
  | .sorted => "sorted"
  | .dict_ => "dict"
  | .repr => "repr"
def BI.isTy : BI → Option String
  | .int_ => some "int"
  | .str_ => some "str"
  | .list_ => some "list"
  | .tuple_ => some "tuple"
  | .dict_ => some "dict"
  | _ => none
def BI.id : BI → String
  | .len => "len"
  | .abs => "abs"
  | .max => "max"
  | .min => "min"
  | .all => "all"
  | .any => "any"
  | .sum => "sum"
  | .sorted => "sorted"
  | .repr => "repr"
  | _ => ""
def BI.val (b : BI) : Value := match b.isTy with
  | some T => .type T
  | none => .builtin b.id
theorem BI.boot (b : BI) : bootBuiltins b.name = some b.val := by
  cases b
  · exact bt_len
  · exact bt_abs
  · exact bt_max
  · exact bt_min
  · exact bt_all
  · exact bt_any
  · exact bt_sum
  · exact bt_int
  · exact bt_str
  · exact bt_list
  · exact bt_tuple
  · exact bt_sorted
  · exact bt_dict
  · exact bt_repr
@[reducible] def vLen (x : D) (ms : MS) (kd : DK) : Prop := match x with
  | .str z => z.length ≤ sizeLine ∧ kd (.int z.length) ms
  | .tup xs => kd (.int xs.length) ms
  | .ttp xs => kd (.int xs.length) ms
  | .scr xs => kd (.int xs.length) ms
  | x => lsK ms x fun xs => kd (.int xs.length) ms
@[reducible] def vLst (x : D) (ms : MS) (kd : DK) : Prop := match x with
  | .tup xs => ∀ p, kd (.adr p) ((p, .lst xs) :: ms)
  | x => lsK ms x fun xs => ∀ p, kd (.adr p) ((p, .lst xs) :: ms)
@[reducible] def vTup (x : D) (ms : MS) (kd : DK) : Prop := match x with
  | .tup xs => kd (.tup xs) ms
  | x => lsK ms x fun xs => kd (.ttp xs) ms
@[reducible] def tupI (q : Int × Int) : D := .tup [.int q.1, .int q.2]
@[reducible] def vMax (x : D) (ms : MS) (kd : DK) : Prop := match x with
  | .dic kvs => ∃ kv, kvs = intD kv ∧ kv ≠ [] ∧ ∀ m, m ∈ kv.map (·.1) → (∀ y ∈ kv.map (·.1), y ≤ m) → kd (.int m) ms
  | x => lsK ms x fun xs => ∃ ns : List Int, xs = ns.map D.int ∧ 0 < ns.length ∧ ∀ m, m ∈ ns → (∀ y ∈ ns, y ≤ m) → kd (.int m) ms
@[reducible] def vMin (x : D) (ms : MS) (kd : DK) : Prop := match x with
  | .dic kvs => ∃ kv, kvs = intD kv ∧ kv ≠ [] ∧ ∀ m, m ∈ kv.map (·.1) → (∀ y ∈ kv.map (·.1), m ≤ y) → kd (.int m) ms
  | x => lsK ms x fun xs => ∃ ns : List Int, xs = ns.map D.int ∧ 0 < ns.length ∧ ∀ m, m ∈ ns → (∀ y ∈ ns, m ≤ y) → kd (.int m) ms
@[reducible] def vDict (x : D) (ms : MS) (kd : DK) : Prop := match x with
  | .ttp xs => ∃ kv, xs = kv.map tupI ∧ ∀ p, kd (.adr p) ((p, .dic (intD (mergeI [] kv))) :: ms)
  | x => lsK ms x fun xs => ∃ kv, xs = kv.map tupI ∧ ∀ p, kd (.adr p) ((p, .dic (intD (mergeI [] kv))) :: ms)
@[reducible] def vSrt (x : D) (ms : MS) (kd : DK) : Prop := lsK ms x fun xs => ∃ kv, xs = kv.map tupI ∧ ∀ (kv' : List (Int × Int)) p, kv'.Perm kv → kv'.Pairwise pleq → kd (.adr p) ((p, .lst (kv'.map tupI)) :: ms)
@[reducible] def vB1 (b : BI) (x : D) (ms : MS) (kd : DK) : Prop := match b with
  | .len => vLen x ms kd
  | .abs => match x with
    | .int i => kd (.int (if i < 0 then -i else i)) ms
    | _ => False
  | .max => vMax x ms kd
  | .min => vMin x ms kd
  | .all => lsK ms x fun xs => ∃ bs : List Bool, xs = bs.map D.bl ∧ kd (.bl (bs.all id)) ms
  | .any => lsK ms x fun xs => (∃ bs : List Bool, xs = bs.map D.bl ∧ kd (.bl (bs.any id)) ms) ∨ ∃ ns : List Int, xs = ns.map D.int ∧ kd (.bl (ns.any fun b => b != 0)) ms
  | .sum => lsK ms x fun xs => ∃ ns : List Int, xs = ns.map D.int ∧ kd (.int ns.sum) ms
  | .int_ => match x with
    | .int i => kd (.int i) ms
    | .bl i => kd (.int (if i then 1 else 0)) ms
    | .str z => ∃ n, (PySem.intText? z = some n ∧ z.length ≤ 640) ∧ kd (.int n) ms
    | _ => False
  | .str_ => match x with
    | .int i => i.natAbs.log2 < 1920 ∧ kd (.str (toString i)) ms
    | _ => False
  | .list_ => vLst x ms kd
  | .tuple_ => vTup x ms kd
  | .sorted => vSrt x ms kd
  | .dict_ => vDict x ms kd
  | .repr => (∃ n m, Shw x n m ∧ n ≤ 60 ∧ m ≤ sizeLine) ∧ kd (.str (pd x).shown) ms
@[reducible] def vBI (b : BI) (xs : List D) (ms : MS) (kd : DK) : Prop := match xs with
  | [x] => vB1 b x ms kd
  | [.int i, .int j] => match b with
    | .max => kd (.int (max i j)) ms
    | .min => kd (.int (min i j)) ms
    | _ => False
  | _ => False
/-! methods of built-in types -/
inductive ME
  | append | extend | insert
  deriving DecidableEq
/-! ### the tree -/
inductive TGt
  | nil | cons (a r : TGt) | nm (i : Nat) | tup (t : TGt)
@[reducible] def vG : TGt → D → DEnv → (DEnv → Prop) → Prop
  | .nm i, d, ds, k => setK ds i (some d) k
  | .tup t, .tup xs, ds, k => vGs t xs ds k
  | _, _, _, _ => False
where
  @[reducible] vGs : TGt → List D → DEnv → (DEnv → Prop) → Prop
  | .nil, [], ds, k => k ds
  | .cons a r, x :: xs, ds, k => vG a x ds fun ds' => vGs r xs ds' k
  | _, _, _, _ => False
end DL

/-! V1: the tree of expressions, what is to be shown of it. -/
namespace DL
open PySem PySem.Spec PyProof.Rows L2
inductive IR
  | nil | cons (a r : IR) | star (a r : IR)
  | var (i : Nat) | int (i : Int) | str (x : Str) | bl (b : Bool) | non | glb (k : Nat)
  | bin (op : Operator) (a b : IR) | neg (a : IR)
  | cmp (op : CmpOp) (a b : IR) | chain (op op' : CmpOp) (a b c : IR)
  | and (as : IR) | or (as : IR) | not (a : IR) | tru (a : IR) | ite (c a b : IR)
  | tup (as : IR) | lst (m : Bool) (as : IR) | dic0 | dicI (kv : List (Int × Int)) | dic1 (a b : IR)
  | ix (a b : IR) | sl (a lo hi : IR) | rev (a : IR)
  | call (k : Nat) (as : IR) | callK (k : Nat) (as ks : IR)
  | bi (b : BI) (as : IR) | mth (m : ME) (o as : IR) | getM (o a b : IR)
  | own (k : Nat) (o as : IR) | attr (k : Nat) (o : IR) | prop (k : Nat) (o : IR) | make (k : Nat) (as : IR)
  | srtI (o : IR) | lstR (a b : IR) | repM (a b : IR)
  | lc (m : Bool) (elt : IR) (tg : TGt) (it ifs : IR) (own : List (Str × Nat))
  | dc (kx vx : IR) (tg : TGt) (it ifs : IR) (own : List (Str × Nat))
  | frz (a : IR) | frzD (a : IR) | frzI (a : IR)
  | itE (a : IR) | itR1 (a : IR) | itR2 (a b : IR) | itEn (a : IR) | itZip (a b : IR) | itIt (a : IR)
/-- what a global name is -/
inductive Ent
  | no
  | cst (x : Str) (d : D)
  | bi (x : Str)
  | fn (x : Str) (n : Nat) (S : DSp)
  | fk (x : Str) (n : Nat) (ks : List Str) (S : DSp)
  | er (x : Str) (C : Addr)
  | cls (x : Str) (C : Addr) (n : Nat) (S : DSp)
  | fl (C : Addr) (x : Str)
  | mt (C : Addr) (x : Str) (n : Nat) (S : DSp)
  | pr (C : Addr) (x : Str) (S : DSp)
abbrev GE := List Ent
@[reducible] def GE.at : GE → Nat → Ent
  | e :: _, 0 => e
  | _ :: r, k + 1 => GE.at r k
  | [], _ => .no
/-- a field of an instance of the class at C -/
@[reducible] def vFld (C : Addr) (f : Str) (x : D) (ms : MS) (kd : DK) : Prop := match x with
  | .ins C' fs => C' = C ∧ ∃ v, fs.lookup f = some v ∧ kd v ms
  | .adr p => ∃ i fs, Ms ms i p (.ins C fs) ∧ ∃ v, fs.lookup f = some v ∧ kd v ms
  | _ => False
@[reducible] def vIns (C : Addr) (x : D) (ms : MS) : Prop := match x with
  | .ins C' _ => C' = C
  | .adr p => ∃ i fs, Ms ms i p (.ins C fs)
  | _ => False
@[reducible] def vInsN (C : Addr) (m : Str) (x : D) (ms : MS) : Prop := match x with
  | .ins C' fs => C' = C ∧ fs.lookup m = none
  | .adr p => ∃ i fs, Ms ms i p (.ins C fs) ∧ fs.lookup m = none
  | _ => False
abbrev KIt := List D → (MS → Prop) → MS → Prop
/-- the i-th object of the store, laid off -/
def Off (ms : MS) (L : Addr) (o : MO) (k : MS → Prop) : Prop := ∃ i ms', Ms ms i L o ∧ MDel ms i ms' ∧ k ms'
theorem Off.z {ms : MS} {L : Addr} {o : MO} {k : MS → Prop} (h : k ms) : Off ((L, o) :: ms) L o k := ⟨0, ms, .z, .z, h⟩
@[reducible] def vLc (keep : MS → Prop) (tgt : D → (DEnv → Prop) → Prop) (ifs : DEnv → MS → KB → Prop) (elt : DEnv → MS → DK → Prop) (fin : List D → MS → Prop) : List D → List D → MS → Prop
  | [], acc, ms => (∀ L, keep ((L, .lst acc) :: ms)) ∧ fin acc ms
  | x :: xs, acc, ms => (∀ L, keep ((L, .lst acc) :: ms)) ∧ tgt x fun ds2 => ∀ L, ifs ds2 ((L, .lst acc) :: ms) fun b ms3 =>
      vIf b (elt ds2 ms3 fun d ms4 => acc.length < sizeLine ∧ Off ms4 L (.lst acc) fun ms5 => vLc keep tgt ifs elt fin xs (acc ++ [d]) ms5)
        (Off ms3 L (.lst acc) fun ms5 => vLc keep tgt ifs elt fin xs acc ms5)
@[reducible] def lcFin (m : Bool) (kd : DK) : List D → MS → Prop := fun acc ms2 => match m with
  | true => ∀ p, kd (.adr p) ((p, .lst acc) :: ms2)
  | false => kd (.lst acc) ms2
/-- a dict with the key y put -/
@[reducible] def keyK (y : D) (k : Key → Prop) : Prop := match y with
  | .int i => k (.inl i)
  | .str i => k (.inr i)
  | _ => False
@[reducible] def vDc (keep : MS → Prop) (tgt : D → (DEnv → Prop) → Prop) (ifs : DEnv → MS → KB → Prop) (kx vx : DEnv → MS → DK → Prop) (fin : List (Key × D) → MS → Prop) : List D → List (Key × D) → MS → Prop
  | [], acc, ms => (∀ L, keep ((L, .dic acc) :: ms)) ∧ fin acc ms
  | x :: xs, acc, ms => (∀ L, keep ((L, .dic acc) :: ms)) ∧ tgt x fun ds2 => ∀ L, ifs ds2 ((L, .dic acc) :: ms) fun b ms3 =>
      vIf b (kx ds2 ms3 fun d ms4 => vx ds2 ms4 fun d' ms5 => keyK d fun ky => acc.length < sizeLine ∧ Off ms5 L (.dic acc) fun ms6 => vDc keep tgt ifs kx vx fin xs (putD acc ky d') ms6)
        (Off ms3 L (.dic acc) fun ms5 => vDc keep tgt ifs kx vx fin xs acc ms5)
/-- what a walk over a value goes through -/
@[reducible] def vWalk (d : D) (ms : MS) (KK : KIt) : Prop := match d with
  | .lst xs => KK xs (fun _ => True) ms
  | .tup xs => KK xs (fun _ => True) ms
  | .ttp xs => KK xs (fun _ => True) ms
  | .str z => KK (signD z) (fun _ => True) ms
  | .dic kvs => KK (kvs.map fun kv => keyD kv.1) (fun _ => True) ms
  | .adr p => ∃ i xs, Ms ms i p (.lst xs) ∧ KK xs (fun ms' => ∃ j, Ms ms' j p (.lst xs)) ms
  | _ => False
def pairD (kvs : List (Key × D)) : List D := kvs.map fun kv => .tup [keyD kv.1, kv.2]
@[reducible] def vMth (m : ME) (x : D) (xs : List D) (ms : MS) (kd : DK) : Prop := match m with
  | .append => match x with
    | .adr p => match xs with
      | [y] => ∃ i zs, Ms ms i p (.lst zs) ∧ zs.length < sizeLine ∧ msetK ms i (.lst (zs ++ [y])) fun ms' => kd .non ms'
      | _ => False
    | _ => False
  | .extend => match x with
    | .adr p => match xs with
      | [y] => ∃ i zs, Ms ms i p (.lst zs) ∧ lsK ms y fun ys => zs.length + ys.length ≤ sizeLine ∧ msetK ms i (.lst (zs ++ ys)) fun ms' => kd .non ms'
      | _ => False
    | _ => False
  | .insert => match x with
    | .adr p => match xs with
      | [.int n, y] => ∃ i zs, Ms ms i p (.lst zs) ∧ (zs.length < sizeLine ∧ 0 ≤ n ∧ n ≤ zs.length) ∧ msetK ms i (.lst (zs.take n.toNat ++ [y] ++ zs.drop n.toNat)) fun ms' => kd .non ms'
      | _ => False
    | _ => False
def vTy (x : D) (ms : MS) : Prop := ∃ xs, LsOf ms x xs
@[reducible] def dcK (ms : MS) (d : D) (k : List (Key × D) → Prop) : Prop := match d with
  | .dic xs => k xs
  | .adr p => ∃ i xs, Ms ms i p (.dic xs) ∧ k xs
  | _ => False
theorem dcK_at {ms : MS} {d : D} {k : List (Key × D) → Prop} (h : dcK ms d k) : ∃ xs, DcOf ms d xs ∧ k xs := by
  cases d <;> first | exact h.elim | skip
  · exact ⟨_, .f, h⟩
  · obtain ⟨i, xs, h1, h2⟩ := h; exact ⟨xs, .m h1, h2⟩
section
variable (G : GE)
mutual
@[reducible] def vE (xw : DX) : IR → DEnv → MS → DK → Prop
  | .var i, ds, ms, kd => getK ds i fun d => kd d ms
  | .int i, _, ms, kd => kd (.int i) ms
  | .str i, _, ms, kd => kd (.str i) ms
  | .bl i, _, ms, kd => kd (.bl i) ms
  | .non, _, ms, kd => kd .non ms
  | .glb k, _, ms, kd => match G.at k with
    | .cst _ d => kd d ms
    | _ => False
  | .bin op a b, ds, ms, kd => vE xw a ds ms fun x ms1 => vE xw b ds ms1 fun y ms2 => vBin op x y ms2 kd
  | .neg a, ds, ms, kd => vE xw a ds ms fun x ms1 => vNeg x ms1 kd
  | .cmp op a b, ds, ms, kd => vE xw a ds ms fun x ms1 => vE xw b ds ms1 fun y ms2 => vCmp op x y ms2 fun b ms3 => kd (.bl b) ms3
  | .chain op op' a b c, ds, ms, kd => vE xw a ds ms fun x ms1 => vE xw b ds ms1 fun y ms2 => vCmp op x y ms2 fun k ms3 => vIf k (vE xw c ds ms3 fun z ms4 => vCmp op' y z ms4 fun b ms5 => kd (.bl b) ms5) (kd (.bl false) ms3)
  | .and as, ds, ms, kd => vAndV xw as ds ms kd
  | .or as, ds, ms, kd => vOrV xw as ds ms kd
  | .not a, ds, ms, kd => vE xw a ds ms fun x ms1 => match x with
    | .bl c => kd (.bl (!c)) ms1
    | _ => False
  | .ite c a b, ds, ms, kd => vT xw c ds ms fun t ms1 => vIf t (vE xw a ds ms1 kd) (vE xw b ds ms1 kd)
  | .tup as, ds, ms, kd => vA xw as ds ms fun xs ms1 => xs.length ≤ sizeLine ∧ kd (.tup xs) ms1
  | .lst m as, ds, ms, kd => vA xw as ds ms fun xs ms1 => xs.length ≤ sizeLine ∧ match m with
    | true => ∀ p, kd (.adr p) ((p, .lst xs) :: ms1)
    | false => kd (.lst xs) ms1
  | .dic0, _, ms, kd => ∀ p, kd (.adr p) ((p, .dic []) :: ms)
  | .dicI kv, _, ms, kd => kd (.dic (intD kv)) ms
  | .ix a b, ds, ms, kd => vE xw a ds ms fun x ms1 => vE xw b ds ms1 fun y ms2 => vIx x y ms2 kd
  | .sl a lo hi, ds, ms, kd => vE xw a ds ms fun x ms1 => vO xw lo ds ms1 fun l ms2 => vO xw hi ds ms2 fun u ms3 => vSl x l u ms3 kd
  | .rev a, ds, ms, kd => vE xw a ds ms fun x ms1 => lsK ms1 x fun xs => kd (.lst xs.reverse) ms1
  | .call k as, ds, ms, kd => vA xw as ds ms fun vs ms1 => match G.at k with
    | .fn _ _ S => S vs ms1 kd fun C d ms2 => xw C d ds ms2
    | _ => False
  | .callK k as ks, ds, ms, kd => vA xw as ds ms fun vs ms1 => vA xw ks ds ms1 fun ws ms2 => match G.at k with
    | .fk _ _ _ S => S (vs ++ ws) ms2 kd fun C d ms3 => xw C d ds ms3
    | _ => False
  | .bi b as, ds, ms, kd => vA xw as ds ms fun vs ms1 => vBI b vs ms1 kd
  | .mth m o as, ds, ms, kd => vE xw o ds ms fun x ms1 => vTy x ms1 ∧ vA xw as ds ms1 fun vs ms2 => vMth m x vs ms2 kd
  | .getM o a b, ds, ms, kd => vE xw o ds ms fun x ms1 => dcK ms1 x fun _ => vE xw a ds ms1 fun y ms2 => vE xw b ds ms2 fun z ms3 => dcK ms3 x fun kvs => keyK y fun ky => kd ((valD kvs ky).getD z) ms3
  | .lc m elt tg it ifs own, ds, ms, kd => vI xw it ds ms fun xs keep ms1 => vLc keep (fun d k => vG tg d (wipeD ds (own.map (·.2))) k) (fun ds2 ms2 kb => vT (fun _ _ _ _ => False) ifs ds2 ms2 kb) (fun ds2 ms2 kd2 => vE (fun _ _ _ _ => False) elt ds2 ms2 kd2)
      (lcFin m kd) xs [] ms1
  | .dc kx vx tg it ifs own, ds, ms, kd => vI xw it ds ms fun xs keep ms1 => vDc keep (fun d k => vG tg d (wipeD ds (own.map (·.2))) k) (fun ds2 ms2 kb => vT (fun _ _ _ _ => False) ifs ds2 ms2 kb) (fun ds2 ms2 kd2 => vE (fun _ _ _ _ => False) kx ds2 ms2 kd2) (fun ds2 ms2 kd2 => vE (fun _ _ _ _ => False) vx ds2 ms2 kd2)
      (fun acc ms2 => kd (.dic acc) ms2) xs [] ms1
  | .frz a, ds, ms, kd => vE xw a ds ms fun x ms1 => match x with
    | .adr p => ∃ i xs, Ms ms1 i p (.lst xs) ∧ mdelK ms1 i fun ms2 => kd (.lst xs) ms2
    | _ => False
  | .frzI a, ds, ms, kd => vE xw a ds ms fun x ms1 => match x with
    | .adr p => ∃ i C xs, Ms ms1 i p (.ins C xs) ∧ mdelK ms1 i fun ms2 => kd (.ins C xs) ms2
    | _ => False
  | .attr k o, ds, ms, kd => vE xw o ds ms fun x ms1 => match G.at k with
    | .fl C f => vFld C f x ms1 kd
    | _ => False
  | .prop k o, ds, ms, kd => vE xw o ds ms fun x ms1 => match G.at k with
    | .pr C _ S => vIns C x ms1 ∧ S [x] ms1 kd fun _ _ _ => False
    | _ => False
  | .own k o as, ds, ms, kd => vE xw o ds ms fun x ms1 => match G.at k with
    | .mt C m _ S => vInsN C m x ms1 ∧ vA xw as ds ms1 fun vs ms2 => S (x :: vs) ms2 kd fun C d ms3 => xw C d ds ms3
    | _ => False
  | .make k as, ds, ms, kd => vA xw as ds ms fun vs ms1 => match G.at k with
    | .cls _ C _ S => ∀ a, S (.adr a :: vs) ((a, .ins C []) :: ms1) (fun d ms2 => d = .non ∧ kd (.adr a) ms2) fun C d ms3 => xw C d ds ms3
    | _ => False
  | .srtI o, ds, ms, kd => vE xw o ds ms fun x ms1 => match x with
    | .dic kvs => ∃ kv, kvs = intD kv ∧ ∀ l (ps : List (Int × Int)), ps.Perm kv → ps.Pairwise (fun e f => e.1 ≤ f.1) → kd (.adr l) ((l, .lst (ps.map tupI)) :: ms1)
    | _ => False
  | .lstR a b, ds, ms, kd => vE xw a ds ms fun x ms1 => vE xw b ds ms1 fun y ms2 => match x with
    | .int i => match y with
      | .int j => RgOk i j ∧ ∀ q, kd (.adr q) ((q, .lst (rangeD i (j - i).toNat)) :: ms2)
      | _ => False
    | _ => False
  | .repM a b, ds, ms, kd => vE xw a ds ms fun x ms1 => vE xw b ds ms1 fun y ms2 => match y with
    | .int n => lsK ms2 x fun xs => (-(2 ^ 63 : Int) ≤ n ∧ n < 2 ^ 63 ∧ xs.length * n.toNat ≤ sizeLine) ∧ ∀ p, kd (.adr p) ((p, .lst (List.replicate n.toNat xs).flatten) :: ms2)
    | _ => False
  | .dic1 a b, ds, ms, kd => ∀ p, vE xw a ds ((p, .dic []) :: ms) fun x ms1 => vE xw b ds ms1 fun y ms2 => keyK x fun ky => Off ms2 p (.dic []) fun ms3 => kd (.adr p) ((p, .dic [(ky, y)]) :: ms3)
  | .frzD a, ds, ms, kd => vE xw a ds ms fun x ms1 => match x with
    | .adr p => ∃ i xs, Ms ms1 i p (.dic xs) ∧ mdelK ms1 i fun ms2 => kd (.dic xs) ms2
    | _ => False
  | _, _, _, _ => False
@[reducible] def vT (xw : DX) : IR → DEnv → MS → KB → Prop
  | .nil, _, ms, kb => kb true ms
  | .cons a _, ds, ms, kb => vT xw a ds ms kb
  | .cmp op a b, ds, ms, kb => vE xw a ds ms fun x ms1 => vE xw b ds ms1 fun y ms2 => vCmp op x y ms2 kb
  | .chain op op' a b c, ds, ms, kb => vE xw a ds ms fun x ms1 => vE xw b ds ms1 fun y ms2 => vCmp op x y ms2 fun k ms3 => vIf k (vE xw c ds ms3 fun z ms4 => vCmp op' y z ms4 kb) (kb false ms3)
  | .and as, ds, ms, kb => vAnd xw as ds ms kb
  | .or as, ds, ms, kb => vOr xw as ds ms kb
  | .not a, ds, ms, kb => vT xw a ds ms fun c ms1 => kb (!c) ms1
  | .tru a, ds, ms, kb => vE xw a ds ms fun x ms1 => vTru x ms1 kb
  | _, _, _, _ => False
@[reducible] def vAnd (xw : DX) : IR → DEnv → MS → KB → Prop
  | .cons a r, ds, ms, kb => vT xw a ds ms fun c ms1 => vIf c (vAnd xw r ds ms1 kb) (kb false ms1)
  | .nil, _, ms, kb => kb true ms
  | _, _, _, _ => False
@[reducible] def vOr (xw : DX) : IR → DEnv → MS → KB → Prop
  | .cons a r, ds, ms, kb => vT xw a ds ms fun c ms1 => vIf c (kb true ms1) (vOr xw r ds ms1 kb)
  | .nil, _, ms, kb => kb false ms
  | _, _, _, _ => False
@[reducible] def vAndV (xw : DX) : IR → DEnv → MS → DK → Prop
  | .cons a .nil, ds, ms, kd => vE xw a ds ms kd
  | .cons a r, ds, ms, kd => vE xw a ds ms fun x ms1 => vTru x ms1 fun c ms2 => vIf c (vAndV xw r ds ms2 kd) (kd x ms2)
  | _, _, _, _ => False
@[reducible] def vOrV (xw : DX) : IR → DEnv → MS → DK → Prop
  | .cons a .nil, ds, ms, kd => vE xw a ds ms kd
  | .cons a r, ds, ms, kd => vE xw a ds ms fun x ms1 => vTru x ms1 fun c ms2 => vIf c (kd x ms2) (vOrV xw r ds ms2 kd)
  | _, _, _, _ => False
@[reducible] def vO (xw : DX) : IR → DEnv → MS → (Option Int → MS → Prop) → Prop
  | .nil, _, ms, k => k none ms
  | .cons a _, ds, ms, k => vE xw a ds ms fun x ms1 => match x with
    | .int i => k (some i) ms1
    | _ => False
  | _, _, _, _ => False
@[reducible] def vA (xw : DX) : IR → DEnv → MS → (List D → MS → Prop) → Prop
  | .nil, _, ms, kd => kd [] ms
  | .cons a r, ds, ms, kd => vE xw a ds ms fun x ms1 => vA xw r ds ms1 fun xs ms2 => kd (x :: xs) ms2
  | .star a r, ds, ms, kd => vE xw a ds ms fun x ms1 => match x with
    | .tup xs => vA xw r ds ms1 fun ys ms2 => kd (xs ++ ys) ms2
    | .ttp xs => vA xw r ds ms1 fun ys ms2 => kd (xs ++ ys) ms2
    | x => lsK ms1 x fun xs => vA xw r ds ms1 fun ys ms2 => kd (xs ++ ys) ms2
  | _, _, _, _ => False
@[reducible] def vI (xw : DX) : IR → DEnv → MS → KIt → Prop
  | .itE a, ds, ms, KK => vE xw a ds ms fun d ms1 => vWalk d ms1 KK
  | .itR1 a, ds, ms, KK => vE xw a ds ms fun d ms1 => match d with
    | .int n => (-(2 ^ 62) ≤ n ∧ n < 2 ^ 62) ∧ KK (rangeD 0 n.toNat) (fun _ => True) ms1
    | _ => False
  | .itR2 a b, ds, ms, KK => vE xw a ds ms fun d ms1 => vE xw b ds ms1 fun d' ms2 => match d with
    | .int n => match d' with
      | .int m => (-(2 ^ 62) ≤ n ∧ n < 2 ^ 62 ∧ -(2 ^ 62) ≤ m ∧ m < 2 ^ 62) ∧ KK (rangeD n (m - n).toNat) (fun _ => True) ms2
      | _ => False
    | _ => False
  | .itEn a, ds, ms, KK => vE xw a ds ms fun d ms1 => match d with
    | .lst xs => KK (enumD xs) (fun _ => True) ms1
    | .adr p => ∃ i xs, Ms ms1 i p (.lst xs) ∧ KK (enumD xs) (fun ms' => ∃ j, Ms ms' j p (.lst xs)) ms1
    | _ => False
  | .itZip a b, ds, ms, KK => vE xw a ds ms fun d ms1 => vE xw b ds ms1 fun d' ms2 => match d with
    | .lst xs => match d' with
      | .lst ys => KK (zipD xs ys) (fun _ => True) ms2
      | _ => False
    | _ => False
  | .itIt a, ds, ms, KK => vE xw a ds ms fun d ms1 => match d with
    | .dic kvs => KK (pairD kvs) (fun _ => True) ms1
    | _ => False
  | _, _, _, _ => False
end
end
end DL

/-! V2: the tree checked against the text; what is reckoned holds (expressions). -/
namespace DL
open PySem PySem.Spec PyProof.Rows L2
/-! ### looks at the text -/
def isStar : Expr → Bool
  | .Starred _ _ => true
  | _ => false
def noStar (es : List Expr) : Bool := es.all fun e => !isStar e
def isComp : Expr → Bool
  | .ListComp .. => true
  | .SetComp .. => true
  | .DictComp .. => true
  | _ => false
def isSlice : Expr → Bool
  | .Slice .. => true
  | _ => false
def isSetD : Expr → Bool
  | .Set .. => true
  | _ => false
def abOk : Expr → Bool
  | .Name .. => true
  | .Attribute .. => true
  | .Subscript .. => true
  | .Constant .. => true
  | .Call (.Attribute ..) _ _ _ => true
  | _ => false
def isTest : Expr → Bool
  | .UnaryOp .Not .. => true
  | .BoolOp .. => true
  | .IfExp .. => true
  | .Compare .. => true
  | _ => false
theorem star_no {e : Expr} {es : List Expr} {env : Env} (h : isStar e = false) : starEach (e :: es) env = (false, eval e env) :: starEach es env := by
  cases e <;> first | rfl | cases h
theorem nostar_any {env : Env} {pos : Pos} : ∀ {es : List Expr}, noStar es = true → (backTo pos (starEach es env)).any (·.1) = false
  | [], _ => rfl
  | e :: es, h => by
    unfold noStar at h
    rw [List.all_cons, Bool.and_eq_true] at h
    rw [star_no (by simpa using h.1)]
    show (false || (backTo pos (starEach es env)).any (·.1)) = false
    rw [nostar_any (es := es) h.2]; rfl
theorem nostar_all {env : Env} {pos : Pos} : ∀ {es : List Expr}, noStar es = true → (backTo pos (starEach es env)).all (fun x => !x.1) = true
  | [], _ => rfl
  | e :: es, h => by
    unfold noStar at h
    rw [List.all_cons, Bool.and_eq_true] at h
    rw [star_no (by simpa using h.1)]
    show (true && (backTo pos (starEach es env)).all (fun x => !x.1)) = true
    rw [nostar_all (es := es) h.2]; rfl
theorem ab_ok {o : Expr} {x : Str} {env : Env} {w : Sem Value} (h : abOk o = true) : attributeBase o x env w = w := by
  cases o with
  | Call f as ks p => cases f <;> first | rfl | cases h
  | _ => first | rfl | cases h
theorem plain_ix {b : Expr} (h : isSlice b = false) : PlainIx b := by
  intro o i
  cases b <;> first | rfl | cases h
theorem nosl_ix {b : Expr} (h : isSlice b = false) : NoSl b := by
  intro o i
  cases b <;> first | rfl | cases h
theorem truth_ok {a : Expr} {env : Env} (h : isTest a = false) : ∀ whole, isTrue a env whole = (do let v ← whole; standAt a.pos; holding [v] (truthy v)) := by
  intro whole
  cases a with
  | UnaryOp op x p => cases op <;> first | rfl | cases h
  | _ => first | rfl | cases h
theorem folded_ok {e : Expr} {env : Env} (h : isSetD e = false) : ∀ x, foldedSetIterable e env x = pure x := by
  intro x
  cases e <;> first | rfl | cases h
theorem swaps_no {e : Expr} {t : Option Expr} {l : Nat} {env : Env} (h : isComp e = false) : swapsWith e t l env = pure false := by
  cases e <;> first | rfl | cases h
/-! ### names -/
def kindS (sc : Scope) (x : Str) : Option NameKind := sc.names.lookup x
def visB (sc : Scope) (x : Str) : Bool := match sc.names.lookup x with
  | some .local => true
  | some .cell => true
  | some .free => true
  | _ => false
def locB (sc : Scope) (x : Str) : Bool := match sc.names.lookup x with
  | some .local => true
  | some .cell => true
  | _ => false
def lclB (sc : Scope) (x : Str) : Bool := match sc.names.lookup x with
  | some .local => true
  | _ => false
def glB (sc : Scope) (x : Str) : Bool := match sc.names.lookup x with
  | some .globalImplicit => true
  | _ => false
def dbgB (x : Str) : Bool := !(x == ("__debug__" : Str)) && !(x == ("__classdict__" : Str)) && !(x == ("__name__" : Str))
theorem visB_ok {sc : Scope} {x : Str} (h : visB sc x = true) : Vis sc x := by
  unfold visB at h
  unfold Vis
  split at h <;> first | (exact absurd h Bool.false_ne_true) | simp_all
theorem locB_ok {sc : Scope} {x : Str} (h : locB sc x = true) : L2.Loc sc x := by
  unfold locB at h
  unfold L2.Loc
  split at h <;> first | (exact absurd h Bool.false_ne_true) | simp_all
theorem lclB_ok {sc : Scope} {x : Str} (h : lclB sc x = true) : sc.names.lookup x = some .local := by
  unfold lclB at h
  split at h <;> first | (exact absurd h Bool.false_ne_true) | simp_all
theorem glB_ok {sc : Scope} {x : Str} (h : glB sc x = true) : sc.names.lookup x = some .globalImplicit := by
  unfold glB at h
  split at h <;> first | (exact absurd h Bool.false_ne_true) | simp_all
theorem dbgB_ok {x : Str} (h : dbgB x = true) : (x == ("__debug__" : Str)) = false ∧ (x == ("__classdict__" : Str)) = false ∧ x ≠ "__name__" := by
  unfold dbgB at h
  simp only [Bool.and_eq_true, Bool.not_eq_true'] at h
  refine ⟨h.1.1, h.1.2, fun e => ?_⟩
  rw [e] at h
  exact absurd h.2 (by decide +kernel)
def relabelS (scope sc : Scope) : Scope :=
  { scope with names := scope.names.map fun (n, k) => if (k == .free && sc.kind == .function && sc.names.lookup n == some .cell) then (n, .cell) else (n, k) }
theorem relabelS_eq {scope : Scope} {env : Env} : relabel scope env = relabelS scope env.scope := rfl
def bnames : List Str := ["len", "abs", "max", "min", "all", "any", "sum", "int", "str", "list", "tuple", "sorted", "range", "enumerate", "zip", "dict", "isinstance", "repr", "set"]
theorem BI.mem (b : BI) : b.name ∈ bnames := by cases b <;> decide +kernel
/-! ### what the globals are -/
def EntOk (P : Program) (w : World) (K : PySem.W.Frag) (mg : Str → Option Value) (base : Heap) (k : Nat) : Ent → Prop
  | .no => True
  | .cst x d => ∃ u v, mg x = some u ∧ RelV v u ∧ ∀ F, Rep K F d v
  | .bi x => mg x = none
  | .fn x n S => ∃ j f fd ps, j ≤ k ∧ DefAtG P w K mg base j x f fd ps S
  | .fk x n ks S => ∃ j, j ≤ k ∧ DefKw P w K mg base j x n ks S
  | .er x C => (∃ k', k = k' + 1) ∧ ∃ Dd fI, SupTxt P K mg x C Dd fI
  | .cls x C _ S => ∃ j k' f fd ps, k = k' + 1 ∧ j ≤ k' ∧ mg x = some (.ref C) ∧ Mk K C f ∧ MethAtG P w K mg base j f fd ps S
  | .fl C x => Cls K C ∧ NoAttr K C x
  | .mt C x _ S => ∃ j f fd ps, j ≤ k ∧ Cls K C ∧ Meth K C x f ∧ MethAtG P w K mg base j f fd ps S
  | .pr C x S => ∃ j k' p g fd ps, k = k' + 1 ∧ j ≤ k' ∧ Cls K C ∧ PropOf K C x p g ∧ MethAtG P w K mg base j g fd ps S
structure VX (X : Cx) (N : List Str) (k : Nat) (sc : Scope) (G : GE) : Prop where
  c : Ctx X N k
  sc : X.env.scope = sc
  gd : X.A.guards = some []
  g : ∀ j, EntOk X.prog X.w X.K X.mg X.base k (G.at j)
  bn : ∀ x ∈ bnames, X.mg x = none
theorem VX.blk {X : Cx} {N : List Str} {k : Nat} {sc : Scope} {G : GE} (V : VX X N k sc G) (s : Shared) (H : Hp) (scope : Scope) (C : Addr) (cl : List (Str × Addr)) (fp : List Addr) : VX (X.blk s H scope (compEnvC scope cl C X.env) fp) N k (relabelS scope sc) G :=
  ⟨V.c.blk s H scope _ fp, by rw [← V.sc]; rfl, V.gd, V.g, V.bn⟩
theorem VX.vis {X : Cx} {N : List Str} {k : Nat} {sc : Scope} {G : GE} (V : VX X N k sc G) {x : Str} (h : visB sc x = true) : Vis X.env.scope x := by rw [V.sc]; exact visB_ok h
theorem VX.loc {X : Cx} {N : List Str} {k : Nat} {sc : Scope} {G : GE} (V : VX X N k sc G) {x : Str} (h : locB sc x = true) : L2.Loc X.env.scope x := by rw [V.sc]; exact locB_ok h
theorem VX.gl {X : Cx} {N : List Str} {k : Nat} {sc : Scope} {G : GE} (V : VX X N k sc G) {x : Str} (h : glB sc x = true) : Gl X x := by
  show X.env.scope.names.lookup x = _
  rw [V.sc]; exact glB_ok h
/-! ### operators -/
section
variable {X : Cx} {xw : DX} {N : List Str} {k : Nat} {ds : DEnv} {ms : MS} {kd : DK} {kb : KB}
theorem MulOk.op {i j : Int} (h : MulOk i j) (q : kd (.int (i * j)) ms) : OpD X (binaryOp .Mult) (.int i) (.int j) ms kd := h.elim (fun h => opd_mul h q) fun h => opd_mulW h q
theorem vAdd_ok {x y : D} (h : vAdd x y ms kd) : OpD X (binaryOp .Add) x y ms kd := by
  unfold vAdd at h
  split at h
  · split at h
    · exact opd_add h
    · exact h.elim
  · split at h
    · exact opd_addS h.1 h.2
    · exact h.elim
  · split at h
    · exact opd_catT h.1.1 h.1.2.1 h.1.2.2 h.2
    · exact h.elim
  · obtain ⟨xs, l, h⟩ := lsK_at h
    obtain ⟨ys, l', h⟩ := lsK_at h
    exact opd_cat l l' h.1 h.2
theorem vBin_ok (C : Ctx X N k) {op : Operator} {x y : D} (h : vBin op x y ms kd) : OpD X (binaryOp op) x y ms kd := by
  cases op <;> first | exact False.elim h | skip
  · exact vAdd_ok h
  · cases x <;> first | exact False.elim h | skip
    cases y <;> first | exact False.elim h | skip
    exact opd_sub h
  · have h : vMul x y ms kd := h
    unfold vMul at h
    split at h
    · split at h
      · exact h.1.op h.2
      · exact h.elim
    · split at h
      · exact opd_mulS h.1.1 h.1.2.1 h.1.2.2 h.2
      · exact h.elim
    · split at h
      · obtain ⟨xs, l, h⟩ := lsK_at h
        exact opd_rep l h.1.1 h.1.2.1 h.1.2.2 h.2
      · exact h.elim
  · cases x <;> first | exact False.elim h | skip
    cases y <;> first | exact False.elim h | skip
    exact opd_mod h.1 h.2
  · cases x <;> first | exact False.elim h | skip
    cases y <;> first | exact False.elim h | skip
    exact opd_pow h.1 h.2
  · cases x <;> first | exact False.elim h | skip
    cases y <;> first | exact False.elim h | skip
    exact opd_div h.1 h.2
theorem vNeg_ok {x : D} (h : vNeg x ms kd) : UnD X (unaryOp .USub) x ms kd := by
  cases x <;> first | exact False.elim h | skip
  exact und_neg h
theorem rep_unT {K : PySem.W.Frag} {F : Hp} {x : D} {v : V} (r : Rep K F x v) : Rep K F (unT x) v := by
  cases x <;> first | exact r | exact r.tt
theorem OpD.unT {f : Value → Value → Sem Value} {x y : D} (h : OpD X f (unT x) (unT y) ms kd) : OpD X f x y ms kd := fun F v u H Q rv ru S V => h F v u H Q (rep_unT rv) (rep_unT ru) S V
abbrev ofB (kb : KB) : DK := fun d ms' => ∃ b, d = .bl b ∧ kb b ms'
theorem vEqX_ok (C : Ctx X N k) {x y : D} (h : vEqX x y ms kb) : OpD X (compareOp .Eq) x y ms (ofB kb) := by
  obtain ⟨n, x', y', b, h1, h2, h3, h4, h5⟩ := h
  exact OpD.unT (opd_eqX C h1 h2 h3 h4 ⟨b, rfl, h5⟩)
theorem vEqX_ne (C : Ctx X N k) {x y : D} (h : vEqX x y ms fun b ms' => kb (!b) ms') : OpD X (compareOp .NotEq) x y ms (ofB kb) := by
  obtain ⟨n, x', y', b, h1, h2, h3, h4, h5⟩ := h
  exact OpD.unT (opd_neX C h1 h2 h3 h4 ⟨!b, rfl, h5⟩)
theorem vEq_ok (C : Ctx X N k) {x y : D} (h : vEq x y ms kb) : OpD X (compareOp .Eq) x y ms (ofB kb) := by
  unfold vEq at h
  split at h
  · split at h
    · exact opd_eq ⟨_, rfl, h⟩
    · exact vEqX_ok C h
  · split at h
    · exact opd_eqS ⟨_, rfl, h⟩
    · exact vEqX_ok C h
  · split at h
    · exact opd_eqB ⟨_, rfl, h⟩
    · exact vEqX_ok C h
  · exact vEqX_ok C h
theorem vEq_ne (C : Ctx X N k) {x y : D} (h : vEq x y ms fun b ms' => kb (!b) ms') : OpD X (compareOp .NotEq) x y ms (ofB kb) := by
  unfold vEq at h
  split at h
  · split at h
    · exact opd_ne ⟨_, rfl, h⟩
    · exact vEqX_ne C h
  · split at h
    · exact opd_neS ⟨_, rfl, h⟩
    · exact vEqX_ne C h
  · split at h
    · exact opd_neB ⟨_, rfl, h⟩
    · exact vEqX_ne C h
  · exact vEqX_ne C h
theorem vCmp_ok (C : Ctx X N k) {op : CmpOp} {x y : D} (h : vCmp op x y ms kb) : OpD X (compareOp op) x y ms (ofB kb) := by
  cases op
  · exact vEq_ok C h
  · exact vEq_ne C h
  · cases x <;> first | exact False.elim h | skip
    cases y <;> first | exact False.elim h | skip
    exact opd_lt ⟨_, rfl, h⟩
  · cases x <;> first | exact False.elim h | skip
    cases y <;> first | exact False.elim h | skip
    exact opd_le ⟨_, rfl, h⟩
  · cases x <;> first | exact False.elim h | skip
    cases y <;> first | exact False.elim h | skip
    exact opd_gt ⟨_, rfl, h⟩
  · cases x <;> first | exact False.elim h | skip
    cases y <;> first | exact False.elim h | skip
    exact opd_ge ⟨_, rfl, h⟩
  · cases y <;> first | exact False.elim h | skip
    exact opd_isN ⟨_, rfl, h⟩
  · cases y <;> first | exact False.elim h | skip
    exact opd_notN ⟨_, rfl, h⟩
  · have h : vIn x y ms kb := h
    unfold vIn at h
    split at h
    · obtain ⟨c, rfl, g⟩ := h
      exact opd_inC ⟨_, rfl, g⟩
    · exact opd_inT h.1.1 h.1.2 ⟨_, rfl, h.2⟩
    · obtain ⟨xs, l, h⟩ := lsK_at h
      exact opd_inL l h.1.1 h.1.2 ⟨_, rfl, h.2⟩
  · have h : vIn x y ms fun b ms' => kb (!b) ms' := h
    unfold vIn at h
    split at h
    · obtain ⟨c, rfl, g⟩ := h
      exact opd_notInC ⟨_, rfl, g⟩
    · exact opd_notInT h.1.1 h.1.2 ⟨_, rfl, h.2⟩
    · obtain ⟨xs, l, h⟩ := lsK_at h
      exact opd_notInL l h.1.1 h.1.2 ⟨_, rfl, h.2⟩
theorem TrD.tt {xs : List D} (h : TrD X (.tup xs) ms kb) : TrD X (.ttp xs) ms kb := fun F v H Q r S V => h F v H Q r.tt S V
theorem vTru_ok {x : D} (h : vTru x ms kb) : TrD X x ms kb := by
  unfold vTru at h
  split at h
  · exact trd_bl h
  · exact trd_int h
  · exact trd_str h.1 h.2
  · exact trd_non h
  · exact trd_tup h
  · exact TrD.tt (trd_tup h)
  · obtain ⟨xs, l, h⟩ := lsK_at h
    exact trd_ls l h
theorem vIx_ok (C : Ctx X N k) {a b : Expr} (hs : isSlice b = false) {x y : D} (h : vIx x y ms kd) : IxD X a b x y ms kd := by
  cases x <;> first | exact False.elim h | skip
  · cases y <;> first | exact False.elim h | skip
    obtain ⟨h1, c, h2, h3⟩ := h
    exact ixd_str h1 h2 (plain_ix hs) h3
  · cases y <;> first | exact False.elim h | skip
    obtain ⟨d, h1, h2⟩ := h
    exact ixd_ls .f h1 (plain_ix hs) h2
  · cases y <;> first | exact False.elim h | skip
    obtain ⟨d, h1, h2⟩ := h
    exact ixd_tup h1 (plain_ix hs) h2
  · cases y <;> first | exact False.elim h | skip
    obtain ⟨d, h1, h2⟩ := h
    exact fun F v u H Q rv ru S V => ixd_tup h1 (plain_ix hs) h2 F v u H Q rv.tt ru S V
  · cases y <;> first | exact False.elim h | skip
    · obtain ⟨d, h1, h2⟩ := h
      exact ixd_dic C .f (ky := .inl _) rfl h1 (nosl_ix hs) h2
    · obtain ⟨d, h1, h2⟩ := h
      exact ixd_dic C .f (ky := .inr _) rfl h1 (nosl_ix hs) h2
  · obtain ⟨i, o, hm, h⟩ := h
    cases o <;> first | exact False.elim h | skip
    · cases y <;> first | exact False.elim h | skip
      obtain ⟨d, h1, h2⟩ := h
      exact ixd_ls (.m hm) h1 (plain_ix hs) h2
    · cases y <;> first | exact False.elim h | skip
      · obtain ⟨d, h1, h2⟩ := h
        exact ixd_dic C (.m hm) (ky := .inl _) rfl h1 (nosl_ix hs) h2
      · obtain ⟨d, h1, h2⟩ := h
        exact ixd_dic C (.m hm) (ky := .inr _) rfl h1 (nosl_ix hs) h2
  · cases y <;> first | exact False.elim h | skip
    obtain ⟨d, h1, h2⟩ := h
    exact ixd_scr h1 (plain_ix hs) h2
theorem vSl_ok {x : D} {lo hi : Option Int} (h : vSl x lo hi ms kd) : SlD X x lo hi ms kd := by
  unfold vSl at h
  split at h
  · exact sld_str h.1 h.2
  · obtain ⟨xs, l, h⟩ := lsK_at h
    exact sld_ls l h
theorem CaD.tt {f : Value} {xs : List D} (h : CaD X f [.tup xs] ms kd) : CaD X f [.ttp xs] ms kd := fun F vs H Q r S V => by
  obtain ⟨v, rfl, r1⟩ := r.inv1
  exact h F [v] H Q (RepL.one r1.tt) S V
theorem vB1_ok (C : Ctx X N k) (gd : X.A.guards = some []) {b : BI} {x : D} (h : vB1 b x ms kd) : CaD X b.val [x] ms kd := by
  cases b
  · have h : vLen x ms kd := h
    unfold vLen at h
    split at h
    · exact cad_lenS h.1 h.2
    · exact cad_lenT h
    · exact CaD.tt (cad_lenT h)
    · exact cad_lenC h
    · obtain ⟨xs, l, h⟩ := lsK_at h
      exact cad_lenL l h
  · cases x <;> first | exact False.elim h | skip
    exact cad_abs h
  · have h : vMax x ms kd := h
    unfold vMax at h
    split at h
    · obtain ⟨kv, rfl, h0, h⟩ := h
      exact cad_maxD C h0 h
    · obtain ⟨xs, l, ns, rfl, h0, h⟩ := lsK_at h
      exact cad_max C l h0 h
  · have h : vMin x ms kd := h
    unfold vMin at h
    split at h
    · obtain ⟨kv, rfl, h0, h⟩ := h
      exact cad_minD C h0 h
    · obtain ⟨xs, l, ns, rfl, h0, h⟩ := lsK_at h
      exact cad_min C l h0 h
  · obtain ⟨xs, l, ns, rfl, h⟩ := lsK_at h
    exact cad_all C l h
  · obtain ⟨xs, l, h⟩ := lsK_at (show lsK ms x fun xs => (∃ bs : List Bool, xs = bs.map D.bl ∧ kd (.bl (bs.any id)) ms) ∨ ∃ ns : List Int, xs = ns.map D.int ∧ kd (.bl (ns.any fun b => b != 0)) ms from h)
    rcases h with ⟨ns, rfl, h⟩ | ⟨ns, rfl, h⟩
    · exact cad_any C l h
    · exact cad_anyI C l h
  · obtain ⟨xs, l, ns, rfl, h⟩ := lsK_at h
    exact cad_sum C l h
  · cases x <;> first | exact False.elim h | skip
    · exact cad_intB h
    · exact cad_intI h
    · obtain ⟨n, ⟨h1, h2⟩, h3⟩ := h
      exact cad_intS h1 h2 h3
  · cases x <;> first | exact False.elim h | skip
    exact cad_strI h.1 h.2
  · have h : vLst x ms kd := h
    unfold vLst at h
    split at h
    · exact cad_listT h
    · obtain ⟨xs, l, h⟩ := lsK_at h
      exact cad_listL l h
  · have h : vTup x ms kd := h
    unfold vTup at h
    split at h
    · exact cad_tupleT h
    · obtain ⟨xs, l, h⟩ := lsK_at h
      exact cad_tupX l h
  · obtain ⟨xs, l, kv, rfl, h⟩ := lsK_at (show vSrt x ms kd from h)
    exact cad_sortedP l h
  · replace h : vDict x ms kd := h
    unfold vDict at h
    split at h
    · obtain ⟨kv, e, h⟩ := h
      subst e
      exact cad_dctT C h
    · obtain ⟨xs, l, kv, rfl, h⟩ := lsK_at h
      exact cad_dctL C l h
  · obtain ⟨⟨n, m, h1, h2, h3⟩, h⟩ := (show (∃ n m, Shw x n m ∧ n ≤ 60 ∧ m ≤ sizeLine) ∧ kd (.str (pd x).shown) ms from h)
    exact cad_reprP C gd h1 h2 h3 h
theorem vBI_ok (C : Ctx X N k) (gd : X.A.guards = some []) {b : BI} {xs : List D} (h : vBI b xs ms kd) : CaD X b.val xs ms kd := by
  unfold vBI at h
  split at h
  · exact vB1_ok C gd h
  · split at h
    · exact cad_max2 C (by
        rename_i i j _
        have e : (if j > i then j else i) = max i j := by split <;> omega
        rw [e]; exact h)
    · exact cad_min2 C (by
        rename_i i j _
        have e : (if j < i then j else i) = min i j := by split <;> omega
        rw [e]; exact h)
    · exact h.elim
  · exact h.elim
end
end DL

/-! V3: the tree checked against the text. -/
namespace DL
open PySem PySem.Spec PyProof.Rows L2
def tgSl : TGt → List Nat
  | .nil => []
  | .cons a r => tgSl a ++ tgSl r
  | .nm i => [i]
  | .tup t => tgSl t
/-- names of the globals alone -/
inductive EntN
  | no | cst (x : Str) | bi (x : Str) | fn (x : Str) (n : Nat) | fk (x : Str) (n : Nat) (ks : List Str) | er (x : Str) | cls (x : Str) (n : Nat) | fl (x : Str) | mt (x : Str) (n : Nat) | pr (x : Str)
def Ent.n : Ent → EntN
  | .no => .no
  | .cst x _ => .cst x
  | .bi x => .bi x
  | .fn x n _ => .fn x n
  | .fk x n ks _ => .fk x n ks
  | .er x _ => .er x
  | .cls x _ n _ => .cls x n
  | .fl _ x => .fl x
  | .mt _ x n _ => .mt x n
  | .pr _ x _ => .pr x
abbrev GN := List EntN
def GN.at : GN → Nat → EntN
  | e :: _, 0 => e
  | _ :: r, k + 1 => GN.at r k
  | [], _ => .no
def gn (G : GE) : GN := G.map Ent.n
theorem gn_at : ∀ (G : GE) (k : Nat), (gn G).at k = (G.at k).n
  | [], 0 => rfl
  | [], _ + 1 => rfl
  | _ :: _, 0 => rfl
  | _ :: r, k + 1 => gn_at r k
/-- a name that may be put, at a def's level a cell too -/
def lfB (fl : Bool) (sc : Scope) (x : Str) : Bool := lclB sc x || (fl && locB sc x)
section
variable (N : List Str) (G : GN)
/-- targets -/
def ckG (fl : Bool) (sc : Scope) : TGt → Expr → Bool
  | .nm i, e => match e with
    | .Name x _ => decide (N[i]? = some x) && lfB fl sc x
    | _ => false
  | .tup t, e => match e with
    | .Tuple es _ _ => ckGs t es
    | _ => false
  | _, _ => false
where
  ckGs : TGt → List Expr → Bool
  | .nil, es => match es with
    | [] => true
    | _ => false
  | .cons a r, es => match es with
    | e :: es => !isStar e && ckG fl sc a e && ckGs r es
    | _ => false
  | _, _ => false
def intB : List (Option Expr) → List Expr → List (Int × Int) → Bool
  | [], [], [] => true
  | some (.Constant (.int i) _ _) :: ks, .Constant (.int n) _ _ :: vs, (i', n') :: kv => decide (i = i') && decide (n = n') && intB ks vs kv
  | _, _, _ => false
theorem intB_ok : ∀ {ks : List (Option Expr)} {vs : List Expr} {kv : List (Int × Int)}, intB ks vs kv = true → IntD ks vs kv
  | [], [], [], _ => .nil
  | some (.Constant (.int i) _ _) :: ks, .Constant (.int n) _ _ :: vs, (i', n') :: kv, h => by
    unfold intB at h
    simp only [Bool.and_eq_true, decide_eq_true_eq] at h
    obtain ⟨⟨rfl, rfl⟩, h⟩ := h
    exact .cons (intB_ok h)
def entFn (x : Str) (n : Nat) : EntN → Bool
  | .fn y m => decide (x = y) && decide (n = m)
  | _ => false
def entFk (x : Str) (n : Nat) (ks : List Str) : EntN → Bool
  | .fk y m zs => decide (x = y) && decide (n = m) && decide (ks = zs)
  | _ => false
def entCst (x : Str) : EntN → Bool
  | .cst y => decide (x = y)
  | _ => false
def entFl (x : Str) : EntN → Bool
  | .fl y => decide (x = y)
  | _ => false
def entPr (x : Str) : EntN → Bool
  | .pr y => decide (x = y)
  | _ => false
def entMt (x : Str) (n : Nat) : EntN → Bool
  | .mt y m => decide (x = y) && decide (n = m)
  | _ => false
def entCl (x : Str) (n : Nat) : EntN → Bool
  | .cls y m => decide (x = y) && decide (n = m)
  | _ => false
def kwNames (ks : List Keyword) : List Str := ks.filterMap (·.arg)
def rngB (x : Str) (sc : Scope) (e : Expr) : Bool := match e with
  | .Name y _ => decide (x = y) && glB sc x
  | _ => false
def isTupE : Expr → Bool
  | .Tuple .. => true
  | _ => false
mutual
def ckE (sc : Scope) : IR → Expr → Bool
  | .var i, e => match e with
    | .Name x _ => decide (N[i]? = some x) && visB sc x && dbgB x
    | _ => false
  | .int i, e => match e with
    | .Constant (.int j) _ _ => decide (i = j)
    | _ => false
  | .str i, e => match e with
    | .Constant (.str j) _ _ => decide (i = j)
    | _ => false
  | .bl i, e => match e with
    | .Constant (.bool j) _ _ => decide (i = j)
    | _ => false
  | .non, e => match e with
    | .Constant .none _ _ => true
    | _ => false
  | .glb k, e => match e with
    | .Name x _ => entCst x (G.at k) && glB sc x && dbgB x
    | _ => false
  | .bin op a b, e => match e with
    | .BinOp l o r _ => decide (op = o) && ckE sc a l && ckE sc b r
    | _ => false
  | .neg a, e => match e with
    | .UnaryOp .USub x _ => ckE sc a x
    | _ => false
  | .cmp op a b, e => match e with
    | .Compare l [o] [r] _ => decide (op = o) && ckE sc a l && ckE sc b r && !behindInMarks o r
    | _ => false
  | .chain op op' a b c, e => match e with
    | .Compare l [o, o'] [m, r] _ => decide (op = o) && decide (op' = o') && ckE sc a l && ckE sc b m && ckE sc c r && !lastMarks [o, o'] [m, r]
    | _ => false
  | .and as, e => match e with
    | .BoolOp .And es _ => ckL sc as es
    | _ => false
  | .or as, e => match e with
    | .BoolOp .Or es _ => ckL sc as es
    | _ => false
  | .not a, e => match e with
    | .UnaryOp .Not x _ => ckE sc a x
    | _ => false
  | .ite c a b, e => match e with
    | .IfExp t x y _ => ckT sc c t && ckE sc a x && ckE sc b y
    | _ => false
  | .tup as, e => match e with
    | .Tuple es _ _ => ckA sc as es
    | _ => false
  | .lst _ as, e => match e with
    | .List es _ => ckA sc as es
    | _ => false
  | .dic0, e => match e with
    | .Dict [] [] _ => true
    | _ => false
  | .dicI kv, e => match e with
    | .Dict ks vs _ => intB ks vs kv && !ks.isEmpty && decide (ks.length ≤ 15) && decide ((intV kv).length ≤ 15) && decide (mergeK [] (intV kv) = intV kv)
    | _ => false
  | .ix a b, e => match e with
    | .Subscript x y _ => ckE sc a x && ckE sc b y && !isSlice y
    | _ => false
  | .sl a lo hi, e => match e with
    | .Subscript x (.Slice l h none _) _ => ckE sc a x && ckO sc lo l && ckO sc hi h
    | _ => false
  | .rev a, e => match e with
    | .Subscript x (.Slice none none (some (.UnaryOp .USub (.Constant (.int 1) _ _) _)) _) _ => ckE sc a x
    | _ => false
  | .call k as, e => match e with
    | .Call (.Name x _) es [] _ => entFn x es.length (G.at k) && glB sc x && dbgB x && ckL sc as es && noStar es && !es.isEmpty
    | _ => false
  | .callK k as ks, e => match e with
    | .Call (.Name x _) es kws _ => entFk x es.length (kwNames kws) (G.at k) && glB sc x && dbgB x && ckL sc as es && noStar es && kws.all (·.arg.isSome) && !kws.isEmpty && ckK sc ks kws
    | _ => false
  | .bi b as, e => match e with
    | .Call (.Name x _) es [] _ => decide (x = b.name) && glB sc x && dbgB x && ckL sc as es && noStar es && !es.isEmpty
    | _ => false
  | .mth m o as, e => match e with
    | .Call (.Attribute x n apos) es [] cpos => decide (n = match m with | .append => ("append" : Str) | .extend => "extend" | .insert => "insert") && abOk x && (apos.endLine == cpos.line) && ckE sc o x && ckL sc as es && noStar es && !es.isEmpty && decide (es.length < 30)
    | _ => false
  | .getM o a b, e => match e with
    | .Call (.Attribute x n apos) [y, z] [] cpos => decide (n = "get") && abOk x && (apos.endLine == cpos.line) && ckE sc o x && ckE sc a y && ckE sc b z && !isStar y && !isStar z
    | _ => false
  | .lc _ elt tg it ifs own, e => match e with
    | .ListComp x [⟨t, i, cs, z⟩] scope _ => decide (z = 0) && blkC N sc scope own && (tgSl tg).all (fun j => decide (j ∈ own.map (·.2))) && ckG N false (relabelS scope sc) tg t && ckI sc it i t && !isSetD i && ckF (relabelS scope sc) ifs cs && ckE (relabelS scope sc) elt x
    | _ => false
  | .dc kx vx tg it ifs own, e => match e with
    | .DictComp x y [⟨t, i, cs, z⟩] scope _ => decide (z = 0) && blkC N sc scope own && (tgSl tg).all (fun j => decide (j ∈ own.map (·.2))) && ckG N false (relabelS scope sc) tg t && ckI sc it i t && !isSetD i && ckF (relabelS scope sc) ifs cs && ckE (relabelS scope sc) kx x && ckE (relabelS scope sc) vx y
    | _ => false
  | .frz a, e => ckE sc a e
  | .frzD a, e => ckE sc a e
  | .frzI a, e => ckE sc a e
  | .attr k o, e => match e with
    | .Attribute x f _ => entFl f (G.at k) && abOk x && ckE sc o x
    | _ => false
  | .prop k o, e => match e with
    | .Attribute x f _ => entPr f (G.at k) && abOk x && ckE sc o x
    | _ => false
  | .own k o as, e => match e with
    | .Call (.Attribute x m apos) es [] cpos => entMt m es.length (G.at k) && abOk x && (apos.endLine == cpos.line) && ckE sc o x && ckL sc as es && noStar es && decide (es.length < 30)
    | _ => false
  | .make k as, e => match e with
    | .Call (.Name x _) es [] _ => entCl x es.length (G.at k) && glB sc x && dbgB x && ckL sc as es && noStar es && !es.isEmpty
    | _ => false
  | .srtI o, e => match e with
    | .Call f [.Call (.Attribute x n apos) [] [] cpos] [] _ => rngB "sorted" sc f && decide (n = "items") && abOk x && (apos.endLine == cpos.line) && ckE sc o x
    | _ => false
  | .lstR a b, e => match e with
    | .Call f [.Call g [x, y] [] _] [] _ => rngB "list" sc f && rngB "range" sc g && ckE sc a x && ckE sc b y && !isStar x && !isStar y
    | _ => false
  | .repM a b, e => match e with
    | .BinOp l o r _ => decide (Operator.Mult = o) && ckE sc a l && ckE sc b r
    | _ => false
  | .dic1 a b, e => match e with
    | .Dict [some x] [y] _ => ckE sc a x && ckE sc b y
    | _ => false
  | _, _ => false
def ckT (sc : Scope) : IR → Expr → Bool
  | .cmp op a b, e => match e with
    | .Compare l [o] [r] _ => decide (op = o) && ckE sc a l && ckE sc b r && !behindInMarks o r
    | _ => false
  | .chain op op' a b c, e => match e with
    | .Compare l [o, o'] [m, r] _ => decide (op = o) && decide (op' = o') && ckE sc a l && ckE sc b m && ckE sc c r && !lastMarks [o, o'] [m, r]
    | _ => false
  | .and as, e => match e with
    | .BoolOp .And es _ => ckTs sc as es && !es.isEmpty
    | _ => false
  | .or as, e => match e with
    | .BoolOp .Or es _ => ckTs sc as es && !es.isEmpty
    | _ => false
  | .not a, e => match e with
    | .UnaryOp .Not x _ => ckT sc a x
    | _ => false
  | .tru a, e => ckE sc a e && !isTest e
  | _, _ => false
/-- a clause's tests -/
def ckF (sc : Scope) : IR → List Expr → Bool
  | .nil, es => match es with
    | [] => true
    | _ => false
  | .cons a _, es => match es with
    | [e] => ckT sc a e
    | _ => false
  | _, _ => false
def ckTs (sc : Scope) : IR → List Expr → Bool
  | .nil, es => match es with
    | [] => true
    | _ => false
  | .cons a r, es => match es with
    | e :: es => ckT sc a e && ckTs sc r es
    | _ => false
  | _, _ => false
def ckL (sc : Scope) : IR → List Expr → Bool
  | .nil, es => match es with
    | [] => true
    | _ => false
  | .cons a r, es => match es with
    | e :: es => ckE sc a e && ckL sc r es
    | _ => false
  | _, _ => false
def ckA (sc : Scope) : IR → List Expr → Bool
  | .nil, es => match es with
    | [] => true
    | _ => false
  | .cons a r, es => match es with
    | e :: es => ckE sc a e && !isStar e && ckA sc r es
    | _ => false
  | .star a r, es => match es with
    | .Starred e _ :: es => ckE sc a e && ckA sc r es
    | _ => false
  | _, _ => false
def ckK (sc : Scope) : IR → List Keyword → Bool
  | .nil, es => match es with
    | [] => true
    | _ => false
  | .cons a r, es => match es with
    | ⟨_, e, _⟩ :: es => ckE sc a e && ckK sc r es
    | _ => false
  | _, _ => false
def ckO (sc : Scope) : IR → Option Expr → Bool
  | .nil, e => e.isNone
  | .cons a _, e => match e with
    | some e => ckE sc a e
    | none => false
  | _, _ => false
def ckI (sc : Scope) : IR → Expr → Expr → Bool
  | .itE a, e, _ => ckE sc a e
  | .itR1 a, e, _ => match e with
    | .Call f [x] [] _ => rngB "range" sc f && ckE sc a x && !isStar x
    | _ => false
  | .itR2 a b, e, _ => match e with
    | .Call f [x, y] [] _ => rngB "range" sc f && ckE sc a x && ckE sc b y && !isStar x && !isStar y
    | _ => false
  | .itEn a, e, t => match e with
    | .Call f [x] [] _ => rngB "enumerate" sc f && ckE sc a x && !isStar x && isTupE t
    | _ => false
  | .itZip a b, e, t => match e with
    | .Call f [x, y] [] _ => rngB "zip" sc f && ckE sc a x && ckE sc b y && !isStar x && !isStar y && isTupE t
    | _ => false
  | .itIt a, e, t => match e with
    | .Call (.Attribute x n apos) [] [] cpos => decide (n = "items") && abOk x && (apos.endLine == cpos.line) && ckE sc a x && isTupE t
    | _ => false
  | _, _, _ => false
end
end
end DL

/-! V4: what is walked; comprehensions; what is reckoned holds. -/
namespace DL
open PySem PySem.Spec PyProof.Rows L2
section
variable {X : Cx} {xw : DX} {N : List Str} {k : Nat} {ds : DEnv} {ms : MS} {kd : DK} {kb : KB} {e a b c o : Expr} {pos p apos cpos : Pos} {sc : Scope} {G : GE}
theorem DA.imp {es : List Expr} {kd kd' : List D → MS → Prop} (h : DA X xw es ds ms kd') (i : ∀ d ms', kd' d ms' → kd d ms') : DA X xw es ds ms kd :=
  fun F σ H Q W A v => h F σ H Q W A fun F' w d ms' H' e r S q => v F' w d ms' H' e r S (i d ms' q)
theorem DKw.imp {es : List Keyword} {kd kd' : List D → MS → Prop} (h : DKw X xw es ds ms kd') (i : ∀ d ms', kd' d ms' → kd d ms') : DKw X xw es ds ms kd :=
  fun F σ H Q W A v => h F σ H Q W A fun F' w d ms' H' e r S q => v F' w d ms' H' e r S (i d ms' q)
theorem DT.imp {kb' : KB} (h : DT X xw e ds ms kb') (i : ∀ d ms', kb' d ms' → kb d ms') : DT X xw e ds ms kb :=
  fun F σ H Q W A v => h F σ H Q W A fun F' w ms' H' e S q => v F' w ms' H' e S (i w ms' q)
theorem DW.imp {kb' : KB} (h : DW X xw e ds ms kb') (i : ∀ d ms', kb' d ms' → kb d ms') : DW X xw e ds ms kb :=
  fun F σ H Q W A v => h F σ H Q W A fun F' w ms' H' e S q => v F' w ms' H' e S (i w ms' q)
theorem DE.stp {kd' : DK} (h : DE X xw e ds ms kd') (i : ∀ d ms', kd' d ms' → ∃ ms2, MLe X.K ms' ms2 ∧ kd d ms2) : DE X xw e ds ms kd :=
  fun F σ H Q W A v => h F σ H Q W A fun F' w d ms' H' e r S q => let ⟨ms2, l, q2⟩ := i d ms' q; v F' w d ms2 H' e r (l _ _ S) q2
theorem DT.stp {kb' : KB} (h : DT X xw e ds ms kb') (i : ∀ d ms', kb' d ms' → ∃ ms2, MLe X.K ms' ms2 ∧ kb d ms2) : DT X xw e ds ms kb :=
  fun F σ H Q W A v => h F σ H Q W A fun F' w ms' H' e S q => let ⟨ms2, l, q2⟩ := i w ms' q; v F' w ms2 H' e (l _ _ S) q2
theorem DIt.imp {tg iter : Expr} {KK KK' : KIt} (h : DIt X xw tg iter ds ms KK') (i : ∀ xs keep ms', KK' xs keep ms' → KK xs keep ms') : DIt X xw tg iter ds ms KK :=
  fun F σ H R W A V => h F σ H R W A fun F' xs keep ms' H' J e S ok q => V F' xs keep ms' H' J e S ok (i xs keep ms' q)
theorem Off.mle {L : Addr} {o : MO} {P : MS → Prop} (h : Off ms L o P) {K : PySem.W.Frag} : ∃ ms5, MLe K ms ((L, o) :: ms5) ∧ P ms5 := by
  obtain ⟨i, ms', h1, h2, h3⟩ := h
  refine ⟨ms', ?_, h3⟩
  have := perm_front h1.at
  rw [← h2.eq] at this
  exact .perm this

/-! ### what is walked -/
theorem keep_ls {d : D} {xs : List D} {ms' : MS} (h : match d with | .lst ys => xs = ys | .adr p => ∃ j, Ms ms' j p (.lst xs) | _ => False) : LsOf ms' d xs := by
  cases d <;> first | exact h.elim | skip
  · have h : xs = _ := h
    subst h
    exact .f
  · obtain ⟨j, h⟩ := h; exact .m h
theorem RepK.getp {K : PySem.W.Frag} {F : Hp} : ∀ {kds : List (Key × D)} {kvs : List (Key × V)} {i : Nat} {ky : Key} {d : D}, RepK K F kds kvs → kds[i]? = some (ky, d) → ∃ v, kvs[i]? = some (ky, v) ∧ Rep K F d v
  | [], _, _, _, _, _, e => by simp at e
  | (_, _) :: _, _, 0, _, _, ⟨v, r, h1, h2, _⟩, e => by cases h1; simp at e; obtain ⟨rfl, rfl⟩ := e; exact ⟨v, rfl, h2⟩
  | (_, _) :: _, _, i + 1, _, _, ⟨v, r, h1, _, h3⟩, e => by
    cases h1
    obtain ⟨w, q1, q2⟩ := RepK.getp (i := i) h3 (by simpa using e)
    exact ⟨w, by simpa using q1, q2⟩
theorem ItOk.list {K : PySem.W.Frag} {F : Hp} {d : D} {xs : List D} {p : Addr} (r : Rep K F d (.ref p)) : ItOk K F (Itl K p) xs (fun ms' => LsOf ms' d xs) := fun F' ms' H' e' S' hk => by
  obtain ⟨p', us, z, g1, g2⟩ := hk.at (r.mono e') S'
  cases z
  refine ⟨⟨us, SqL.of g1, by rw [g2.length]; exact Nat.le_refl _⟩, fun i x hx => ?_⟩
  obtain ⟨w, w1, w2⟩ := g2.get hx
  exact ⟨⟨us, w, SqL.of g1, w1⟩, fun v H2 ⟨hH, y⟩ => ⟨F', Le.refl F', by rw [hH]; exact S', by have e := (y us (SqL.of g1)).symm.trans w1; cases e; exact w2⟩⟩
theorem ItOk.tup {K : PySem.W.Frag} {F : Hp} {xs : List D} {p : Addr} {vs : List V} (h1 : SqT K F p vs) (h2 : RepL K F xs vs) : ItOk K F (Itt K p) xs (fun _ => True) := fun F' ms' H' e' S' hk => by
  have g1 := S'.sqT (e'.sqT h1)
  refine ⟨⟨vs, g1, by rw [h2.length]; exact Nat.le_refl _⟩, fun i x hx => ?_⟩
  obtain ⟨w, w1, w2⟩ := h2.get hx
  exact ⟨⟨vs, w, g1, w1⟩, fun v H2 ⟨hH, y⟩ => ⟨F', Le.refl F', by rw [hH]; exact S', by have e := (y vs g1).symm.trans w1; cases e; exact w2.mono e'⟩⟩
theorem ItOk.str {K : PySem.W.Frag} {F : Hp} {z : Str} : ItOk K F (Its z) (signD z) (fun _ => True) := fun F' ms' H' e' S' hk => by
  refine ⟨by unfold signD; rw [List.length_map, Array.length_toList]; exact Nat.le_refl _, fun i x hx => ?_⟩
  unfold signD at hx
  rw [List.getElem?_map, Array.getElem?_toList] at hx
  cases hc : z.cps[i]? with
  | none => rw [hc] at hx; cases hx
  | some c =>
    rw [hc] at hx
    cases hx
    exact ⟨(Array.getElem?_eq_some_iff.mp hc).1, fun v H2 ⟨hH, c', y1, y2⟩ => ⟨F', Le.refl F', by rw [hH]; exact S', by rw [hc] at y1; cases y1; exact y2⟩⟩
theorem ItOk.keys {K : PySem.W.Frag} {F : Hp} {kds : List (Key × D)} {kvs : List (Key × V)} {p : Addr} {ob : Obj} (h1 : F p = some (.frz ob (.dK kvs))) (h2 : RepK K F kds kvs) : ItOk K F (Itk p ob kvs) (kds.map fun kv => keyD kv.1) (fun _ => True) := fun F' ms' H' e' S' hk => by
  have g1 := S'.ex _ _ (e'.nd _ _ h1 rfl)
  refine ⟨⟨g1, by rw [h2.length, List.length_map]; exact Nat.le_refl _⟩, fun i x hx => ?_⟩
  rw [List.getElem?_map] at hx
  cases hc : kds[i]? with
  | none => rw [hc] at hx; cases hx
  | some c =>
    obtain ⟨ky, d⟩ := c
    rw [hc] at hx
    cases hx
    obtain ⟨w, w1, w2⟩ := h2.getp hc
    refine ⟨⟨g1, (List.getElem?_eq_some_iff.mp w1).1⟩, fun v H2 ⟨hH, k', v', y1, y2⟩ => ⟨F', Le.refl F', by rw [hH]; exact S', ?_⟩⟩
    rw [w1] at y1
    cases y1
    subst y2
    cases ky <;> rfl
theorem ItOk.items {K : PySem.W.Frag} {F : Hp} {kds : List (Key × D)} {kvs : List (Key × V)} {p : Addr} {ob : Obj} (h1 : F p = some (.frz ob (.dK kvs))) (h2 : RepK K F kds kvs) : ItOk K F (Iti p ob kvs) (pairD kds) (fun _ => True) := fun F' ms' H' e' S' hk => by
  have g1 := S'.ex _ _ (e'.nd _ _ h1 rfl)
  refine ⟨⟨g1, by unfold pairD; rw [h2.length, List.length_map]; exact Nat.le_refl _⟩, fun i x hx => ?_⟩
  unfold pairD at hx
  rw [List.getElem?_map] at hx
  cases hc : kds[i]? with
  | none => rw [hc] at hx; cases hx
  | some c =>
    obtain ⟨ky, d⟩ := c
    rw [hc] at hx
    cases hx
    obtain ⟨w, w1, w2⟩ := h2.getp hc
    refine ⟨⟨g1, (List.getElem?_eq_some_iff.mp w1).1⟩, fun v H2 ⟨T, k', v', y1, ev, hT, eH⟩ => ?_⟩
    rw [w1] at y1
    cases y1
    have l := Le.new (F := F') (o := .tup [kV ky, w]) (S'.free hT)
    exact ⟨_, l, by rw [eH]; exact S'.newF hT, T, _, ev, SqT.of upd_same, _, _, rfl, (by cases ky <;> rfl), _, _, rfl, (w2.mono e').mono l, rfl⟩
theorem dit_walk {tg iter : Expr} {KK : KIt} (h : DE X xw iter ds ms fun d ms1 => vWalk d ms1 KK) : DIt X xw tg iter ds ms KK := by
  intro F σ H R W A V pins s I
  refine thn (h F σ H (fun x H1 => (∃ a, x = .ref a ∧ (∃ xs, SqL X.K H1 a xs) ∧ R (Itl X.K a) H1) ∨ (∃ a, x = .ref a ∧ (∃ xs, SqT X.K H1 a xs) ∧ R (Itt X.K a) H1) ∨ (∃ z, x = .str z ∧ R (Its z) H1) ∨ (∃ d ob kvs, x = .ref d ∧ H1 d = some (.frz ob (.dK kvs)) ∧ R (Itk d ob kvs) H1)) W A ?_ pins s I) fun v s1 ⟨x, H1, I1, r1, q1⟩ => ?_
  · intro F1 v d ms1 H1 e1 r1 S1 q
    cases d <;> first | exact False.elim q | skip
    · rename_i z
      exact .inr (.inr (.inl ⟨z, r1, V F1 _ _ ms1 H1 (Its z) e1 S1 ItOk.str q⟩))
    · rename_i xs
      obtain ⟨a, vs, rfl, h1, h2⟩ := id r1
      exact .inl ⟨a, rfl, ⟨vs, SqL.of (S1.ex _ _ h1)⟩, V F1 xs (fun _ => True) ms1 H1 (Itl X.K a) e1 S1 (fun F' ms' H' e' S' _ => ItOk.list (d := .lst xs) r1 F' ms' H' e' S' LsOf.f) q⟩
    · rename_i xs
      obtain ⟨a, vs, rfl, h1, h2⟩ := id r1
      exact .inr (.inl ⟨a, rfl, ⟨vs, S1.sqT h1⟩, V F1 xs _ ms1 H1 (Itt X.K a) e1 S1 (ItOk.tup h1 h2) q⟩)
    · rename_i xs
      obtain ⟨a, vs, rfl, h1, h2⟩ := Rep.tt r1
      exact .inr (.inl ⟨a, rfl, ⟨vs, S1.sqT h1⟩, V F1 xs _ ms1 H1 (Itt X.K a) e1 S1 (ItOk.tup h1 h2) q⟩)
    · rename_i kds
      obtain ⟨a, kvs, rfl, ⟨ob, h1⟩, h2⟩ := id r1
      exact .inr (.inr (.inr ⟨a, ob, kvs, rfl, S1.ex _ _ h1, V F1 _ _ ms1 H1 (Itk a ob kvs) e1 S1 (ItOk.keys h1 h2) q⟩))
    · rename_i a
      obtain ⟨i, xs, hm, q⟩ := q
      have r1' : v = .ref a := r1
      subst r1'
      obtain ⟨_, u, h1, vs, rfl, h2⟩ := S1.get hm.at
      exact .inl ⟨a, rfl, ⟨vs, SqL.of h1⟩, V F1 xs _ ms1 H1 (Itl X.K a) e1 S1 (fun F' ms' H' e' S' hk => ItOk.list (d := .adr a) rfl F' ms' H' e' S' (by obtain ⟨j, hk⟩ := hk; exact .m hk)) q⟩
  · rcases q1 with ⟨a, ex, ⟨xs, hq⟩, q⟩ | ⟨a, ex, ⟨xs, hq⟩, q⟩ | ⟨z, ex, q⟩ | ⟨d, ob, kvs, ex, hd, q⟩
    · subst ex
      cases r1
      obtain ⟨its, rv, p, hz⟩ := I1.list hq
      exact wpAny_pyIter_list p.isList (pi_one (tk := s1.toks) I1 _ (turn_list a _) ⟨_, Heap.get?_push_size _ rfl, rfl, rfl⟩ q)
    · subst ex
      cases r1
      obtain ⟨its, rv, p, hz⟩ := I1.tuple hq
      exact wpAny_pyIter_tuple (show s1.heap.IsTuple a its.toArray from p) (pi_one (tk := s1.toks) I1 _ (turn_tuple a _) ⟨_, Heap.get?_push_size _ rfl, rfl, rfl⟩ q)
    · subst ex
      obtain ⟨t, rfl⟩ := r1
      cases ha : z.cps.all (· < 128)
      · exact wpAny_pyIter_wide ha (pi_one (tk := s1.toks) I1 _ (turn_str _ z t "str_iterator" (.inr rfl)) ⟨_, Heap.get?_push_size _ rfl, rfl, rfl⟩ q)
      · exact wpAny_pyIter_ascii ha (pi_one (tk := s1.toks) I1 _ (turn_str _ z t "str_ascii_iterator" (.inl rfl)) ⟨_, Heap.get?_push_size _ rfl, rfl, rfl⟩ q)
    · subst ex
      obtain rfl : v = Value.ref d := r1
      obtain ⟨hs, hgd, hx, es, ep, vs, hdt, hsz, kv, hm⟩ := I1.frzK hd
      refine iter_keys hs hgd hx hdt (pi_one (tk := s1.toks) I1 _ (turn_keys _ hdt) ⟨_, Heap.get?_push_size _ rfl, rfl, ?_⟩ q)
      rw [hsz] <;> rfl
theorem dit_items {elts : List Expr} {kk : Nat} {tpos : Pos} {KK : KIt} (h : DE X xw e ds ms fun d ms1 => ∃ kvs, d = .dic kvs ∧ KK (pairD kvs) (fun _ => True) ms1) (hb : abOk e = true) (hl : (apos.endLine == cpos.line) = true) : DIt X xw (.Tuple elts kk tpos) (.Call (.Attribute e "items" apos) [] [] cpos) ds ms KK :=
  .of (pi_items pe_w (ab_ok hb) hl) fun F σ H R W A V => h F σ H _ W A fun F1 v d ms1 H1 e1 r1 S1 ⟨kds, ed, q⟩ => by
    subst ed
    obtain ⟨a, kvs, rfl, ⟨ob, h1⟩, h2⟩ := id r1
    exact ⟨a, ob, kvs, rfl, S1.ex _ _ h1, V F1 _ _ ms1 H1 (Iti a ob kvs) e1 S1 (ItOk.items h1 h2) q⟩

/-! ### targets -/
theorem lfB_ok {fl : Bool} (V : VX X N k sc G) (hfl : fl = true → ∀ x, X.fn x = true) {x : Str} (h : lfB fl sc x = true) : L2.Loc X.env.scope x ∧ (X.fn x = true ∨ X.env.scope.names.lookup x = some .local) := by
  unfold lfB at h
  rw [Bool.or_eq_true, Bool.and_eq_true] at h
  rcases h with h | ⟨h1, h2⟩
  · have hl := lclB_ok h
    rw [← V.sc] at hl
    exact ⟨.inl hl, .inr hl⟩
  · exact ⟨V.loc h2, .inl (hfl h1 x)⟩
theorem sG {fl : Bool} (V : VX X N k sc G) (hfl : fl = true → ∀ x, X.fn x = true) : (∀ (t : TGt) {e : Expr} {d : D} {ds : DEnv} {K : DEnv → Prop}, ckG N fl sc t e = true → vG t d ds K → DG X xw (tgSl t) e d ds ms fun ds2 ms2 => ms2 = ms ∧ K ds2) ∧
    (∀ (t : TGt) {es : List Expr} {xs : List D} {ds : DEnv} {K : DEnv → Prop}, ckG.ckGs N fl sc t es = true → vG.vGs t xs ds K → DGs X xw (tgSl t) es xs ds ms (fun ds2 ms2 => ms2 = ms ∧ K ds2) ∧ xs.length = es.length ∧ noStar es = true) := by
  suffices h : ∀ t : TGt, (∀ {e : Expr} {d : D} {ds : DEnv} {K : DEnv → Prop}, ckG N fl sc t e = true → vG t d ds K → DG X xw (tgSl t) e d ds ms fun ds2 ms2 => ms2 = ms ∧ K ds2) ∧
    (∀ {es : List Expr} {xs : List D} {ds : DEnv} {K : DEnv → Prop}, ckG.ckGs N fl sc t es = true → vG.vGs t xs ds K → DGs X xw (tgSl t) es xs ds ms (fun ds2 ms2 => ms2 = ms ∧ K ds2) ∧ xs.length = es.length ∧ noStar es = true) from ⟨fun t => (h t).1, fun t => (h t).2⟩
  intro t
  induction t with
  | nil =>
    refine ⟨fun {e d ds K} h q => absurd (show false = true from h) Bool.false_ne_true, fun {es xs ds K} h q => ?_⟩
    cases es with
    | cons _ _ => exact absurd (show false = true from h) Bool.false_ne_true
    | nil =>
      cases xs with
      | cons _ _ => exact False.elim q
      | nil => exact ⟨dgs_nil ⟨rfl, q⟩, rfl, rfl⟩
  | cons a r iha ihr =>
    refine ⟨fun {e d ds K} h q => absurd (show false = true from h) Bool.false_ne_true, fun {es xs ds K} h q => ?_⟩
    cases es with
    | nil => exact absurd (show false = true from h) Bool.false_ne_true
    | cons e es =>
      cases xs with
      | nil => exact False.elim q
      | cons x xs =>
        have h : (!isStar e && ckG N fl sc a e && ckG.ckGs N fl sc r es) = true := h
        simp only [Bool.and_eq_true, Bool.not_eq_true'] at h
        obtain ⟨⟨h1, h2⟩, h3⟩ := h
        have q : vG a x ds fun ds' => vG.vGs r xs ds' K := q
        have hq2 : ∀ ds', vG.vGs r xs ds' K → _ := fun ds' q' => ihr.2 h3 q'
        have ex : ∃ ds', vG.vGs r xs ds' K := by
          clear hq2
          have : ∀ (t : TGt) (d : D) (ds : DEnv) (K : DEnv → Prop), vG t d ds K → ∃ ds', K ds' := by
            have sk : ∀ (ds : DEnv) (i : Nat) (d : Option D) (K : DEnv → Prop), setK ds i d K → ∃ ds', K ds' := fun ds i d K h => ⟨_, (setK_at h).2⟩
            intro t
            suffices hh : (∀ (d : D) (ds : DEnv) (K : DEnv → Prop), vG t d ds K → ∃ ds', K ds') ∧ (∀ (d : List D) (ds : DEnv) (K : DEnv → Prop), vG.vGs t d ds K → ∃ ds', K ds') from hh.1
            induction t with
            | nil => exact ⟨fun d ds K h => False.elim h, fun d ds K h => by cases d with
              | nil => exact ⟨ds, h⟩
              | cons _ _ => exact False.elim h⟩
            | cons a r iha ihr => exact ⟨fun d ds K h => False.elim h, fun d ds K h => by cases d with
              | nil => exact False.elim h
              | cons x xs =>
                obtain ⟨ds', h'⟩ := iha.1 x ds _ h
                exact ihr.2 xs ds' K h'⟩
            | nm i => exact ⟨fun d ds K h => sk ds i _ K h, fun d ds K h => False.elim h⟩
            | tup t ih => exact ⟨fun d ds K h => by cases d <;> first | exact False.elim h | exact ih.2 _ ds K h, fun d ds K h => False.elim h⟩
          exact this a x ds _ q
        obtain ⟨ds', q'⟩ := ex
        obtain ⟨_, l2, s2⟩ := hq2 ds' q'
        refine ⟨dgs_cons (sl := tgSl a) (sl' := tgSl r) ?_ ?_, ?_, ?_⟩
        · have g := iha.1 (K := fun ds' => vG.vGs r xs ds' K) h2 q
          intro F σ H v Q W A rr V'
          refine g F σ H v Q W A rr fun F' ds2 σ' ms2 H' e' a' sr S ⟨em, q2⟩ => V' F' ds2 σ' ms2 H' e' a' sr S ?_
          subst em
          exact (ihr.2 h3 q2).1
        · cases e <;> first | rfl | cases h1
        · rw [List.length_cons, List.length_cons, l2]
        · show (!isStar e && noStar es) = true
          rw [h1, s2]; rfl
  | nm i =>
    refine ⟨fun {e d ds K} h q => ?_, fun {es xs ds K} h q => absurd (show false = true from h) Bool.false_ne_true⟩
    cases e <;> first | exact absurd (show false = true from h) Bool.false_ne_true | skip
    rename_i x pp
    have h : (decide (N[i]? = some x) && lfB fl sc x) = true := h
    simp only [Bool.and_eq_true, decide_eq_true_eq] at h
    obtain ⟨h1, h2⟩ := setK_at (show setK ds i (some d) K from q)
    obtain ⟨g1, g2⟩ := lfB_ok V hfl h.2
    exact dg_name V.c (ix_of h.1) (put_set h1) ⟨rfl, h2⟩ g1 g2
  | tup t ih =>
    refine ⟨fun {e d ds K} h q => ?_, fun {es xs ds K} h q => absurd (show false = true from h) Bool.false_ne_true⟩
    cases e <;> first | exact absurd (show false = true from h) Bool.false_ne_true | skip
    rename_i es kk pp
    cases d <;> first | exact False.elim q | skip
    rename_i xs
    obtain ⟨g, l, s⟩ := ih.2 (es := es) (xs := xs) (ds := ds) (K := K) h q
    refine dg_tup V.c g l ?_ ?_
    · clear g l q h
      induction es with
      | nil => rfl
      | cons e es ih2 =>
        have s : (!isStar e && noStar es) = true := s
        rw [Bool.and_eq_true] at s
        have := ih2 s.2
        cases e <;> first | (show (assignEach es X.env).length + 1 = es.length + 1; rw [this]) | (exact absurd (show false = true from s.1) Bool.false_ne_true)
    · clear g l q h
      induction es with
      | nil => rfl
      | cons e es ih2 =>
        have s : (!isStar e && noStar es) = true := s
        rw [Bool.and_eq_true] at s
        have h2 := ih2 s.2
        have : (assignEach (e :: es) X.env) = (false, assign e X.env) :: assignEach es X.env := by
          cases e <;> first | rfl | exact absurd (show false = true from s.1) Bool.false_ne_true
        rw [this, List.findIdx?_cons, h2]
        rfl
end
end DL

/-! V5: comprehensions; calls by keywords where guards are told; what is reckoned holds (expressions). -/
namespace DL
open PySem PySem.Spec PyProof.Rows L2
section
variable {X : Cx} {xw : DX} {N : List Str} {k : Nat} {ds : DEnv} {ms : MS} {kd : DK} {kb : KB} {e a b c o : Expr} {pos p apos cpos : Pos} {sc : Scope} {G : GE}
/-! ### list comprehensions -/
theorem vLc_keep {keep : MS → Prop} {tgt : D → (DEnv → Prop) → Prop} {ifs : DEnv → MS → KB → Prop} {elt : DEnv → MS → DK → Prop} {fin : List D → MS → Prop} : ∀ {xs acc : List D} {ms : MS}, vLc keep tgt ifs elt fin xs acc ms → ∀ L, keep ((L, .lst acc) :: ms)
  | [], _, _, h => h.1
  | _ :: _, _, _, h => h.1
theorem lct_v {scope : Scope} {own : List (Str × Nat)} {tg elt : Expr} {ifs : List Expr} {t : TGt} {fi : DEnv → MS → KB → Prop} {fe : DEnv → MS → DK → Prop} {keep : MS → Prop} {fin : List D → MS → Prop} {xs : List D}
    (hsl : ∀ j ∈ tgSl t, j ∈ own.map (·.2))
    (hG : ∀ (s : Shared) (H : Hp) (C : Addr) (cl : List (Str × Addr)) (fp : List Addr) (d : D) (ds : DEnv) (ms : MS) (K : DEnv → Prop), vG t d ds K → DG (X.blk s H scope (compEnvC scope cl C X.env) fp) xNo (tgSl t) tg d ds ms fun ds2 ms2 => ms2 = ms ∧ K ds2)
    (hF : ∀ (s : Shared) (H : Hp) (C : Addr) (cl : List (Str × Addr)) (fp : List Addr) (ds : DEnv) (ms : MS) (kb : KB), fi ds ms kb → DTs (X.blk s H scope (compEnvC scope cl C X.env) fp) xNo ifs ds ms kb)
    (hE : ∀ (s : Shared) (H : Hp) (C : Addr) (cl : List (Str × Addr)) (fp : List Addr) (ds : DEnv) (ms : MS) (kd : DK), fe ds ms kd → DE (X.blk s H scope (compEnvC scope cl C X.env) fp) xNo elt ds ms kd)
    (h : vLc keep (fun d k => vG t d (wipeD ds (own.map (·.2))) k) fi fe fin xs [] ms) : LcT X scope own tg elt ifs ds xs keep ms fin := by
  refine ⟨tgSl t, fun i acc ms' => vLc keep (fun d k => vG t d (wipeD ds (own.map (·.2))) k) fi fe fin (xs.drop i) acc ms', hsl, h, fun i acc ms' L _ q => vLc_keep q L, fun i x acc ms' L hx q s H C cl fp => ?_, fun acc ms' q => ?_⟩
  · have hi : i < xs.length := (List.getElem?_eq_some_iff.mp hx).1
    have ed : xs.drop i = x :: xs.drop (i + 1) := by
      rw [List.drop_eq_getElem_cons hi]
      rw [List.getElem?_eq_getElem hi] at hx
      cases hx; rfl
    have q : vLc keep (fun d k => vG t d (wipeD ds (own.map (·.2))) k) fi fe fin (xs.drop i) acc ms' := q
    rw [ed] at q
    obtain ⟨_, q⟩ := q
    have g := hG s H C cl fp x _ ((L, .lst acc) :: ms') _ q
    intro F σ H2 v Q W A r V
    refine g F σ H2 v Q W A r fun F' ds' σ' ms2 H' e a sr S ⟨em, q2⟩ => V F' ds' σ' ms2 H' e a sr S fun s H C cl fp => ?_
    subst em
    have dt := hF s H C cl fp ds' _ _ (q2 L)
    have yes : ∀ ms3, (fe ds' ms3 fun d ms4 => acc.length < sizeLine ∧ Off ms4 L (.lst acc) fun ms5 => vLc keep (fun d k => vG t d (wipeD ds (own.map (·.2))) k) fi fe fin (xs.drop (i + 1)) (acc ++ [d]) ms5) →
        ∀ (s : Shared) (H : Hp) (C : Addr) (cl : List (Str × Addr)) (fp : List Addr), DE (X.blk s H scope (compEnvC scope cl C X.env) fp) xNo elt ds' ms3 fun d ms4 => acc.length < sizeLine ∧ ∃ ms5, ms4 = (L, .lst acc) :: ms5 ∧ vLc keep (fun d k => vG t d (wipeD ds (own.map (·.2))) k) fi fe fin (xs.drop (i + 1)) (acc ++ [d]) ms5 := fun ms3 q s H C cl fp =>
      (hE s H C cl fp ds' ms3 _ q).stp fun d ms4 ⟨hz, off⟩ => by
        obtain ⟨ms5, l, q5⟩ := off.mle (K := X.K)
        exact ⟨_, l, hz, ms5, rfl, q5⟩
    match ifs, dt with
    | [], dt => exact ⟨fun _ => yes _ dt, fun h => absurd h (by decide)⟩
    | [c], dt =>
      refine DT.stp dt fun b ms3 q3 => ?_
      cases b with
      | true => exact ⟨ms3, MLe.refl _ _, fun _ => yes _ q3, fun h => absurd h (by decide)⟩
      | false =>
        obtain ⟨ms5, l, q5⟩ := (show Off _ _ _ _ from q3).mle (K := X.K)
        exact ⟨_, l, fun h => absurd h (by decide), fun _ => ⟨ms5, rfl, q5⟩⟩
    | _ :: _ :: _, dt => exact dt.elim
  · have q : vLc keep (fun d k => vG t d (wipeD ds (own.map (·.2))) k) fi fe fin (xs.drop xs.length) acc ms' := q
    rw [List.drop_length] at q
    exact q.2
/-! ### dict comprehensions -/
theorem vDc_keep {keep : MS → Prop} {tgt : D → (DEnv → Prop) → Prop} {ifs : DEnv → MS → KB → Prop} {kx vx : DEnv → MS → DK → Prop} {fin : List (Key × D) → MS → Prop} : ∀ {xs : List D} {acc : List (Key × D)} {ms : MS}, vDc keep tgt ifs kx vx fin xs acc ms → ∀ L, keep ((L, .dic acc) :: ms)
  | [], _, _, h => h.1
  | _ :: _, _, _, h => h.1
theorem keyK_at {y : D} {P : Key → Prop} (h : keyK y P) : ∃ ky, y = keyD ky ∧ P ky := by
  cases y <;> first | exact False.elim h | skip
  · exact ⟨.inl _, rfl, h⟩
  · exact ⟨.inr _, rfl, h⟩
theorem de_dcM (V : VX X N k sc G) {scope : Scope} {own : List (Str × Nat)} {tg iter kx vx : Expr} {ifs : List Expr} {t : TGt} {fi : DEnv → MS → KB → Prop} {fk fv : DEnv → MS → DK → Prop} {fin : List (Key × D) → MS → Prop} (hfin : ∀ acc ms2, fin acc ms2 → ∀ p, kd (.adr p) ((p, .dic acc) :: ms2)) (hb : blkC N sc scope own = true) (hs : isSetD iter = false)
    (hsl : ∀ j ∈ tgSl t, j ∈ own.map (·.2))
    (hG : ∀ (s : Shared) (H : Hp) (C : Addr) (cl : List (Str × Addr)) (fp : List Addr) (d : D) (ds : DEnv) (ms : MS) (K : DEnv → Prop), vG t d ds K → DG (X.blk s H scope (compEnvC scope cl C X.env) fp) xNo (tgSl t) tg d ds ms fun ds2 ms2 => ms2 = ms ∧ K ds2)
    (hF : ∀ (s : Shared) (H : Hp) (C : Addr) (cl : List (Str × Addr)) (fp : List Addr) (ds : DEnv) (ms : MS) (kb : KB), fi ds ms kb → DTs (X.blk s H scope (compEnvC scope cl C X.env) fp) xNo ifs ds ms kb)
    (hK : ∀ (s : Shared) (H : Hp) (C : Addr) (cl : List (Str × Addr)) (fp : List Addr) (ds : DEnv) (ms : MS) (kd : DK), fk ds ms kd → DE (X.blk s H scope (compEnvC scope cl C X.env) fp) xNo kx ds ms kd)
    (hV : ∀ (s : Shared) (H : Hp) (C : Addr) (cl : List (Str × Addr)) (fp : List Addr) (ds : DEnv) (ms : MS) (kd : DK), fv ds ms kd → DE (X.blk s H scope (compEnvC scope cl C X.env) fp) xNo vx ds ms kd)
    (h : DIt X xw tg iter ds ms fun xs keep ms1 => vDc keep (fun d k => vG t d (wipeD ds (own.map (·.2))) k) fi fk fv fin xs [] ms1) : DE X xw (.DictComp kx vx [⟨tg, iter, ifs, 0⟩] scope pos) ds ms kd := by
  refine .of (pe_dc V.c.calm V.c.ndX pi_w (blkOk_by (by rw [V.c.names, V.sc]; exact hb)) bg_ok bt_ok be_ok be_ok (folded_ok hs)) fun F σ H Q W A VV => ?_
  refine h F σ H _ W A fun F1 xs keep ms1 H1 J e1 S1 ok q1 L hL => ?_
  let I : Nat → List (Key × D) → MS → Prop := fun i acc ms' => vDc keep (fun d k => vG t d (wipeD ds (own.map (·.2))) k) fi fk fv fin (xs.drop i) acc ms'
  refine ⟨fun i m H' => ∃ F' acc ms', Le F1 F' ∧ Sep X.K F' ((L, .dic acc) :: ms') H' ∧ I i acc ms' ∧ i + m = xs.length, ⟨xs.length, F1, [], ms1, Le.refl F1, S1.new (o := .dic []) hL ⟨[], rfl, rfl⟩, q1, by omega⟩, fun i m H' ⟨F2, acc, ms2, e2, S2, i2, hm⟩ => ?_⟩
  obtain ⟨stop, go⟩ := ok F2 _ H' e2 S2 (vDc_keep i2 L)
  by_cases hi : i < xs.length
  · obtain ⟨g, y⟩ := go i _ (List.getElem?_eq_getElem hi)
    have ed : xs.drop i = xs[i] :: xs.drop (i + 1) := List.drop_eq_getElem_cons hi
    have i2 : vDc keep (fun d k => vG t d (wipeD ds (own.map (·.2))) k) fi fk fv fin (xs.drop i) acc ms2 := i2
    rw [ed] at i2
    obtain ⟨_, i2⟩ := i2
    refine .inr ⟨g, fun H' => ∃ F' acc ms', Le F1 F' ∧ Sep X.K F' ((L, .dic acc) :: ms') H' ∧ I (i + 1) acc ms', fun H3 ⟨F3, acc3, ms3, e3, S3, i3⟩ => ⟨m - 1, by omega, F3, acc3, ms3, e3, S3, i3, by omega⟩, fun v H2 hy => ?_⟩
    obtain ⟨F3, e3, S3, r3⟩ := y v H2 hy
    have l3 := (e1.trans e2).trans e3
    have srw := (A.sr.mono l3).wipe (own.map (·.2))
    intro s H0 Cc cl fp
    have AB : ∀ (s : Shared) (H0 : Hp) (Cc : Addr) (cl : List (Str × Addr)) (fp : List Addr) {F' : Hp} {ds' : DEnv} {σ' : L2.St} {ms' : MS} {H' : Hp}, SR X.K F' ds' σ' → Sep X.K F' ms' H' →
        At (X.blk s H0 scope (compEnvC scope cl Cc X.env) fp) xNo F' ds' σ' ms' H' (fun _ _ _ _ => False) := fun s H0 Cc cl fp F' ds' σ' ms' H' r S => ⟨r, S, tNo, xcNo⟩
    refine hG s H0 Cc cl fp _ _ ((L, .dic acc) :: ms2) _ i2 F3 _ H2 v _ _ (AB s H0 Cc cl fp srw S3) r3 fun F4 ds4 σ4 ms4 H4 e4 a4 sr4 S4 ⟨em4, k4⟩ => ⟨wipe_agree a4 hsl, ?_⟩
    subst em4
    intro s H0 Cc cl fp
    refine (hF s H0 Cc cl fp ds4 _ _ (k4 L)).run (AB s H0 Cc cl fp sr4 S4) fun F5 b ms5 H5 e5 S5 q5 => ?_
    cases b with
    | true =>
      rw [if_pos rfl]
      intro s H0 Cc cl fp
      refine hK s H0 Cc cl fp ds4 ms5 _ q5 F5 σ4 H5 _ _ (AB s H0 Cc cl fp (sr4.mono e5) S5) fun F6 d vd ms6 H6 e6 r6 S6 q6 => ?_
      intro s H0 Cc cl fp
      refine hV s H0 Cc cl fp ds4 ms6 _ q6 F6 σ4 H6 _ _ (AB s H0 Cc cl fp ((sr4.mono e5).mono e6) S6) fun F7 d' vd' ms7 H7 e7 r7 S7 q7 => ?_
      obtain ⟨ky, ey, hz, off⟩ := keyK_at q7
      obtain ⟨ms8, l8, q8⟩ := off.mle (K := X.K)
      have S8 := l8 _ _ S7
      obtain ⟨_, u, hu, us, eu, hr⟩ := S8.get (i := 0) (p := L) (o := .dic acc) rfl
      subst eu
      subst ey
      refine ⟨us, ky, key_rep (r6.mono e7), hu, by rw [hr.length]; exact hz, F7, _, ms8, ((((e2.trans e3).trans e4).trans e5).trans e6).trans e7, S8.set (i := 0) (p := L) (o := .dic acc) (o' := .dic (putD acc ky vd')) rfl ⟨_, rfl, hr.put ky r7⟩, q8⟩
    | false =>
      rw [if_neg Bool.false_ne_true]
      obtain ⟨ms7, l7, q7⟩ := (show Off _ _ _ _ from q5).mle (K := X.K)
      exact ⟨F5, acc, ms7, ((e2.trans e3).trans e4).trans e5, l7 _ _ S5, q7⟩
  · have e : i = xs.length := by omega
    subst e
    have i2 : vDc keep (fun d k => vG t d (wipeD ds (own.map (·.2))) k) fi fk fv fin (xs.drop xs.length) acc ms2 := i2
    rw [List.drop_length] at i2
    exact .inl ⟨stop, VV F2 (.ref L) (.adr L) _ H' (e1.trans e2) rfl S2 (hfin _ _ i2.2 L)⟩

/-! ### calls by keywords, in any sequence -/
theorem kw_run {pins : List (Addr × Obj)} {σ : L2.St} {H : Hp} {s : Shared} {Q : VK} {us ws : List Value} {vs zs : List L2.V} {n : Nat} {j : Nat} {x : Str} {f : Addr} {fd : FuncData} {ps ks : List Str} {idx : List Nat} {S S0 : DSp} {E : L2.St → XK} (G : DefAtG X.prog X.w X.K X.mg X.base j x f fd ps S0) (hr : Room j X.A) (gd : X.A.guards = some []) (hb : KwI X.K fd n ps ks idx)
    (hS : ∀ vs ms kd xk, S vs ms kd xk → vs.length = n + ks.length ∧ S0 (re idx vs) ms kd xk) (hx : PassesAt (L2.CX X.prog X.w) X σ (E σ)) (I : Inv X pins σ H s) (r : Vals vs us) (rz : Vals zs ws) (hl : ws.length = ks.length) (h : toSp X.K S (vs ++ zs) H Q (E σ)) : wpAny (model X.prog X.w) X.A (call (.ref f) us (ks.zip ws)) (EP X pins σ Q) X.xe s := by
  have r2 := r.append rz
  have hn : us.length = n := by
    obtain ⟨F, ds, ms, kd, xk, rr, _, q, _⟩ := h
    have := (hS _ _ _ _ q).1
    rw [← rr.length, List.length_append, r.length, rz.length, hl] at this
    omega
  have h0 := toSp_re (idx := idx) (fun vs ms kd xk q => (hS vs ms kd xk q).2) h
  refine wpAny_call (codeAny_mono (G.fn.run X.A X.stack s H ⟨us, ks.zip ws⟩ (re idx (us ++ ws)) (re idx (vs ++ zs)) Q (E σ) hr gd I.env0 (hb s us ws I.kIn hn hl) (re_vals r2) h0) fun rs sE hq => ?_)
  match rs, hq with
  | .error e, hq => exact hx pins H s e sE I hq
  | .ok (.ret u), hq => exact I.after hq
  | .ok .next, hq => exact False.elim hq
  | .ok .brk, hq => exact False.elim hq
  | .ok .cont, hq => exact False.elim hq
theorem de_callKwG0 (C : Ctx X N k) (gd : X.A.guards = some []) {x : Str} {n j : Nat} {ks : List Str} {S : DSp} {kws : List Keyword} (G : DefKw X.prog X.w X.K X.mg X.base j x n ks S) (hj : j ≤ k) (h : DKw X xw kws ds ms fun vs ms1 => vs.length = ks.length ∧ ∃ ms2, MLe X.K ms1 ms2 ∧ S vs ms2 kd fun Cx d ms2 => xw Cx d ds ms2) (hg : Gl X x)
    (hdb : (x == ("__debug__" : Str)) = false) (hall : (backToKw pos (keywordEach kws X.env)).all (·.1.isSome) = true) (hks : (backToKw pos (keywordEach kws X.env)).filterMap (·.1) = ks)
    (hpl : ((backTo pos (starEach [] X.env)).any (·.1) || (backToKw pos (keywordEach kws X.env)).any (·.1.isNone)) = false) : DE X xw (.Call (.Name x p) [] kws pos) ds ms kd := fun F σ H Q W A V pins s I => by
  obtain ⟨f, fd, ps, idx, S0, G0, hS, hb⟩ := G
  refine wpAny_Call_Name_kw (ld_glob I hg G0.gl ?_ hdb)
  refine PySem.W.callWith_KW0 (h₀ := X.base) I.ok.mod.kin G0.kp hall (thn (h F σ H (fun zs H1 => zs.length = ks.length ∧ toSp X.K S zs H1 Q (WE W σ)) W A (fun F1 zs xs ms1 H1 e1 r1 S1 ⟨hl, ms2, l, k1⟩ => ⟨by rw [r1.length]; exact hl, to_sp (A.mv e1 (l _ _ S1)) rfl r1 (V.mono e1) k1⟩) pos pins s I) fun ws s2 ⟨zs, H2, I2, rz, hl, q⟩ => ⟨I2.kIn, ?_⟩) hpl
  rw [hks]
  exact kw_run (us := []) (vs := []) (E := WE W) G0 (C.room.mono hj) gd hb hS (passAt A.tk σ) I2 .nil rz (by rw [← rz.length]; exact hl) q
theorem de_callKwG (C : Ctx X N k) (gd : X.A.guards = some []) {x : Str} {n j : Nat} {ks : List Str} {S : DSp} {kws : List Keyword} {es : List Expr} (G : DefKw X.prog X.w X.K X.mg X.base j x n ks S) (hj : j ≤ k) (h : DA X xw (e :: es) ds ms fun us ms0 => DKw X xw kws ds ms0 fun vs ms1 => vs.length = ks.length ∧ ∃ ms2, MLe X.K ms1 ms2 ∧ S (us ++ vs) ms2 kd fun Cx d ms2 => xw Cx d ds ms2) (hg : Gl X x)
    (hdb : (x == ("__debug__" : Str)) = false) (hall : (backToKw pos (keywordEach kws X.env)).all (·.1.isSome) = true) (hks : (backToKw pos (keywordEach kws X.env)).filterMap (·.1) = ks)
    (hpl : ((backTo pos (starEach (e :: es) X.env)).any (·.1) || (backToKw pos (keywordEach kws X.env)).any (·.1.isNone)) = false) (he : starEach (e :: es) X.env = (false, eval e X.env) :: starEach es X.env) : DE X xw (.Call (.Name x p) (e :: es) kws pos) ds ms kd := fun F σ H Q W A V pins s I => by
  obtain ⟨f, fd, ps, idx, S0, G0, hS, hb⟩ := G
  refine wpAny_Call_Name_kw (ld_glob I hg G0.gl ?_ hdb)
  refine PySem.W.callWith_KW (h₀ := X.base) I.ok.mod.kin G0.kp hall (thn (h F σ H (fun vs H1 => wK X kws σ H1 fun zs H2 => zs.length = ks.length ∧ toSp X.K S (vs ++ zs) H2 Q (WE W σ)) W A (fun F1 vs xs ms1 H1 e1 r1 S1 k1 => ?_) pos pins s I) fun us s1 ⟨vs, H1, I1, r, q⟩ => ?_) hpl he
  · exact k1 F1 σ H1 _ W (A.mv e1 S1) fun F2 zs ys ms2 H2 e2 r2 S2 ⟨hl, ms3, l, k2⟩ => ⟨by rw [r2.length]; exact hl, to_sp ((A.mv e1 S1).mv e2 (l _ _ S2)) rfl ((r1.mono e2).append r2) ((V.mono e1).mono e2) k2⟩
  · refine thn (q pos pins s1 I1) fun ws s2 ⟨zs, H2, I2, rz, hl, q2⟩ => ⟨I2.kIn, ?_⟩
    rw [hks]
    exact kw_run (E := WE W) G0 (C.room.mono hj) gd hb hS (passAt A.tk σ) I2 r rz (by rw [← rz.length]; exact hl) q2
theorem de_callG0 (C : Ctx X N k) (gd : X.A.guards = some []) {x : Str} {f : Addr} {fd : FuncData} {ps : List Str} {S : DSp} {j : Nat} (G : DefAtG X.prog X.w X.K X.mg X.base j x f fd ps S) (hj : j ≤ k) (h : S [] ms kd fun Cx d ms2 => xw Cx d ds ms2) (hg : Gl X x)
    (hdb : (x == ("__debug__" : Str)) = false) : DE X xw (.Call (.Name x p) [] [] pos) ds ms kd := fun F σ H Q W A V pins s I => by
  refine wpAny_Call_Name_kw (ld_glob I hg G.gl ?_ hdb)
  exact PySem.W.callWith_K0 I.kIn G.kp (run_fnG (us := []) (vs := []) (E := WE W) G.fn (C.room.mono hj) gd G.bn (passAt A.tk σ) I .nil (to_sp (xs := []) A rfl rfl V h))
/-! ### x[::-1], d.get(k, z) -/
theorem RepL.reverse {K : PySem.W.Frag} {F : Hp} : ∀ {ds : List D} {vs : List V}, RepL K F ds vs → RepL K F ds.reverse vs.reverse
  | [], _, h => by cases h; rfl
  | _ :: _, _, ⟨v, r, h1, h2, h3⟩ => by cases h1; rw [List.reverse_cons, List.reverse_cons]; exact (RepL.reverse h3).append (RepL.one h2)
theorem de_rev {j : Nat} {p1 p2 p3 pos : Pos} (h : DE X xw e ds ms fun x ms1 => lsK ms1 x fun xs => kd (.lst xs.reverse) ms1) : DE X xw (.Subscript e (.Slice none none (some (.UnaryOp .USub (.Constant (.int 1) j p1) p2)) p3) pos) ds ms kd :=
  .of (pe_revL pe_w) fun F σ H Q W A V => h F σ H _ W A fun F1 v d ms1 H1 e1 r1 S1 q => by
    obtain ⟨xs, l, q⟩ := lsK_at q
    obtain ⟨a, vs, rfl, h1, h2⟩ := l.at r1 S1
    exact ⟨a, vs, rfl, SqL.of h1, fun p hp => V _ (.ref p) (.lst _) ms1 _ (e1.trans (Le.new (S1.free hp))) ⟨p, _, rfl, upd_same, h2.reverse.mono (Le.new (S1.free hp))⟩ (S1.newF hp) q⟩
theorem DcOf.isD {K : PySem.W.Frag} {F H : Hp} {ms : MS} {d : D} {xs : List (Key × D)} {v : V} (h : DcOf ms d xs) (r : Rep K F d v) (S : Sep K F ms H) : ∃ a, v = .ref a ∧ IsD H a := by
  obtain ⟨p, vs, rfl, h1, _⟩ := h.at r S
  exact ⟨p, rfl, .inl ⟨vs, h1⟩⟩
theorem de_get2 (C : Ctx X N k) (h : DE X xw o ds ms fun x ms1 => dcK ms1 x fun _ => DE X xw a ds ms1 fun y ms2 => DE X xw b ds ms2 fun z ms3 => dcK ms3 x fun kvs => keyK y fun ky => kd ((valD kvs ky).getD z) ms3)
    (hb : abOk o = true) (ha : isStar a = false) (hbs : isStar b = false) (hl : (apos.endLine == cpos.line) = true) : DE X xw (.Call (.Attribute o "get" apos) [a, b] [] cpos) ds ms kd := by
  have m : M2 X o "get" apos a b cpos := ⟨ab_ok hb, by
    have n : noStar [a, b] = true := by unfold noStar; simp [ha, hbs]
    rw [nostar_all n]; rfl, hl, by rw [star_no ha, star_no hbs]; rfl⟩
  refine .of (pe_dget2 C.hu pe_w pe_w pe_w m) fun F σ H Q W A V => h F σ H _ W A fun F1 v d ms1 H1 e1 r1 S1 q => ?_
  obtain ⟨kv0, l0, q⟩ := dcK_at q
  obtain ⟨p, rfl, hp⟩ := l0.isD r1 S1
  refine ⟨p, rfl, hp, q F1 σ H1 _ W (A.mv e1 S1) fun F2 v2 d2 ms2 H2 e2 r2 S2 q2 => q2 F2 σ H2 _ W (A.mv (e1.trans e2) S2) fun F3 v3 d3 ms3 H3 e3 r3 S3 q3 => ?_⟩
  obtain ⟨kvs, l, q3⟩ := dcK_at q3
  obtain ⟨ky, rfl, q4⟩ := keyK_at q3
  clear q3
  obtain ⟨p', vs, ep, h1, h2⟩ := l.at ((r1.mono e2).mono e3) S3
  cases ep
  have e2' := key_rep r2
  subst e2'
  obtain ⟨g1, g2⟩ := h2.val (k := ky)
  refine ⟨_, .inl ⟨vs, ky, h1, rfl, rfl⟩, ?_⟩
  cases hv : valD kvs ky with
  | none =>
    rw [g2 hv]
    rw [hv] at q4
    exact V F3 _ _ ms3 H3 ((e1.trans e2).trans e3) r3 S3 q4
  | some d =>
    obtain ⟨w, w1, w2⟩ := g1 d hv
    rw [w1]
    rw [hv] at q4
    exact V F3 _ _ ms3 H3 ((e1.trans e2).trans e3) w2 S3 q4
end
end DL

/-! V6: what is reckoned of an expression holds. -/
namespace DL
open PySem PySem.Spec PyProof.Rows L2
theorem nobool {p : Prop} (h : false = true) : p := absurd h Bool.false_ne_true
/-- all that is to be shown of one tree -/
structure SE (N : List Str) (G : GE) (r : IR) : Prop where
  E : ∀ {X : Cx} {k : Nat} {sc : Scope} (_ : VX X N k sc G) {xw : DX} {e : Expr} {ds : DEnv} {ms : MS} {kd : DK}, ckE N (gn G) sc r e = true → vE G xw r ds ms kd → DE X xw e ds ms kd
  T : ∀ {X : Cx} {k : Nat} {sc : Scope} (_ : VX X N k sc G) {xw : DX} {e : Expr} {ds : DEnv} {ms : MS} {kb : KB}, ckT N (gn G) sc r e = true → vT G xw r ds ms kb → DT X xw e ds ms kb
  F : ∀ {X : Cx} {k : Nat} {sc : Scope} (_ : VX X N k sc G) {xw : DX} {es : List Expr} {ds : DEnv} {ms : MS} {kb : KB}, ckF N (gn G) sc r es = true → vT G xw r ds ms kb → DTs X xw es ds ms kb
  aT : ∀ {X : Cx} {k : Nat} {sc : Scope} (_ : VX X N k sc G) {xw : DX} {e : Expr} {es : List Expr} {pos : Pos} {ds : DEnv} {ms : MS} {kb : KB}, ckTs N (gn G) sc r (e :: es) = true → vAnd G xw r ds ms kb → DW X xw (.BoolOp .And (e :: es) pos) ds ms kb
  oT : ∀ {X : Cx} {k : Nat} {sc : Scope} (_ : VX X N k sc G) {xw : DX} {e : Expr} {es : List Expr} {pos : Pos} {ds : DEnv} {ms : MS} {kb : KB}, ckTs N (gn G) sc r (e :: es) = true → vOr G xw r ds ms kb → DW X xw (.BoolOp .Or (e :: es) pos) ds ms kb
  aE : ∀ {X : Cx} {k : Nat} {sc : Scope} (_ : VX X N k sc G) {xw : DX} {es : List Expr} {pos : Pos} {ds : DEnv} {ms : MS} {kd : DK}, ckL N (gn G) sc r es = true → vAndV G xw r ds ms kd → DE X xw (.BoolOp .And es pos) ds ms kd
  oE : ∀ {X : Cx} {k : Nat} {sc : Scope} (_ : VX X N k sc G) {xw : DX} {es : List Expr} {pos : Pos} {ds : DEnv} {ms : MS} {kd : DK}, ckL N (gn G) sc r es = true → vOrV G xw r ds ms kd → DE X xw (.BoolOp .Or es pos) ds ms kd
  L : ∀ {X : Cx} {k : Nat} {sc : Scope} (_ : VX X N k sc G) {xw : DX} {es : List Expr} {ds : DEnv} {ms : MS} {kd : List D → MS → Prop}, ckL N (gn G) sc r es = true → noStar es = true → vA G xw r ds ms kd → DA X xw es ds ms kd
  A : ∀ {X : Cx} {k : Nat} {sc : Scope} (_ : VX X N k sc G) {xw : DX} {es : List Expr} {ds : DEnv} {ms : MS} {kd : List D → MS → Prop}, ckA N (gn G) sc r es = true → vA G xw r ds ms kd → DA X xw es ds ms kd
  K : ∀ {X : Cx} {k : Nat} {sc : Scope} (_ : VX X N k sc G) {xw : DX} {es : List Keyword} {ds : DEnv} {ms : MS} {kd : List D → MS → Prop}, ckK N (gn G) sc r es = true → vA G xw r ds ms kd → DKw X xw es ds ms fun vs ms' => vs.length = es.length ∧ kd vs ms'
  O : ∀ {X : Cx} {k : Nat} {sc : Scope} (_ : VX X N k sc G) {xw : DX} {e : Option Expr} {ds : DEnv} {ms : MS} {ko : Option Int → MS → Prop}, ckO N (gn G) sc r e = true → vO G xw r ds ms ko → DO X xw e ds ms ko
  I : ∀ {X : Cx} {k : Nat} {sc : Scope} (_ : VX X N k sc G) {xw : DX} {e t : Expr} {ds : DEnv} {ms : MS} {KK : KIt}, ckI N (gn G) sc r e t = true → vI G xw r ds ms KK → DIt X xw t e ds ms KK
theorem DO.imp {X : Cx} {xw : DX} {e : Option Expr} {ds : DEnv} {ms : MS} {ko ko' : Option Int → MS → Prop} (h : DO X xw e ds ms ko') (i : ∀ d ms', ko' d ms' → ko d ms') : DO X xw e ds ms ko := by
  cases e with
  | none => exact i _ _ h
  | some e => exact DE.imp h fun d ms' ⟨j, ej, q⟩ => ⟨j, ej, i _ _ q⟩
theorem OpD.imp {X : Cx} {f : Value → Value → Sem Value} {x y : D} {ms : MS} {kd kd' : DK} (h : OpD X f x y ms kd') (i : ∀ d ms', kd' d ms' → kd d ms') : OpD X f x y ms kd :=
  fun F v u H Q rv ru S V => h F v u H Q rv ru S fun F' w d ms' H' e r S q => V F' w d ms' H' e r S (i d ms' q)
theorem lsK_imp {ms : MS} {d : D} {P P' : List D → Prop} (h : lsK ms d P) (i : ∀ xs, P xs → P' xs) : lsK ms d P' := by
  cases d <;> first | exact h.elim | skip
  · exact i _ h
  · obtain ⟨j, xs, h1, h2⟩ := h; exact ⟨j, xs, h1, i _ h2⟩
theorem dcK_imp {ms : MS} {d : D} {P P' : List (Key × D) → Prop} (h : dcK ms d P) (i : ∀ xs, P xs → P' xs) : dcK ms d P' := by
  cases d <;> first | exact h.elim | skip
  · exact i _ h
  · obtain ⟨j, xs, h1, h2⟩ := h; exact ⟨j, xs, h1, i _ h2⟩
theorem vTru_imp {x : D} {ms : MS} {kb kb' : KB} (h : vTru x ms kb') (i : ∀ b ms', kb' b ms' → kb b ms') : vTru x ms kb := by
  cases x <;> first | exact i _ _ h | exact ⟨h.1, i _ _ h.2⟩ | exact False.elim h | (obtain ⟨j, xs, h1, h2⟩ := h; exact ⟨j, xs, h1, i _ _ h2⟩)
theorem kw_len {ks : List Keyword} (h : ks.all (·.arg.isSome) = true) : (kwNames ks).length = ks.length := by
  induction ks with
  | nil => rfl
  | cons a r ih =>
    rw [List.all_cons, Bool.and_eq_true] at h
    obtain ⟨n, e, p⟩ := a
    cases n with
    | none => exact nobool (show false = true from h.1)
    | some n =>
      show (n :: kwNames r).length = _
      rw [List.length_cons, List.length_cons, ih h.2]
theorem kw_names {ks : List Keyword} {pos : Pos} {env : Env} : (backToKw pos (keywordEach ks env)).filterMap (·.1) = kwNames ks := by
  induction ks with
  | nil => rfl
  | cons a r ih =>
    obtain ⟨n, e, p⟩ := a
    cases n with
    | none => exact ih
    | some n =>
      show n :: (backToKw pos (keywordEach r env)).filterMap (·.1) = n :: kwNames r
      rw [ih]
theorem kw_all {ks : List Keyword} {pos : Pos} {env : Env} (h : ks.all (·.arg.isSome) = true) : (backToKw pos (keywordEach ks env)).all (·.1.isSome) = true := by
  induction ks with
  | nil => rfl
  | cons a r ih =>
    rw [List.all_cons, Bool.and_eq_true] at h
    obtain ⟨n, e, p⟩ := a
    show (n.isSome && (backToKw pos (keywordEach r env)).all (·.1.isSome)) = true
    rw [ih h.2, Bool.and_true]
    exact h.1
theorem kw_pl {ks : List Keyword} {es : List Expr} {pos : Pos} {env : Env} (h : ks.all (·.arg.isSome) = true) (n : noStar es = true) : ((backTo pos (starEach es env)).any (·.1) || (backToKw pos (keywordEach ks env)).any (·.1.isNone)) = false := by
  rw [nostar_any n, Bool.false_or]
  induction ks with
  | nil => rfl
  | cons a r ih =>
    rw [List.all_cons, Bool.and_eq_true] at h
    obtain ⟨nm, e, p⟩ := a
    show (nm.isNone || (backToKw pos (keywordEach r env)).any (·.1.isNone)) = false
    rw [ih h.2, Bool.or_false]
    cases nm with
    | none => exact nobool (show false = true from h.1)
    | some _ => rfl
theorem DIt.keepm {X : Cx} {xw : DX} {tg iter : Expr} {ds : DEnv} {ms : MS} {KK : KIt} (h : DIt X xw tg iter ds ms fun xs keep ms1 => ∃ keep', (∀ ms', keep' ms' → keep ms') ∧ KK xs keep' ms1) : DIt X xw tg iter ds ms KK :=
  fun F σ H R W A V => h F σ H R W A fun F' xs keep ms' H' J e S ok ⟨keep', i, q⟩ => V F' xs keep' ms' H' J e S (fun F2 ms2 H2 l S2 k => ok F2 ms2 H2 l S2 (i _ k)) q
section
variable {X : Cx} {ms : MS} {kd : DK}
theorem vAppend_ok {x : D} {vs : List D} (q : vMth .append x vs ms kd) : MtD X "list.append" x vs ms kd := by
  cases x <;> first | exact False.elim q | skip
  match vs, q with
  | [y], q =>
    obtain ⟨i, zs, hm, hl, q⟩ := q
    obtain ⟨ms', hp, q⟩ := msetK_at q
    exact mtd_append hm hp hl q
  | [], q => exact False.elim q
  | _ :: _ :: _, q => exact False.elim q
theorem vExtend_ok {x : D} {vs : List D} (q : vMth .extend x vs ms kd) : MtD X "list.extend" x vs ms kd := by
  cases x <;> first | exact False.elim q | skip
  match vs, q with
  | [y], q =>
    obtain ⟨i, zs, hm, q⟩ := q
    obtain ⟨ys, l, hl, q⟩ := lsK_at q
    obtain ⟨ms', hp, q⟩ := msetK_at q
    exact mtd_extend hm l hp hl q
  | [], q => exact False.elim q
  | _ :: _ :: _, q => exact False.elim q
theorem vInsert_ok {x : D} {vs : List D} (q : vMth .insert x vs ms kd) : MtD X "list.insert" x vs ms kd := by
  cases x <;> first | exact False.elim q | skip
  match vs, q with
  | [.int n, y], q =>
    obtain ⟨i, zs, hm, ⟨hl, h0, h1⟩, q⟩ := q
    obtain ⟨ms', hp, q⟩ := msetK_at q
    have e : n = ((n.toNat : Nat) : Int) := by omega
    rw [e]
    refine mtd_insert hm (n := n.toNat) hp hl (by omega) q
end
section
variable {N : List Str} {G : GE}
/-! the leaves: lists -/
theorem se_nil : SE N G .nil where
  E := fun _ _ _ _ _ _ h q => nobool (by first | exact h | (cases ‹Expr› <;> exact h))
  T := fun _ _ _ _ _ _ h q => nobool h
  F := fun {X k sc} V {xw es ds ms kb} h q => by
    cases es with
    | nil => exact q
    | cons _ _ => exact nobool h
  aT := fun _ _ _ _ _ _ _ _ h q => nobool h
  oT := fun _ _ _ _ _ _ _ _ h q => nobool h
  aE := fun _ _ _ _ _ _ _ h q => False.elim q
  oE := fun _ _ _ _ _ _ _ h q => False.elim q
  L := fun {X k sc} V {xw es ds ms kd} h _ q => by
    cases es with
    | nil => exact da_nil q
    | cons _ _ => exact nobool h
  A := fun {X k sc} V {xw es ds ms kd} h q => by
    cases es with
    | nil => exact da_nil q
    | cons _ _ => exact nobool h
  K := fun {X k sc} V {xw es ds ms kd} h q => by
    cases es with
    | nil => exact dk_nil ⟨rfl, q⟩
    | cons _ _ => exact nobool h
  O := fun {X k sc} V {xw e ds ms ko} h q => by
    cases e with
    | none => exact do_none q
    | some _ => exact nobool h
  I := fun _ _ _ _ _ _ _ h q => nobool h
theorem se_star {a r : IR} (ha : SE N G a) (hr : SE N G r) : SE N G (.star a r) where
  E := fun _ => fun h q => nobool h
  T := fun _ => fun h q => nobool h
  F := fun _ => fun h q => nobool h
  aT := fun _ => fun h q => nobool h
  oT := fun _ => fun h q => nobool h
  aE := fun _ => fun h q => False.elim q
  oE := fun _ => fun h q => False.elim q
  L := fun _ => fun h _ q => nobool h
  A := fun {X k sc} V {xw es ds ms kd} h q => by
    cases es with
    | nil => exact nobool h
    | cons e es =>
      cases e <;> first | exact nobool h | skip
      rename_i e p
      have h : (ckE N (gn G) sc a e && ckA N (gn G) sc r es) = true := h
      rw [Bool.and_eq_true] at h
      refine da_star ((ha.E V h.1 q).imp fun x ms1 q => ?_) rfl
      have fin : ∀ xs, SqOf ms1 x xs → (vA G xw r ds ms1 fun ys ms2 => kd (xs ++ ys) ms2) → ∃ xs, SqOf ms1 x xs ∧ DA X xw es ds ms1 fun ys ms2 => kd (xs ++ ys) ms2 := fun xs l q => ⟨xs, l, hr.A V h.2 q⟩
      cases x <;> first | exact False.elim q | (exact fin _ (.inl rfl) q) | (exact fin _ (.inr (.inr rfl)) q) | (exact let ⟨xs, l, q⟩ := lsK_at q; fin xs (.inr (.inl l)) q)
  K := fun _ => fun h q => nobool h
  O := fun _ => fun h q => nobool h
  I := fun _ => fun h q => nobool h

theorem se_cons {a r : IR} (ha : SE N G a) (hr : SE N G r) : SE N G (.cons a r) where
  E := fun _ => fun h q => nobool h
  T := fun _ => fun h q => nobool h
  F := fun {X k sc} V {xw es ds ms kb} h q => by
    cases es with
    | nil => exact nobool h
    | cons e es =>
      cases es with
      | nil => exact ha.T V h q
      | cons _ _ => exact nobool h
  aT := fun {X k sc} V {xw e es pos ds ms kb} h q => by
    have h : (ckT N (gn G) sc a e && ckTs N (gn G) sc r es) = true := h
    rw [Bool.and_eq_true] at h
    cases es with
    | nil =>
      refine dw_and1 ((ha.T V h.1 q).imp fun b ms1 q => ?_)
      cases b with
      | false => exact q
      | true =>
        have h2 := h.2
        cases r <;> first | exact nobool h2 | exact q
    | cons e2 es =>
      refine dw_and ((ha.T V h.1 q).imp fun b ms1 q => ?_)
      obtain ⟨q1, q0⟩ := vIf_and q
      exact ⟨fun hb => hr.aT V h.2 (q1 hb), q0⟩
  oT := fun {X k sc} V {xw e es pos ds ms kb} h q => by
    have h : (ckT N (gn G) sc a e && ckTs N (gn G) sc r es) = true := h
    rw [Bool.and_eq_true] at h
    cases es with
    | nil =>
      refine dw_or1 ((ha.T V h.1 q).imp fun b ms1 q => ?_)
      cases b with
      | true => exact q
      | false =>
        have h2 := h.2
        cases r <;> first | exact nobool h2 | exact q
    | cons e2 es =>
      refine dw_or ((ha.T V h.1 q).imp fun b ms1 q => ?_)
      obtain ⟨q1, q0⟩ := vIf_and q
      exact ⟨q1, fun hb => hr.oT V h.2 (q0 hb)⟩
  aE := fun {X k sc} V {xw es pos ds ms kd} h q => by
    cases es with
    | nil => exact nobool h
    | cons e es =>
      have h : (ckE N (gn G) sc a e && ckL N (gn G) sc r es) = true := h
      rw [Bool.and_eq_true] at h
      have h2 := h.2
      cases es with
      | nil => cases r <;> first | exact nobool h2 | exact de_one (ha.E V h.1 q)
      | cons e2 es =>
        cases r with
        | cons b r =>
          refine de_and ((ha.E V h.1 q).imp fun x ms1 q => vTru_ok ?_)
          exact vTru_imp q fun b ms2 q => by
            obtain ⟨q1, q0⟩ := vIf_and q
            exact ⟨fun hb => hr.aE V h.2 (q1 hb), q0⟩
        | _ => exact nobool h2
  oE := fun {X k sc} V {xw es pos ds ms kd} h q => by
    cases es with
    | nil => exact nobool h
    | cons e es =>
      have h : (ckE N (gn G) sc a e && ckL N (gn G) sc r es) = true := h
      rw [Bool.and_eq_true] at h
      have h2 := h.2
      cases es with
      | nil => cases r <;> first | exact nobool h2 | exact de_one (ha.E V h.1 q)
      | cons e2 es =>
        cases r with
        | cons b r =>
          refine de_or ((ha.E V h.1 q).imp fun x ms1 q => vTru_ok ?_)
          exact vTru_imp q fun b ms2 q => by
            obtain ⟨q1, q0⟩ := vIf_and q
            exact ⟨q1, fun hb => hr.oE V h.2 (q0 hb)⟩
        | _ => exact nobool h2
  L := fun {X k sc} V {xw es ds ms kd} h n q => by
    cases es with
    | nil => exact nobool h
    | cons e es =>
      have h : (ckE N (gn G) sc a e && ckL N (gn G) sc r es) = true := h
      rw [Bool.and_eq_true] at h
      have n : (!isStar e && noStar es) = true := n
      rw [Bool.and_eq_true] at n
      exact da_cons ((ha.E V h.1 q).imp fun x ms1 q => hr.L V h.2 n.2 q) (star_no (by simpa using n.1))
  A := fun {X k sc} V {xw es ds ms kd} h q => by
    cases es with
    | nil => exact nobool h
    | cons e es =>
      have h : (ckE N (gn G) sc a e && !isStar e && ckA N (gn G) sc r es) = true := h
      simp only [Bool.and_eq_true, Bool.not_eq_true'] at h
      exact da_cons ((ha.E V h.1.1 q).imp fun x ms1 q => hr.A V h.2 q) (star_no h.1.2)
  K := fun {X k sc} V {xw es ds ms kd} h q => by
    cases es with
    | nil => exact nobool h
    | cons e es =>
      obtain ⟨nm, e, kp⟩ := e
      have h : (ckE N (gn G) sc a e && ckK N (gn G) sc r es) = true := h
      rw [Bool.and_eq_true] at h
      exact dk_cons ((ha.E V h.1 q).imp fun x ms1 q => (hr.K V h.2 q).imp fun xs ms2 ⟨l, q⟩ => ⟨by rw [List.length_cons, List.length_cons, l], q⟩)
  O := fun {X k sc} V {xw e ds ms ko} h q => by
    cases e with
    | none => exact nobool h
    | some e =>
      refine do_some ((ha.E V h q).imp fun x ms1 q => ?_)
      cases x <;> first | exact False.elim q | exact ⟨_, rfl, q⟩
  I := fun _ => fun h q => nobool h

theorem se_var {i : Nat} : SE N G (.var i) where
  E := fun {X k sc} V {xw e ds ms kd} h q => by
    cases e <;> first | exact nobool h | skip
    rename_i x p
    have h : (decide (N[i]? = some x) && visB sc x && dbgB x) = true := h
    simp only [Bool.and_eq_true, decide_eq_true_eq] at h
    obtain ⟨d, h1, h2⟩ := getK_at (show getK ds i fun d => kd d ms from q)
    obtain ⟨d1, d2, _⟩ := dbgB_ok h.2
    exact de_name V.c (nm_of h.1.1 h1) (V.vis h.1.2) d1 d2 h2
  T := fun _ => fun h q => nobool h
  F := fun _ => fun h q => nobool h
  aT := fun _ => fun h q => nobool h
  oT := fun _ => fun h q => nobool h
  aE := fun _ => fun h q => False.elim q
  oE := fun _ => fun h q => False.elim q
  L := fun _ => fun h _ q => nobool h
  A := fun _ => fun h q => nobool h
  K := fun _ => fun h q => nobool h
  O := fun _ => fun h q => nobool h
  I := fun _ => fun h q => nobool h

theorem se_int {i : Int} : SE N G (.int i) where
  E := fun {X k sc} V {xw e ds ms kd} h q => by
    cases e <;> first | exact nobool h | skip
    rename_i c j p
    cases c <;> first | exact nobool h | skip
    rename_i i'
    have h : decide (i = i') = true := h
    rw [decide_eq_true_eq] at h
    subst h
    exact de_int q
  T := fun _ => fun h q => nobool h
  F := fun _ => fun h q => nobool h
  aT := fun _ => fun h q => nobool h
  oT := fun _ => fun h q => nobool h
  aE := fun _ => fun h q => False.elim q
  oE := fun _ => fun h q => False.elim q
  L := fun _ => fun h _ q => nobool h
  A := fun _ => fun h q => nobool h
  K := fun _ => fun h q => nobool h
  O := fun _ => fun h q => nobool h
  I := fun _ => fun h q => nobool h

theorem se_str {i : Str} : SE N G (.str i) where
  E := fun {X k sc} V {xw e ds ms kd} h q => by
    cases e <;> first | exact nobool h | skip
    rename_i c j p
    cases c <;> first | exact nobool h | skip
    rename_i i'
    have h : decide (i = i') = true := h
    rw [decide_eq_true_eq] at h
    subst h
    exact de_str q
  T := fun _ => fun h q => nobool h
  F := fun _ => fun h q => nobool h
  aT := fun _ => fun h q => nobool h
  oT := fun _ => fun h q => nobool h
  aE := fun _ => fun h q => False.elim q
  oE := fun _ => fun h q => False.elim q
  L := fun _ => fun h _ q => nobool h
  A := fun _ => fun h q => nobool h
  K := fun _ => fun h q => nobool h
  O := fun _ => fun h q => nobool h
  I := fun _ => fun h q => nobool h

theorem se_bl {i : Bool} : SE N G (.bl i) where
  E := fun {X k sc} V {xw e ds ms kd} h q => by
    cases e <;> first | exact nobool h | skip
    rename_i c j p
    cases c <;> first | exact nobool h | skip
    rename_i i'
    have h : decide (i = i') = true := h
    rw [decide_eq_true_eq] at h
    subst h
    exact de_bl q
  T := fun _ => fun h q => nobool h
  F := fun _ => fun h q => nobool h
  aT := fun _ => fun h q => nobool h
  oT := fun _ => fun h q => nobool h
  aE := fun _ => fun h q => False.elim q
  oE := fun _ => fun h q => False.elim q
  L := fun _ => fun h _ q => nobool h
  A := fun _ => fun h q => nobool h
  K := fun _ => fun h q => nobool h
  O := fun _ => fun h q => nobool h
  I := fun _ => fun h q => nobool h

theorem se_non  : SE N G .non where
  E := fun {X k sc} V {xw e ds ms kd} h q => by
    cases e <;> first | exact nobool h | skip
    rename_i c j p
    cases c <;> first | exact nobool h | skip
    exact de_non q
  T := fun _ => fun h q => nobool h
  F := fun _ => fun h q => nobool h
  aT := fun _ => fun h q => nobool h
  oT := fun _ => fun h q => nobool h
  aE := fun _ => fun h q => False.elim q
  oE := fun _ => fun h q => False.elim q
  L := fun _ => fun h _ q => nobool h
  A := fun _ => fun h q => nobool h
  K := fun _ => fun h q => nobool h
  O := fun _ => fun h q => nobool h
  I := fun _ => fun h q => nobool h

theorem se_glb {k : Nat} : SE N G (.glb k) where
  E := fun {X k' sc} V {xw e ds ms kd} h q => by
    cases e <;> first | exact nobool h | skip
    rename_i x p
    have h : (entCst x ((gn G).at k) && glB sc x && dbgB x) = true := h
    rw [gn_at] at h
    simp only [Bool.and_eq_true] at h
    obtain ⟨⟨h1, h2⟩, h3⟩ := h
    have g := V.g k
    have q : (match G.at k with | .cst _ d => kd d ms | _ => False) := q
    generalize G.at k = en at h1 g q
    cases en <;> first | exact nobool h1 | skip
    rename_i y d
    have h1 : decide (x = y) = true := h1
    rw [decide_eq_true_eq] at h1
    subst h1
    obtain ⟨u, v, g1, g2, g3⟩ := g
    obtain ⟨d1, d2, _⟩ := dbgB_ok h3
    exact de_glob g1 g2 (V.gl h2) d1 g3 q
  T := fun _ => fun h q => nobool h
  F := fun _ => fun h q => nobool h
  aT := fun _ => fun h q => nobool h
  oT := fun _ => fun h q => nobool h
  aE := fun _ => fun h q => False.elim q
  oE := fun _ => fun h q => False.elim q
  L := fun _ => fun h _ q => nobool h
  A := fun _ => fun h q => nobool h
  K := fun _ => fun h q => nobool h
  O := fun _ => fun h q => nobool h
  I := fun _ => fun h q => nobool h

theorem se_bin {op : Operator} {a b : IR} (ha : SE N G a) (hb : SE N G b) : SE N G (.bin op a b) where
  E := fun {X k sc} V {xw e ds ms kd} h q => by
    cases e <;> first | exact nobool h | skip
    rename_i l o r p
    have h : (decide (op = o) && ckE N (gn G) sc a l && ckE N (gn G) sc b r) = true := h
    simp only [Bool.and_eq_true, decide_eq_true_eq] at h
    obtain ⟨⟨rfl, h1⟩, h2⟩ := h
    exact de_bin ((ha.E V h1 q).imp fun x ms1 q => (hb.E V h2 q).imp fun y ms2 q => vBin_ok V.c q)
  T := fun _ => fun h q => nobool h
  F := fun _ => fun h q => nobool h
  aT := fun _ => fun h q => nobool h
  oT := fun _ => fun h q => nobool h
  aE := fun _ => fun h q => False.elim q
  oE := fun _ => fun h q => False.elim q
  L := fun _ => fun h _ q => nobool h
  A := fun _ => fun h q => nobool h
  K := fun _ => fun h q => nobool h
  O := fun _ => fun h q => nobool h
  I := fun _ => fun h q => nobool h

theorem se_neg {a : IR} (ha : SE N G a) : SE N G (.neg a) where
  E := fun {X k sc} V {xw e ds ms kd} h q => by
    cases e <;> first | exact nobool h | skip
    rename_i o x p
    cases o <;> first | exact nobool h | skip
    exact de_un ((ha.E V h q).imp fun x ms1 q => vNeg_ok q)
  T := fun _ => fun h q => nobool h
  F := fun _ => fun h q => nobool h
  aT := fun _ => fun h q => nobool h
  oT := fun _ => fun h q => nobool h
  aE := fun _ => fun h q => False.elim q
  oE := fun _ => fun h q => False.elim q
  L := fun _ => fun h _ q => nobool h
  A := fun _ => fun h q => nobool h
  K := fun _ => fun h q => nobool h
  O := fun _ => fun h q => nobool h
  I := fun _ => fun h q => nobool h

theorem se_cmp {op : CmpOp} {a b : IR} (ha : SE N G a) (hb : SE N G b) : SE N G (.cmp op a b) where
  E := fun {X k sc} V {xw e ds ms kd} h q => by
    cases e <;> first | exact nobool h | skip
    rename_i l os rs p
    match os, rs, h with
    | [o], [r], h =>
      have h : (decide (op = o) && ckE N (gn G) sc a l && ckE N (gn G) sc b r && !behindInMarks o r) = true := h
      simp only [Bool.and_eq_true, decide_eq_true_eq, Bool.not_eq_true'] at h
      obtain ⟨⟨⟨rfl, h1⟩, h2⟩, h3⟩ := h
      exact de_cmp ((ha.E V h1 q).imp fun x ms1 q => (hb.E V h2 q).imp fun y ms2 q => OpD.imp (vCmp_ok V.c q) fun d ms3 ⟨b, ed, q⟩ => by subst ed; exact q) h3
    | [], _, h => exact nobool h
    | [_], [], h => exact nobool h
    | [_], _ :: _ :: _, h => exact nobool h
    | _ :: _ :: _, [], h => exact nobool h
    | _ :: _ :: _, _ :: _, h => exact nobool h
  T := fun {X k sc} V {xw e ds ms kb} h q => by
    cases e <;> first | exact nobool h | skip
    rename_i l os rs p
    match os, rs, h with
    | [o], [r], h =>
      have h : (decide (op = o) && ckE N (gn G) sc a l && ckE N (gn G) sc b r && !behindInMarks o r) = true := h
      simp only [Bool.and_eq_true, decide_eq_true_eq, Bool.not_eq_true'] at h
      obtain ⟨⟨⟨rfl, h1⟩, h2⟩, h3⟩ := h
      exact dt_cmp ((ha.E V h1 q).imp fun x ms1 q => (hb.E V h2 q).imp fun y ms2 q => vCmp_ok V.c q) h3
    | [], _, h => exact nobool h
    | [_], [], h => exact nobool h
    | [_], _ :: _ :: _, h => exact nobool h
    | _ :: _ :: _, [], h => exact nobool h
    | _ :: _ :: _, _ :: _, h => exact nobool h
  F := fun _ => fun h q => nobool h
  aT := fun _ => fun h q => nobool h
  oT := fun _ => fun h q => nobool h
  aE := fun _ => fun h q => False.elim q
  oE := fun _ => fun h q => False.elim q
  L := fun _ => fun h _ q => nobool h
  A := fun _ => fun h q => nobool h
  K := fun _ => fun h q => nobool h
  O := fun _ => fun h q => nobool h
  I := fun _ => fun h q => nobool h

theorem se_chain {op op' : CmpOp} {a b c : IR} (ha : SE N G a) (hb : SE N G b) (hc : SE N G c) : SE N G (.chain op op' a b c) where
  E := fun {X k sc} V {xw e ds ms kd} h q => by
    cases e <;> first | exact nobool h | skip
    rename_i l os rs p
    match os, rs, h with
    | [o, o'], [m, r], h =>
      have h : (decide (op = o) && decide (op' = o') && ckE N (gn G) sc a l && ckE N (gn G) sc b m && ckE N (gn G) sc c r && !lastMarks [o, o'] [m, r]) = true := h
      simp only [Bool.and_eq_true, decide_eq_true_eq, Bool.not_eq_true'] at h
      obtain ⟨⟨⟨⟨⟨rfl, rfl⟩, h1⟩, h2⟩, h3⟩, h4⟩ := h
      refine de_chain ((ha.E V h1 q).imp fun x ms1 q => (hb.E V h2 q).imp fun y ms2 q => OpD.imp (vCmp_ok V.c q) fun d ms3 ⟨t, ed, q⟩ => ⟨t, ed, ?_⟩) h4
      obtain ⟨q1, q0⟩ := vIf_and q
      exact ⟨fun ht => (hc.E V h3 (q1 ht)).imp fun z ms4 q => OpD.imp (vCmp_ok V.c q) fun d ms3 ⟨b, ed, q⟩ => by subst ed; exact q, q0⟩
    | [], _, h => exact nobool h
    | [_], _, h => exact nobool h
    | _ :: _ :: _ :: _, _, h => exact nobool h
    | [_, _], [], h => exact nobool h
    | [_, _], [_], h => exact nobool h
    | [_, _], _ :: _ :: _ :: _, h => exact nobool h
  T := fun {X k sc} V {xw e ds ms kb} h q => by
    cases e <;> first | exact nobool h | skip
    rename_i l os rs p
    match os, rs, h with
    | [o, o'], [m, r], h =>
      have h : (decide (op = o) && decide (op' = o') && ckE N (gn G) sc a l && ckE N (gn G) sc b m && ckE N (gn G) sc c r && !lastMarks [o, o'] [m, r]) = true := h
      simp only [Bool.and_eq_true, decide_eq_true_eq, Bool.not_eq_true'] at h
      obtain ⟨⟨⟨⟨⟨rfl, rfl⟩, h1⟩, h2⟩, h3⟩, h4⟩ := h
      refine dt_chain ((ha.E V h1 q).imp fun x ms1 q => (hb.E V h2 q).imp fun y ms2 q => OpD.imp (vCmp_ok V.c q) fun d ms3 ⟨t, ed, q⟩ => ⟨t, ed, ?_⟩) h4
      obtain ⟨q1, q0⟩ := vIf_and q
      exact ⟨fun ht => (hc.E V h3 (q1 ht)).imp fun z ms4 q => vCmp_ok V.c q, q0⟩
    | [], _, h => exact nobool h
    | [_], _, h => exact nobool h
    | _ :: _ :: _ :: _, _, h => exact nobool h
    | [_, _], [], h => exact nobool h
    | [_, _], [_], h => exact nobool h
    | [_, _], _ :: _ :: _ :: _, h => exact nobool h
  F := fun _ => fun h q => nobool h
  aT := fun _ => fun h q => nobool h
  oT := fun _ => fun h q => nobool h
  aE := fun _ => fun h q => False.elim q
  oE := fun _ => fun h q => False.elim q
  L := fun _ => fun h _ q => nobool h
  A := fun _ => fun h q => nobool h
  K := fun _ => fun h q => nobool h
  O := fun _ => fun h q => nobool h
  I := fun _ => fun h q => nobool h

theorem se_and {as : IR} (ha : SE N G as) : SE N G (.and as) where
  E := fun {X k sc} V {xw e ds ms kd} h q => by
    cases e <;> first | exact nobool h | skip
    rename_i o es p
    cases o <;> first | exact nobool h | skip
    exact ha.aE V h q
  T := fun {X k sc} V {xw e ds ms kb} h q => by
    cases e <;> first | exact nobool h | skip
    rename_i o es p
    cases o <;> first | exact nobool h | skip
    have h : (ckTs N (gn G) sc as es && !es.isEmpty) = true := h
    rw [Bool.and_eq_true] at h
    cases es with
    | nil => exact absurd h.2 (by decide)
    | cons e es => exact dt_bool (ha.aT V h.1 q)
  F := fun _ => fun h q => nobool h
  aT := fun _ => fun h q => nobool h
  oT := fun _ => fun h q => nobool h
  aE := fun _ => fun h q => False.elim q
  oE := fun _ => fun h q => False.elim q
  L := fun _ => fun h _ q => nobool h
  A := fun _ => fun h q => nobool h
  K := fun _ => fun h q => nobool h
  O := fun _ => fun h q => nobool h
  I := fun _ => fun h q => nobool h

theorem se_or {as : IR} (ha : SE N G as) : SE N G (.or as) where
  E := fun {X k sc} V {xw e ds ms kd} h q => by
    cases e <;> first | exact nobool h | skip
    rename_i o es p
    cases o <;> first | exact nobool h | skip
    exact ha.oE V h q
  T := fun {X k sc} V {xw e ds ms kb} h q => by
    cases e <;> first | exact nobool h | skip
    rename_i o es p
    cases o <;> first | exact nobool h | skip
    have h : (ckTs N (gn G) sc as es && !es.isEmpty) = true := h
    rw [Bool.and_eq_true] at h
    cases es with
    | nil => exact absurd h.2 (by decide)
    | cons e es => exact dt_bool (ha.oT V h.1 q)
  F := fun _ => fun h q => nobool h
  aT := fun _ => fun h q => nobool h
  oT := fun _ => fun h q => nobool h
  aE := fun _ => fun h q => False.elim q
  oE := fun _ => fun h q => False.elim q
  L := fun _ => fun h _ q => nobool h
  A := fun _ => fun h q => nobool h
  K := fun _ => fun h q => nobool h
  O := fun _ => fun h q => nobool h
  I := fun _ => fun h q => nobool h

theorem se_not {a : IR} (ha : SE N G a) : SE N G (.not a) where
  E := fun {X k sc} V {xw e ds ms kd} h q => by
    cases e <;> first | exact nobool h | skip
    rename_i o x p
    cases o <;> first | exact nobool h | skip
    refine de_not ((ha.E V h q).imp fun x ms1 q => ?_)
    cases x <;> first | exact False.elim q | exact ⟨_, rfl, q⟩
  T := fun {X k sc} V {xw e ds ms kb} h q => by
    cases e <;> first | exact nobool h | skip
    rename_i o x p
    cases o <;> first | exact nobool h | skip
    exact dt_not (ha.T V h q)
  F := fun _ => fun h q => nobool h
  aT := fun _ => fun h q => nobool h
  oT := fun _ => fun h q => nobool h
  aE := fun _ => fun h q => False.elim q
  oE := fun _ => fun h q => False.elim q
  L := fun _ => fun h _ q => nobool h
  A := fun _ => fun h q => nobool h
  K := fun _ => fun h q => nobool h
  O := fun _ => fun h q => nobool h
  I := fun _ => fun h q => nobool h

theorem se_tru {a : IR} (ha : SE N G a) : SE N G (.tru a) where
  E := fun _ => fun h q => nobool h
  T := fun {X k sc} V {xw e ds ms kb} h q => by
    have h : (ckE N (gn G) sc a e && !isTest e) = true := h
    simp only [Bool.and_eq_true, Bool.not_eq_true'] at h
    exact dt_truth ((ha.E V h.1 q).imp fun x ms1 q => vTru_ok q) (truth_ok h.2)
  F := fun _ => fun h q => nobool h
  aT := fun _ => fun h q => nobool h
  oT := fun _ => fun h q => nobool h
  aE := fun _ => fun h q => False.elim q
  oE := fun _ => fun h q => False.elim q
  L := fun _ => fun h _ q => nobool h
  A := fun _ => fun h q => nobool h
  K := fun _ => fun h q => nobool h
  O := fun _ => fun h q => nobool h
  I := fun _ => fun h q => nobool h

theorem se_ite {c a b : IR} (hc : SE N G c) (ha : SE N G a) (hb : SE N G b) : SE N G (.ite c a b) where
  E := fun {X k sc} V {xw e ds ms kd} h q => by
    cases e <;> first | exact nobool h | skip
    rename_i t x y p
    have h : (ckT N (gn G) sc c t && ckE N (gn G) sc a x && ckE N (gn G) sc b y) = true := h
    simp only [Bool.and_eq_true] at h
    obtain ⟨⟨h1, h2⟩, h3⟩ := h
    refine de_ifExp ((hc.T V h1 q).imp fun t ms1 q => ?_)
    obtain ⟨q1, q0⟩ := vIf_and q
    exact ⟨fun ht => ha.E V h2 (q1 ht), fun ht => hb.E V h3 (q0 ht)⟩
  T := fun _ => fun h q => nobool h
  F := fun _ => fun h q => nobool h
  aT := fun _ => fun h q => nobool h
  oT := fun _ => fun h q => nobool h
  aE := fun _ => fun h q => False.elim q
  oE := fun _ => fun h q => False.elim q
  L := fun _ => fun h _ q => nobool h
  A := fun _ => fun h q => nobool h
  K := fun _ => fun h q => nobool h
  O := fun _ => fun h q => nobool h
  I := fun _ => fun h q => nobool h

theorem se_tup {as : IR} (ha : SE N G as) : SE N G (.tup as) where
  E := fun {X k sc} V {xw e ds ms kd} h q => by
    cases e <;> first | exact nobool h | skip
    exact de_tup (ha.A V h q)
  T := fun _ => fun h q => nobool h
  F := fun _ => fun h q => nobool h
  aT := fun _ => fun h q => nobool h
  oT := fun _ => fun h q => nobool h
  aE := fun _ => fun h q => False.elim q
  oE := fun _ => fun h q => False.elim q
  L := fun _ => fun h _ q => nobool h
  A := fun _ => fun h q => nobool h
  K := fun _ => fun h q => nobool h
  O := fun _ => fun h q => nobool h
  I := fun _ => fun h q => nobool h

theorem se_lst {m : Bool} {as : IR} (ha : SE N G as) : SE N G (.lst m as) where
  E := fun {X k sc} V {xw e ds ms kd} h q => by
    cases e <;> first | exact nobool h | skip
    cases m with
    | true => exact de_lstM (ha.A V h q)
    | false => exact de_lst (ha.A V h q)
  T := fun _ => fun h q => nobool h
  F := fun _ => fun h q => nobool h
  aT := fun _ => fun h q => nobool h
  oT := fun _ => fun h q => nobool h
  aE := fun _ => fun h q => False.elim q
  oE := fun _ => fun h q => False.elim q
  L := fun _ => fun h _ q => nobool h
  A := fun _ => fun h q => nobool h
  K := fun _ => fun h q => nobool h
  O := fun _ => fun h q => nobool h
  I := fun _ => fun h q => nobool h

theorem se_dic0  : SE N G .dic0 where
  E := fun {X k sc} V {xw e ds ms kd} h q => by
    cases e <;> first | exact nobool h | skip
    rename_i ks vs p
    match ks, vs, h with
    | [], [], h => exact de_dicM q
    | _ :: _, _, h => exact nobool h
    | [], _ :: _, h => exact nobool h
  T := fun _ => fun h q => nobool h
  F := fun _ => fun h q => nobool h
  aT := fun _ => fun h q => nobool h
  oT := fun _ => fun h q => nobool h
  aE := fun _ => fun h q => False.elim q
  oE := fun _ => fun h q => False.elim q
  L := fun _ => fun h _ q => nobool h
  A := fun _ => fun h q => nobool h
  K := fun _ => fun h q => nobool h
  O := fun _ => fun h q => nobool h
  I := fun _ => fun h q => nobool h

theorem se_dicI {kv : List (Int × Int)} : SE N G (.dicI kv) where
  E := fun {X k sc} V {xw e ds ms kd} h q => by
    cases e <;> first | exact nobool h | skip
    rename_i ks vs p
    have h : (intB ks vs kv && !ks.isEmpty && decide (ks.length ≤ 15) && decide ((intV kv).length ≤ 15) && decide (mergeK [] (intV kv) = intV kv)) = true := h
    simp only [Bool.and_eq_true, decide_eq_true_eq, Bool.not_eq_true', List.isEmpty_eq_false_iff] at h
    exact de_dicI (intB_ok h.1.1.1.1) h.1.1.1.2 h.1.1.2 h.1.2 h.2 q
  T := fun _ => fun h q => nobool h
  F := fun _ => fun h q => nobool h
  aT := fun _ => fun h q => nobool h
  oT := fun _ => fun h q => nobool h
  aE := fun _ => fun h q => False.elim q
  oE := fun _ => fun h q => False.elim q
  L := fun _ => fun h _ q => nobool h
  A := fun _ => fun h q => nobool h
  K := fun _ => fun h q => nobool h
  O := fun _ => fun h q => nobool h
  I := fun _ => fun h q => nobool h

theorem se_ix {a b : IR} (ha : SE N G a) (hb : SE N G b) : SE N G (.ix a b) where
  E := fun {X k sc} V {xw e ds ms kd} h q => by
    cases e <;> first | exact nobool h | skip
    rename_i x y p
    have h : (ckE N (gn G) sc a x && ckE N (gn G) sc b y && !isSlice y) = true := h
    simp only [Bool.and_eq_true, Bool.not_eq_true'] at h
    exact de_ix ((ha.E V h.1.1 q).imp fun x ms1 q => (hb.E V h.1.2 q).imp fun y ms2 q => vIx_ok V.c h.2 q)
  T := fun _ => fun h q => nobool h
  F := fun _ => fun h q => nobool h
  aT := fun _ => fun h q => nobool h
  oT := fun _ => fun h q => nobool h
  aE := fun _ => fun h q => False.elim q
  oE := fun _ => fun h q => False.elim q
  L := fun _ => fun h _ q => nobool h
  A := fun _ => fun h q => nobool h
  K := fun _ => fun h q => nobool h
  O := fun _ => fun h q => nobool h
  I := fun _ => fun h q => nobool h

theorem se_sl {a lo hi : IR} (ha : SE N G a) (hl : SE N G lo) (hh : SE N G hi) : SE N G (.sl a lo hi) where
  E := fun {X k sc} V {xw e ds ms kd} h q => by
    cases e <;> first | exact nobool h | skip
    rename_i x y p
    cases y <;> first | exact nobool h | skip
    rename_i l u st p2
    cases st <;> first | exact nobool h | skip
    have h : (ckE N (gn G) sc a x && ckO N (gn G) sc lo l && ckO N (gn G) sc hi u) = true := h
    simp only [Bool.and_eq_true] at h
    exact de_slice ((ha.E V h.1.1 q).imp fun x ms1 q => DO.imp (hl.O V h.1.2 q) fun l ms2 q => DO.imp (hh.O V h.2 q) fun u ms3 q => vSl_ok q)
  T := fun _ => fun h q => nobool h
  F := fun _ => fun h q => nobool h
  aT := fun _ => fun h q => nobool h
  oT := fun _ => fun h q => nobool h
  aE := fun _ => fun h q => False.elim q
  oE := fun _ => fun h q => False.elim q
  L := fun _ => fun h _ q => nobool h
  A := fun _ => fun h q => nobool h
  K := fun _ => fun h q => nobool h
  O := fun _ => fun h q => nobool h
  I := fun _ => fun h q => nobool h

theorem se_rev {a : IR} (ha : SE N G a) : SE N G (.rev a) where
  E := fun {X k sc} V {xw e ds ms kd} h q => by
    unfold ckE at h
    split at h
    · exact de_rev (ha.E V h q)
    · exact nobool h
  T := fun _ => fun h q => nobool h
  F := fun _ => fun h q => nobool h
  aT := fun _ => fun h q => nobool h
  oT := fun _ => fun h q => nobool h
  aE := fun _ => fun h q => False.elim q
  oE := fun _ => fun h q => False.elim q
  L := fun _ => fun h _ q => nobool h
  A := fun _ => fun h q => nobool h
  K := fun _ => fun h q => nobool h
  O := fun _ => fun h q => nobool h
  I := fun _ => fun h q => nobool h

theorem se_call {k : Nat} {as : IR} (ha : SE N G as) : SE N G (.call k as) where
  E := fun {X k' sc} V {xw e ds ms kd} h q => by
    unfold ckE at h
    split at h
    · rename_i x p es pos
      simp only [Bool.and_eq_true, Bool.not_eq_true'] at h
      obtain ⟨⟨⟨⟨⟨h1, h2⟩, h3⟩, h4⟩, h5⟩, h6⟩ := h
      rw [gn_at] at h1
      have g := V.g k
      have q : vA G xw as ds ms fun vs ms1 => (match G.at k with | .fn _ _ S => S vs ms1 kd fun C d ms2 => xw C d ds ms2 | _ => False) := q
      generalize G.at k = en at h1 g q
      cases en <;> first | exact nobool h1 | skip
      rename_i y n S
      have h1 : (decide (x = y) && decide (es.length = n)) = true := h1
      simp only [Bool.and_eq_true, decide_eq_true_eq] at h1
      obtain ⟨rfl, _⟩ := h1
      obtain ⟨j, f, fd, ps, hj, g⟩ := g
      obtain ⟨d1, d2, _⟩ := dbgB_ok h3
      have da := ha.L V h4 h5 q
      cases es with
      | nil => exact absurd h6 (by decide)
      | cons e es =>
        have n : (!isStar e && noStar es) = true := h5
        rw [Bool.and_eq_true] at n
        exact de_callG V.c V.gd g hj (da.imp fun vs ms1 q => ⟨ms1, MLe.refl _ _, q⟩) (V.gl h2) d1 (star_no (by simpa using n.1)) (nostar_any n.2)
    · exact nobool h
  T := fun _ => fun h q => nobool h
  F := fun _ => fun h q => nobool h
  aT := fun _ => fun h q => nobool h
  oT := fun _ => fun h q => nobool h
  aE := fun _ => fun h q => False.elim q
  oE := fun _ => fun h q => False.elim q
  L := fun _ => fun h _ q => nobool h
  A := fun _ => fun h q => nobool h
  K := fun _ => fun h q => nobool h
  O := fun _ => fun h q => nobool h
  I := fun _ => fun h q => nobool h

theorem se_callK {k : Nat} {as ks : IR} (ha : SE N G as) (hk : SE N G ks) : SE N G (.callK k as ks) where
  E := fun {X k' sc} V {xw e ds ms kd} h q => by
    unfold ckE at h
    split at h
    · rename_i x p es kws pos
      simp only [Bool.and_eq_true, Bool.not_eq_true'] at h
      obtain ⟨⟨⟨⟨⟨⟨⟨h1, h2⟩, h3⟩, h4⟩, h5⟩, h6⟩, h7⟩, h8⟩ := h
      rw [gn_at] at h1
      have g := V.g k
      have q : vA G xw as ds ms fun vs ms1 => vA G xw ks ds ms1 fun ws ms2 => (match G.at k with | .fk _ _ _ S => S (vs ++ ws) ms2 kd fun C d ms3 => xw C d ds ms3 | _ => False) := q
      generalize G.at k = en at h1 g q
      cases en <;> first | exact nobool h1 | skip
      rename_i y n zs S
      have h1 : (decide (x = y) && decide (es.length = n) && decide (kwNames kws = zs)) = true := h1
      simp only [Bool.and_eq_true, decide_eq_true_eq] at h1
      obtain ⟨⟨rfl, _⟩, hz⟩ := h1
      obtain ⟨j, hj, g⟩ := g
      obtain ⟨d1, d2, _⟩ := dbgB_ok h3
      have da := ha.L V h4 h5 q
      have lz : zs.length = kws.length := by rw [← hz]; exact kw_len h6
      cases es with
      | nil =>
        have q0 : vA G xw ks ds ms fun ws ms2 => S ([] ++ ws) ms2 kd fun C d ms3 => xw C d ds ms3 := by
          cases as <;> first | exact nobool h4 | exact q
        refine de_callKwG0 V.c V.gd g hj ((hk.K V h8 q0).imp fun vs ms1 ⟨l, q⟩ => ⟨by rw [l, lz], ms1, MLe.refl _ _, q⟩) (V.gl h2) d1 (kw_all h6) (by rw [← hz]; exact kw_names) (kw_pl h6 rfl)
      | cons e es =>
        have n : (!isStar e && noStar es) = true := h5
        rw [Bool.and_eq_true] at n
        exact de_callKwG V.c V.gd g hj (da.imp fun vs ms1 q => (hk.K V h8 q).imp fun ws ms2 ⟨l, q⟩ => ⟨by rw [l, lz], ms2, MLe.refl _ _, q⟩) (V.gl h2) d1 (kw_all h6) (by rw [← hz]; exact kw_names) (kw_pl h6 h5) (star_no (by simpa using n.1))
    · exact nobool h
  T := fun _ => fun h q => nobool h
  F := fun _ => fun h q => nobool h
  aT := fun _ => fun h q => nobool h
  oT := fun _ => fun h q => nobool h
  aE := fun _ => fun h q => False.elim q
  oE := fun _ => fun h q => False.elim q
  L := fun _ => fun h _ q => nobool h
  A := fun _ => fun h q => nobool h
  K := fun _ => fun h q => nobool h
  O := fun _ => fun h q => nobool h
  I := fun _ => fun h q => nobool h

theorem se_bi {b : BI} {as : IR} (ha : SE N G as) : SE N G (.bi b as) where
  E := fun {X k sc} V {xw e ds ms kd} h q => by
    unfold ckE at h
    split at h
    · rename_i x p es pos
      simp only [Bool.and_eq_true, decide_eq_true_eq, Bool.not_eq_true'] at h
      obtain ⟨⟨⟨⟨⟨rfl, h2⟩, h3⟩, h4⟩, h5⟩, h6⟩ := h
      obtain ⟨d1, d2, d3⟩ := dbgB_ok h3
      have da := (ha.L V h4 h5 q).imp fun vs ms1 q => vBI_ok V.c V.gd q
      have hm := V.bn _ b.mem
      have hv := b.boot
      cases es with
      | nil => exact absurd h6 (by decide)
      | cons e es =>
        have n : (!isStar e && noStar es) = true := h5
        rw [Bool.and_eq_true] at n
        cases hb : b.isTy with
        | some T =>
          have eb : b.val = .type T := by unfold BI.val; rw [hb]
          simp only [eb] at da hv
          exact de_callT hv hm da (V.gl h2) d3 d1 (star_no (by simpa using n.1)) (nostar_any n.2)
        | none =>
          have eb : b.val = .builtin b.id := by unfold BI.val; rw [hb]
          simp only [eb] at da hv
          exact de_callB hv hm da (V.gl h2) d3 d1 (star_no (by simpa using n.1)) (nostar_any n.2)
    · exact nobool h
  T := fun _ => fun h q => nobool h
  F := fun _ => fun h q => nobool h
  aT := fun _ => fun h q => nobool h
  oT := fun _ => fun h q => nobool h
  aE := fun _ => fun h q => False.elim q
  oE := fun _ => fun h q => False.elim q
  L := fun _ => fun h _ q => nobool h
  A := fun _ => fun h q => nobool h
  K := fun _ => fun h q => nobool h
  O := fun _ => fun h q => nobool h
  I := fun _ => fun h q => nobool h

theorem se_mth {m : ME} {o as : IR} (ho : SE N G o) (ha : SE N G as) : SE N G (.mth m o as) where
  E := fun {X k sc} V {xw e ds ms kd} h q => by
    unfold ckE at h
    split at h
    · rename_i x n apos es cpos
      simp only [Bool.and_eq_true, decide_eq_true_eq, Bool.not_eq_true'] at h
      obtain ⟨⟨⟨⟨⟨⟨⟨h1, h2⟩, h3⟩, h4⟩, h5⟩, h6⟩, h7⟩, h8⟩ := h
      have q : vE G xw o ds ms fun x ms1 => vTy x ms1 ∧ vA G xw as ds ms1 fun vs ms2 => vMth m x vs ms2 kd := q
      cases es with
      | nil => exact absurd h7 (by decide)
      | cons e es =>
        have n : (!isStar e && noStar es) = true := h6
        rw [Bool.and_eq_true] at n
        have few : ((backTo cpos (starEach (e :: es) X.env)).all (fun x => !x.1) && (backToKw cpos (keywordEach [] X.env)).all (fun x => x.1.isSome)
          && decide ((e :: es).length + ([] : List Keyword).length + (if ([] : List Keyword).isEmpty then 0 else 1) < 30)) = true := by
          rw [nostar_all h6]
          show (true && true && decide (_ + 0 + 0 < 30)) = true
          rw [decide_eq_true (by omega)]
          rfl
        cases m with
        | append =>
          subst h1
          exact de_m PySem.F.plainAttrs_list PySem.F.slot_list_append PySem.F.type_list_append ((ho.E V h4 q).imp fun x ms1 ⟨⟨zs, l⟩, q⟩ => ty_ls l ((ha.L V h5 h6 q).imp fun vs ms2 q => vAppend_ok q)) (ab_ok h2) few h3 (star_no (by simpa using n.1)) (nostar_any n.2)
        | extend =>
          subst h1
          exact de_m PySem.F.plainAttrs_list PySem.F.slot_list_extend PySem.F.type_list_extend ((ho.E V h4 q).imp fun x ms1 ⟨⟨zs, l⟩, q⟩ => ty_ls l ((ha.L V h5 h6 q).imp fun vs ms2 q => vExtend_ok q)) (ab_ok h2) few h3 (star_no (by simpa using n.1)) (nostar_any n.2)
        | insert =>
          subst h1
          exact de_m PySem.F.plainAttrs_list PySem.F.slot_list_insert PySem.F.type_list_insert ((ho.E V h4 q).imp fun x ms1 ⟨⟨zs, l⟩, q⟩ => ty_ls l ((ha.L V h5 h6 q).imp fun vs ms2 q => vInsert_ok q)) (ab_ok h2) few h3 (star_no (by simpa using n.1)) (nostar_any n.2)
    · exact nobool h
  T := fun _ => fun h q => nobool h
  F := fun _ => fun h q => nobool h
  aT := fun _ => fun h q => nobool h
  oT := fun _ => fun h q => nobool h
  aE := fun _ => fun h q => False.elim q
  oE := fun _ => fun h q => False.elim q
  L := fun _ => fun h _ q => nobool h
  A := fun _ => fun h q => nobool h
  K := fun _ => fun h q => nobool h
  O := fun _ => fun h q => nobool h
  I := fun _ => fun h q => nobool h

theorem se_getM {o a b : IR} (ho : SE N G o) (ha : SE N G a) (hb : SE N G b) : SE N G (.getM o a b) where
  E := fun {X k sc} V {xw e ds ms kd} h q => by
    unfold ckE at h
    split at h
    · rename_i x n apos y z cpos
      simp only [Bool.and_eq_true, decide_eq_true_eq, Bool.not_eq_true'] at h
      obtain ⟨⟨⟨⟨⟨⟨⟨rfl, h2⟩, h3⟩, h4⟩, h5⟩, h6⟩, h7⟩, h8⟩ := h
      refine de_get2 V.c ((ho.E V h4 q).imp fun x ms1 q => dcK_imp q fun kvs q => (ha.E V h5 q).imp fun y ms2 q => hb.E V h6 q) h2 h7 h8 h3
    · exact nobool h
  T := fun _ => fun h q => nobool h
  F := fun _ => fun h q => nobool h
  aT := fun _ => fun h q => nobool h
  oT := fun _ => fun h q => nobool h
  aE := fun _ => fun h q => False.elim q
  oE := fun _ => fun h q => False.elim q
  L := fun _ => fun h _ q => nobool h
  A := fun _ => fun h q => nobool h
  K := fun _ => fun h q => nobool h
  O := fun _ => fun h q => nobool h
  I := fun _ => fun h q => nobool h

theorem se_lc {m : Bool} {elt it ifs : IR} {tg : TGt} {own : List (Str × Nat)} (he : SE N G elt) (hi : SE N G it) (hf : SE N G ifs) : SE N G (.lc m elt tg it ifs own) where
  E := fun {X k sc} V {xw e ds ms kd} h q => by
    unfold ckE at h
    split at h
    · rename_i x t i cs z scope pos
      simp only [Bool.and_eq_true, decide_eq_true_eq, Bool.not_eq_true', List.all_eq_true] at h
      obtain ⟨⟨⟨⟨⟨⟨⟨rfl, h1⟩, h2⟩, h3⟩, h4⟩, h5⟩, h6⟩, h7⟩ := h
      have dit := (hi.I V h4 q).imp fun xs keep ms1 q => lct_v (X := X) (scope := scope) (own := own) (tg := t) (elt := x) (ifs := cs) h2
        (fun s H C cl fp d ds ms K g => (sG (V.blk s H scope C cl fp) (fun h => absurd h Bool.false_ne_true)).1 tg h3 g) (fun s H C cl fp ds ms kb g => hf.F (V.blk s H scope C cl fp) h6 g) (fun s H C cl fp ds ms kd g => he.E (V.blk s H scope C cl fp) h7 g) q
      cases m with
      | true => exact de_lcM V.c own V.sc h1 dit (folded_ok h5)
      | false => exact de_lc V.c own V.sc h1 dit (folded_ok h5)
    · exact nobool h
  T := fun _ => fun h q => nobool h
  F := fun _ => fun h q => nobool h
  aT := fun _ => fun h q => nobool h
  oT := fun _ => fun h q => nobool h
  aE := fun _ => fun h q => False.elim q
  oE := fun _ => fun h q => False.elim q
  L := fun _ => fun h _ q => nobool h
  A := fun _ => fun h q => nobool h
  K := fun _ => fun h q => nobool h
  O := fun _ => fun h q => nobool h
  I := fun _ => fun h q => nobool h

theorem se_dc {kx vx it ifs : IR} {tg : TGt} {own : List (Str × Nat)} (hk : SE N G kx) (hv : SE N G vx) (hi : SE N G it) (hf : SE N G ifs) : SE N G (.dc kx vx tg it ifs own) where
  E := fun {X k sc} V {xw e ds ms kd} h q => by
    unfold ckE at h
    split at h
    · rename_i x y t i cs z scope pos
      simp only [Bool.and_eq_true, decide_eq_true_eq, Bool.not_eq_true', List.all_eq_true] at h
      obtain ⟨⟨⟨⟨⟨⟨⟨⟨rfl, h1⟩, h2⟩, h3⟩, h4⟩, h5⟩, h6⟩, h7⟩, h8⟩ := h
      refine de_freezeD (de_dcM V (fin := fun acc ms2 => kd (.dic acc) ms2) (fun acc ms2 q p => ⟨p, 0, acc, ms2, rfl, .z, .z, q⟩) h1 h5 h2 (fun s H C cl fp d ds ms K g => (sG (V.blk s H scope C cl fp) (fun h => absurd h Bool.false_ne_true)).1 tg h3 g) (fun s H C cl fp ds ms kb g => hf.F (V.blk s H scope C cl fp) h6 g) (fun s H C cl fp ds ms kd g => hk.E (V.blk s H scope C cl fp) h7 g)
        (fun s H C cl fp ds ms kd g => hv.E (V.blk s H scope C cl fp) h8 g) (hi.I V h4 q))
    · exact nobool h
  T := fun _ => fun h q => nobool h
  F := fun _ => fun h q => nobool h
  aT := fun _ => fun h q => nobool h
  oT := fun _ => fun h q => nobool h
  aE := fun _ => fun h q => False.elim q
  oE := fun _ => fun h q => False.elim q
  L := fun _ => fun h _ q => nobool h
  A := fun _ => fun h q => nobool h
  K := fun _ => fun h q => nobool h
  O := fun _ => fun h q => nobool h
  I := fun _ => fun h q => nobool h

theorem se_frz {a : IR} (ha : SE N G a) : SE N G (.frz a) where
  E := fun {X k sc} V {xw e ds ms kd} h q => by
    refine de_freeze ((ha.E V h q).imp fun x ms1 q => ?_)
    cases x <;> first | exact False.elim q | skip
    obtain ⟨i, xs, hm, q⟩ := q
    obtain ⟨ms2, hd, q⟩ := mdelK_at q
    exact ⟨_, i, _, ms2, rfl, hm, hd, rfl, q⟩
  T := fun _ => fun h q => nobool h
  F := fun _ => fun h q => nobool h
  aT := fun _ => fun h q => nobool h
  oT := fun _ => fun h q => nobool h
  aE := fun _ => fun h q => False.elim q
  oE := fun _ => fun h q => False.elim q
  L := fun _ => fun h _ q => nobool h
  A := fun _ => fun h q => nobool h
  K := fun _ => fun h q => nobool h
  O := fun _ => fun h q => nobool h
  I := fun _ => fun h q => nobool h

theorem se_frzD {a : IR} (ha : SE N G a) : SE N G (.frzD a) where
  E := fun {X k sc} V {xw e ds ms kd} h q => by
    refine de_freezeD ((ha.E V h q).imp fun x ms1 q => ?_)
    cases x <;> first | exact False.elim q | skip
    obtain ⟨i, xs, hm, q⟩ := q
    obtain ⟨ms2, hd, q⟩ := mdelK_at q
    exact ⟨_, i, _, ms2, rfl, hm, hd, q⟩
  T := fun _ => fun h q => nobool h
  F := fun _ => fun h q => nobool h
  aT := fun _ => fun h q => nobool h
  oT := fun _ => fun h q => nobool h
  aE := fun _ => fun h q => False.elim q
  oE := fun _ => fun h q => False.elim q
  L := fun _ => fun h _ q => nobool h
  A := fun _ => fun h q => nobool h
  K := fun _ => fun h q => nobool h
  O := fun _ => fun h q => nobool h
  I := fun _ => fun h q => nobool h

theorem se_itE {a : IR} (ha : SE N G a) : SE N G (.itE a) where
  E := fun _ => fun h q => nobool h
  T := fun _ => fun h q => nobool h
  F := fun _ => fun h q => nobool h
  aT := fun _ => fun h q => nobool h
  oT := fun _ => fun h q => nobool h
  aE := fun _ => fun h q => False.elim q
  oE := fun _ => fun h q => False.elim q
  L := fun _ => fun h _ q => nobool h
  A := fun _ => fun h q => nobool h
  K := fun _ => fun h q => nobool h
  O := fun _ => fun h q => nobool h
  I := fun {X k sc} V {xw e t ds ms KK} h q => by
    exact dit_walk (ha.E V h q)

theorem se_itR1 {a : IR} (ha : SE N G a) : SE N G (.itR1 a) where
  E := fun _ => fun h q => nobool h
  T := fun _ => fun h q => nobool h
  F := fun _ => fun h q => nobool h
  aT := fun _ => fun h q => nobool h
  oT := fun _ => fun h q => nobool h
  aE := fun _ => fun h q => False.elim q
  oE := fun _ => fun h q => False.elim q
  L := fun _ => fun h _ q => nobool h
  A := fun _ => fun h q => nobool h
  K := fun _ => fun h q => nobool h
  O := fun _ => fun h q => nobool h
  I := fun {X k sc} V {xw e t ds ms KK} h q => by
    unfold ckI at h
    split at h
    · rename_i f x pos
      simp only [Bool.and_eq_true, Bool.not_eq_true'] at h
      obtain ⟨⟨h1, h2⟩, h3⟩ := h
      unfold rngB at h1
      split at h1
      · simp only [Bool.and_eq_true, decide_eq_true_eq] at h1
        obtain ⟨rfl, h1⟩ := h1
        refine dit_range1 (V.bn _ (by decide +kernel)) ((ha.E V h2 q).imp fun d ms1 q => ?_) (V.gl h1) (by rw [star_no h3]; rfl) (star_no h3)
        cases d <;> first | exact False.elim q | exact ⟨_, rfl, q.1.1, q.1.2, q.2⟩
      · exact nobool h1
    · exact nobool h

theorem se_itR2 {a b : IR} (ha : SE N G a) (hb : SE N G b) : SE N G (.itR2 a b) where
  E := fun _ => fun h q => nobool h
  T := fun _ => fun h q => nobool h
  F := fun _ => fun h q => nobool h
  aT := fun _ => fun h q => nobool h
  oT := fun _ => fun h q => nobool h
  aE := fun _ => fun h q => False.elim q
  oE := fun _ => fun h q => False.elim q
  L := fun _ => fun h _ q => nobool h
  A := fun _ => fun h q => nobool h
  K := fun _ => fun h q => nobool h
  O := fun _ => fun h q => nobool h
  I := fun {X k sc} V {xw e t ds ms KK} h q => by
    unfold ckI at h
    split at h
    · rename_i f x y pos
      simp only [Bool.and_eq_true, Bool.not_eq_true'] at h
      obtain ⟨⟨⟨⟨h1, h2⟩, h3⟩, h4⟩, h5⟩ := h
      unfold rngB at h1
      split at h1
      · simp only [Bool.and_eq_true, decide_eq_true_eq] at h1
        obtain ⟨rfl, h1⟩ := h1
        refine dit_range2 (V.bn _ (by decide +kernel)) ((ha.E V h2 q).imp fun d ms1 q => (hb.E V h3 q).imp fun d' ms2 q => ?_) (V.gl h1) (by rw [star_no h4, star_no h5]; rfl) (by rw [star_no h5]; rfl) (by rw [star_no h4]) (star_no h5)
        cases d <;> first | exact False.elim q | skip
        cases d' <;> first | exact False.elim q | exact ⟨_, _, rfl, rfl, q.1, q.2⟩
      · exact nobool h1
    · exact nobool h

theorem se_itEn {a : IR} (ha : SE N G a) : SE N G (.itEn a) where
  E := fun _ => fun h q => nobool h
  T := fun _ => fun h q => nobool h
  F := fun _ => fun h q => nobool h
  aT := fun _ => fun h q => nobool h
  oT := fun _ => fun h q => nobool h
  aE := fun _ => fun h q => False.elim q
  oE := fun _ => fun h q => False.elim q
  L := fun _ => fun h _ q => nobool h
  A := fun _ => fun h q => nobool h
  K := fun _ => fun h q => nobool h
  O := fun _ => fun h q => nobool h
  I := fun {X k sc} V {xw e t ds ms KK} h q => by
    unfold ckI at h
    split at h
    · rename_i f x pos
      simp only [Bool.and_eq_true, Bool.not_eq_true'] at h
      obtain ⟨⟨⟨h1, h2⟩, h3⟩, h4⟩ := h
      cases t <;> first | exact nobool h4 | skip
      unfold rngB at h1
      split at h1
      · simp only [Bool.and_eq_true, decide_eq_true_eq] at h1
        obtain ⟨rfl, h1⟩ := h1
        refine DIt.keepm (dit_enum (V.bn _ (by decide +kernel)) ((ha.E V h2 q).imp fun d ms1 q => ?_) (V.gl h1) (by rw [star_no h3]; rfl) (star_no h3))
        cases d <;> first | exact False.elim q | skip
        · exact ⟨_, .f, _, fun _ _ => .f, q⟩
        · obtain ⟨i, xs, hm, q⟩ := q
          exact ⟨xs, .m hm, _, fun _ ⟨_, h⟩ => .m h, q⟩
      · exact nobool h1
    · exact nobool h

theorem se_itZip {a b : IR} (ha : SE N G a) (hb : SE N G b) : SE N G (.itZip a b) where
  E := fun _ => fun h q => nobool h
  T := fun _ => fun h q => nobool h
  F := fun _ => fun h q => nobool h
  aT := fun _ => fun h q => nobool h
  oT := fun _ => fun h q => nobool h
  aE := fun _ => fun h q => False.elim q
  oE := fun _ => fun h q => False.elim q
  L := fun _ => fun h _ q => nobool h
  A := fun _ => fun h q => nobool h
  K := fun _ => fun h q => nobool h
  O := fun _ => fun h q => nobool h
  I := fun {X k sc} V {xw e t ds ms KK} h q => by
    unfold ckI at h
    split at h
    · rename_i f x y pos
      simp only [Bool.and_eq_true, Bool.not_eq_true'] at h
      obtain ⟨⟨⟨⟨⟨h1, h2⟩, h3⟩, h4⟩, h5⟩, h6⟩ := h
      cases t <;> first | exact nobool h6 | skip
      unfold rngB at h1
      split at h1
      · simp only [Bool.and_eq_true, decide_eq_true_eq] at h1
        obtain ⟨rfl, h1⟩ := h1
        have n5 : noStar [y] = true := by unfold noStar; simp [h5]
        refine DIt.keepm (dit_zip (V.bn _ (by decide +kernel)) ((ha.E V h2 q).imp fun d ms1 q => (hb.E V h3 q).imp fun d' ms2 q => ?_) (V.gl h1) (by rw [star_no h4]) (nostar_any n5) (star_no h5))
        cases d <;> first | exact False.elim q | skip
        cases d' <;> first | exact False.elim q | skip
        exact ⟨_, _, .f, .f, _, fun _ _ => ⟨.f, .f⟩, q⟩
      · exact nobool h1
    · exact nobool h

theorem se_itIt {a : IR} (ha : SE N G a) : SE N G (.itIt a) where
  E := fun _ => fun h q => nobool h
  T := fun _ => fun h q => nobool h
  F := fun _ => fun h q => nobool h
  aT := fun _ => fun h q => nobool h
  oT := fun _ => fun h q => nobool h
  aE := fun _ => fun h q => False.elim q
  oE := fun _ => fun h q => False.elim q
  L := fun _ => fun h _ q => nobool h
  A := fun _ => fun h q => nobool h
  K := fun _ => fun h q => nobool h
  O := fun _ => fun h q => nobool h
  I := fun {X k sc} V {xw e t ds ms KK} h q => by
    unfold ckI at h
    split at h
    · rename_i x n apos cpos
      simp only [Bool.and_eq_true, decide_eq_true_eq] at h
      obtain ⟨⟨⟨⟨rfl, h2⟩, h3⟩, h4⟩, h5⟩ := h
      cases t <;> first | exact nobool h5 | skip
      refine dit_items ((ha.E V h4 q).imp fun d ms1 q => ?_) h2 h3
      cases d <;> first | exact False.elim q | exact ⟨_, rfl, q⟩
    · exact nobool h

theorem vFld_ok {C : Addr} {f : Str} {x : D} {ms : MS} {kd : DK} (h : vFld C f x ms kd) : ∃ fs v, InsOf ms x C fs ∧ fs.lookup f = some v ∧ kd v ms := by
  cases x <;> first | exact False.elim h | skip
  · obtain ⟨rfl, v, h1, h2⟩ := h
    exact ⟨_, v, .inl rfl, h1, h2⟩
  · obtain ⟨i, fs, hm, v, h1, h2⟩ := h
    exact ⟨fs, v, .inr ⟨_, i, rfl, hm⟩, h1, h2⟩
theorem vIns_ok {C : Addr} {x : D} {ms : MS} (h : vIns C x ms) : ∃ fs, InsOf ms x C fs := by
  cases x <;> first | exact False.elim h | skip
  · obtain rfl := (show _ = C from h)
    exact ⟨_, .inl rfl⟩
  · obtain ⟨i, fs, hm⟩ := h
    exact ⟨fs, .inr ⟨_, i, rfl, hm⟩⟩
theorem vInsN_ok {C : Addr} {m : Str} {x : D} {ms : MS} (h : vInsN C m x ms) : ∃ fs, InsOf ms x C fs ∧ fs.lookup m = none := by
  cases x <;> first | exact False.elim h | skip
  · obtain ⟨rfl, h1⟩ := h
    exact ⟨_, .inl rfl, h1⟩
  · obtain ⟨i, fs, hm, h1⟩ := h
    exact ⟨fs, .inr ⟨_, i, rfl, hm⟩, h1⟩
theorem se_attr {k : Nat} {o : IR} (ho : SE N G o) : SE N G (.attr k o) where
  E := fun {X k' sc} V {xw e ds ms kd} h q => by
    cases e <;> first | exact nobool h | skip
    rename_i x f p
    have h : (entFl f ((gn G).at k) && abOk x && ckE N (gn G) sc o x) = true := h
    rw [gn_at] at h
    simp only [Bool.and_eq_true] at h
    obtain ⟨⟨h1, h2⟩, h3⟩ := h
    have g := V.g k
    have q : vE G xw o ds ms fun x ms1 => (match G.at k with | .fl C f => vFld C f x ms1 kd | _ => False) := q
    generalize G.at k = en at h1 g q
    cases en <;> first | exact nobool h1 | skip
    rename_i C y
    have h1 : decide (f = y) = true := h1
    rw [decide_eq_true_eq] at h1
    subst h1
    exact de_attr g.1 g.2 ((ho.E V h3 q).imp fun d ms1 q => vFld_ok q) (ab_ok h2)
  T := fun _ => fun h q => nobool h
  F := fun _ => fun h q => nobool h
  aT := fun _ => fun h q => nobool h
  oT := fun _ => fun h q => nobool h
  aE := fun _ => fun h q => False.elim q
  oE := fun _ => fun h q => False.elim q
  L := fun _ => fun h _ q => nobool h
  A := fun _ => fun h q => nobool h
  K := fun _ => fun h q => nobool h
  O := fun _ => fun h q => nobool h
  I := fun _ => fun h q => nobool h

theorem se_prop {k : Nat} {o : IR} (ho : SE N G o) : SE N G (.prop k o) where
  E := fun {X k' sc} V {xw e ds ms kd} h q => by
    cases e <;> first | exact nobool h | skip
    rename_i x f p
    have h : (entPr f ((gn G).at k) && abOk x && ckE N (gn G) sc o x) = true := h
    rw [gn_at] at h
    simp only [Bool.and_eq_true] at h
    obtain ⟨⟨h1, h2⟩, h3⟩ := h
    have g := V.g k
    have q : vE G xw o ds ms fun x ms1 => (match G.at k with | .pr C _ S => vIns C x ms1 ∧ S [x] ms1 kd fun _ _ _ => False | _ => False) := q
    generalize G.at k = en at h1 g q
    cases en <;> first | exact nobool h1 | skip
    rename_i C y S
    have h1 : decide (f = y) = true := h1
    rw [decide_eq_true_eq] at h1
    subst h1
    obtain ⟨j, k2, p, gg, fd, ps, rfl, hj, c, hp, M⟩ := g
    exact de_prop V.c V.gd c hp M hj ((ho.E V h3 q).imp fun d ms1 q => ⟨vIns_ok q.1, q.2⟩) (ab_ok h2)
  T := fun _ => fun h q => nobool h
  F := fun _ => fun h q => nobool h
  aT := fun _ => fun h q => nobool h
  oT := fun _ => fun h q => nobool h
  aE := fun _ => fun h q => False.elim q
  oE := fun _ => fun h q => False.elim q
  L := fun _ => fun h _ q => nobool h
  A := fun _ => fun h q => nobool h
  K := fun _ => fun h q => nobool h
  O := fun _ => fun h q => nobool h
  I := fun _ => fun h q => nobool h

theorem se_own {k : Nat} {o as : IR} (ho : SE N G o) (ha : SE N G as) : SE N G (.own k o as) where
  E := fun {X k' sc} V {xw e ds ms kd} h q => by
    unfold ckE at h
    split at h
    · rename_i x m apos es cpos
      rw [gn_at] at h
      simp only [Bool.and_eq_true, decide_eq_true_eq] at h
      obtain ⟨⟨⟨⟨⟨⟨h1, h2⟩, h3⟩, h4⟩, h5⟩, h6⟩, h7⟩ := h
      have g := V.g k
      have q : vE G xw o ds ms fun x ms1 => (match G.at k with | .mt C m _ S => vInsN C m x ms1 ∧ vA G xw as ds ms1 fun vs ms2 => S (x :: vs) ms2 kd fun C d ms3 => xw C d ds ms3 | _ => False) := q
      generalize G.at k = en at h1 g q
      cases en <;> first | exact nobool h1 | skip
      rename_i C y n S
      have h1 : (decide (m = y) && decide (es.length = n)) = true := h1
      simp only [Bool.and_eq_true, decide_eq_true_eq] at h1
      obtain ⟨rfl, h1⟩ := h1
      obtain ⟨j, f, fd, ps, hj, c, hm, M⟩ := g
      have few : ((backTo cpos (starEach es X.env)).all (fun x => !x.1) && (backToKw cpos (keywordEach [] X.env)).all (fun x => x.1.isSome)
          && decide (es.length + ([] : List Keyword).length + (if ([] : List Keyword).isEmpty then 0 else 1) < 30)) = true := by
        rw [nostar_all h6]
        show (true && true && decide (_ + 0 + 0 < 30)) = true
        rw [decide_eq_true (by omega)]
        rfl
      cases es with
      | nil =>
        refine de_meth0 V.c V.gd c hm M hj ((ho.E V h4 q).imp fun d ms1 ⟨q1, q2⟩ => ⟨vInsN_ok q1, ?_⟩) (ht_of (ab_ok h2) h3 few)
        cases as <;> first | exact nobool h5 | exact q2
      | cons e es =>
        have n : (!isStar e && noStar es) = true := h6
        rw [Bool.and_eq_true] at n
        exact de_meth V.c V.gd c hm M hj ((ho.E V h4 q).imp fun d ms1 ⟨q1, q2⟩ => ⟨vInsN_ok q1, ha.L V h5 h6 q2⟩) (star_no (by simpa using n.1)) (nostar_any n.2) (ht_of (ab_ok h2) h3 few)
    · exact nobool h
  T := fun _ => fun h q => nobool h
  F := fun _ => fun h q => nobool h
  aT := fun _ => fun h q => nobool h
  oT := fun _ => fun h q => nobool h
  aE := fun _ => fun h q => False.elim q
  oE := fun _ => fun h q => False.elim q
  L := fun _ => fun h _ q => nobool h
  A := fun _ => fun h q => nobool h
  K := fun _ => fun h q => nobool h
  O := fun _ => fun h q => nobool h
  I := fun _ => fun h q => nobool h

theorem se_make {k : Nat} {as : IR} (ha : SE N G as) : SE N G (.make k as) where
  E := fun {X k' sc} V {xw e ds ms kd} h q => by
    unfold ckE at h
    split at h
    · rename_i x p es pos
      rw [gn_at] at h
      simp only [Bool.and_eq_true, Bool.not_eq_true'] at h
      obtain ⟨⟨⟨⟨⟨h1, h2⟩, h3⟩, h4⟩, h5⟩, h6⟩ := h
      have g := V.g k
      have q : vA G xw as ds ms fun vs ms1 => (match G.at k with | .cls _ C _ S => ∀ a, S (.adr a :: vs) ((a, .ins C []) :: ms1) (fun d ms2 => d = .non ∧ kd (.adr a) ms2) fun C d ms3 => xw C d ds ms3 | _ => False) := q
      generalize G.at k = en at h1 g q
      cases en <;> first | exact nobool h1 | skip
      rename_i y C n S
      have h1 : (decide (x = y) && decide (es.length = n)) = true := h1
      simp only [Bool.and_eq_true, decide_eq_true_eq] at h1
      obtain ⟨rfl, h1⟩ := h1
      obtain ⟨j, k2, f, fd, ps, rfl, hj, hg, M, A⟩ := g
      obtain ⟨d1, d2, _⟩ := dbgB_ok h3
      cases es with
      | nil => exact absurd h6 (by decide)
      | cons e es =>
        have n : (!isStar e && noStar es) = true := h5
        rw [Bool.and_eq_true] at n
        exact de_make V.c V.gd M hg A hj (ha.L V h4 h5 q) (V.gl h2) d1 (star_no (by simpa using n.1)) (nostar_any n.2)
    · exact nobool h
  T := fun _ => fun h q => nobool h
  F := fun _ => fun h q => nobool h
  aT := fun _ => fun h q => nobool h
  oT := fun _ => fun h q => nobool h
  aE := fun _ => fun h q => False.elim q
  oE := fun _ => fun h q => False.elim q
  L := fun _ => fun h _ q => nobool h
  A := fun _ => fun h q => nobool h
  K := fun _ => fun h q => nobool h
  O := fun _ => fun h q => nobool h
  I := fun _ => fun h q => nobool h

theorem se_srtI {o : IR} (ho : SE N G o) : SE N G (.srtI o) where
  E := fun {X k' sc} V {xw e ds ms kd} h q => by
    unfold ckE at h
    split at h
    · rename_i f x n apos cpos pos
      simp only [Bool.and_eq_true, decide_eq_true_eq] at h
      obtain ⟨⟨⟨⟨h1, rfl⟩, h2⟩, h3⟩, h4⟩ := h
      cases f <;> first | exact nobool h1 | skip
      rename_i y p
      have h1 : (decide ("sorted" = y) && glB sc "sorted") = true := h1
      simp only [Bool.and_eq_true, decide_eq_true_eq] at h1
      obtain ⟨rfl, h1⟩ := h1
      refine de_srtI V.c (V.bn _ (by decide +kernel)) ((ho.E V h4 q).imp fun d ms1 q => ?_) (V.gl h1) (ab_ok h2) h3
      cases d <;> first | exact False.elim q | skip
      obtain ⟨kv, rfl, q⟩ := q
      exact ⟨kv, rfl, q⟩
    · exact nobool h
  T := fun _ => fun h q => nobool h
  F := fun _ => fun h q => nobool h
  aT := fun _ => fun h q => nobool h
  oT := fun _ => fun h q => nobool h
  aE := fun _ => fun h q => False.elim q
  oE := fun _ => fun h q => False.elim q
  L := fun _ => fun h _ q => nobool h
  A := fun _ => fun h q => nobool h
  K := fun _ => fun h q => nobool h
  O := fun _ => fun h q => nobool h
  I := fun _ => fun h q => nobool h

theorem se_lstR {a b : IR} (ha : SE N G a) (hb : SE N G b) : SE N G (.lstR a b) where
  E := fun {X k' sc} V {xw e ds ms kd} h q => by
    unfold ckE at h
    split at h
    · rename_i f g x y pos2 pos
      simp only [Bool.and_eq_true, Bool.not_eq_true'] at h
      obtain ⟨⟨⟨⟨⟨h1, h2⟩, h3⟩, h4⟩, h5⟩, h6⟩ := h
      cases f <;> first | exact nobool h1 | skip
      cases g <;> first | exact nobool h2 | skip
      rename_i y1 p1 y2 p2
      have h1 : (decide ("list" = y1) && glB sc "list") = true := h1
      have h2 : (decide ("range" = y2) && glB sc "range") = true := h2
      simp only [Bool.and_eq_true, decide_eq_true_eq] at h1 h2
      obtain ⟨rfl, h1⟩ := h1
      obtain ⟨rfl, h2⟩ := h2
      refine de_listR2 V.c (V.bn _ (by decide +kernel)) (V.bn _ (by decide +kernel)) ((ha.E V h3 q).imp fun d ms1 q => (hb.E V h4 q).imp fun d' ms2 q => ?_) (V.gl h1) (V.gl h2) (star_no h5) (star_no h6) (by rw [star_no h6]; rfl)
      cases d <;> first | exact False.elim q | skip
      cases d' <;> first | exact False.elim q | skip
      exact ⟨_, _, rfl, rfl, q⟩
    · exact nobool h
  T := fun _ => fun h q => nobool h
  F := fun _ => fun h q => nobool h
  aT := fun _ => fun h q => nobool h
  oT := fun _ => fun h q => nobool h
  aE := fun _ => fun h q => False.elim q
  oE := fun _ => fun h q => False.elim q
  L := fun _ => fun h _ q => nobool h
  A := fun _ => fun h q => nobool h
  K := fun _ => fun h q => nobool h
  O := fun _ => fun h q => nobool h
  I := fun _ => fun h q => nobool h

theorem se_repM {a b : IR} (ha : SE N G a) (hb : SE N G b) : SE N G (.repM a b) where
  E := fun {X k' sc} V {xw e ds ms kd} h q => by
    cases e <;> first | exact nobool h | skip
    rename_i l o r p
    have h : (decide (Operator.Mult = o) && ckE N (gn G) sc a l && ckE N (gn G) sc b r) = true := h
    simp only [Bool.and_eq_true, decide_eq_true_eq] at h
    obtain ⟨⟨rfl, h1⟩, h2⟩ := h
    refine de_bin ((ha.E V h1 q).imp fun x ms1 q => (hb.E V h2 q).imp fun y ms2 q => ?_)
    cases y <;> first | exact False.elim q | skip
    obtain ⟨xs, l, q⟩ := lsK_at q
    exact opd_repM l q.1.1 q.1.2.1 q.1.2.2 q.2
  T := fun _ => fun h q => nobool h
  F := fun _ => fun h q => nobool h
  aT := fun _ => fun h q => nobool h
  oT := fun _ => fun h q => nobool h
  aE := fun _ => fun h q => False.elim q
  oE := fun _ => fun h q => False.elim q
  L := fun _ => fun h _ q => nobool h
  A := fun _ => fun h q => nobool h
  K := fun _ => fun h q => nobool h
  O := fun _ => fun h q => nobool h
  I := fun _ => fun h q => nobool h

theorem se_dic1 {a b : IR} (ha : SE N G a) (hb : SE N G b) : SE N G (.dic1 a b) where
  E := fun {X k' sc} V {xw e ds ms kd} h q => by
    unfold ckE at h
    split at h
    · rename_i x y pos
      simp only [Bool.and_eq_true] at h
      refine de_dic1 fun p => (ha.E V h.1 (q p)).imp fun d ms1 q => (hb.E V h.2 q).imp fun d' ms2 q => ?_
      obtain ⟨ky, ek, i, ms3, h1, h2, q⟩ := keyK_at q
      exact ⟨ky, i, ms3, ek, h1, h2, q⟩
    · exact nobool h
  T := fun _ => fun h q => nobool h
  F := fun _ => fun h q => nobool h
  aT := fun _ => fun h q => nobool h
  oT := fun _ => fun h q => nobool h
  aE := fun _ => fun h q => False.elim q
  oE := fun _ => fun h q => False.elim q
  L := fun _ => fun h _ q => nobool h
  A := fun _ => fun h q => nobool h
  K := fun _ => fun h q => nobool h
  O := fun _ => fun h q => nobool h
  I := fun _ => fun h q => nobool h

theorem se_frzI {a : IR} (ha : SE N G a) : SE N G (.frzI a) where
  E := fun {X k sc} V {xw e ds ms kd} h q => by
    refine de_freeze ((ha.E V h q).imp fun x ms1 q => ?_)
    cases x <;> first | exact False.elim q | skip
    obtain ⟨i, C, xs, hm, q⟩ := q
    obtain ⟨ms2, hd, q⟩ := mdelK_at q
    exact ⟨_, i, _, ms2, rfl, hm, hd, rfl, q⟩
  T := fun _ => fun h q => nobool h
  F := fun _ => fun h q => nobool h
  aT := fun _ => fun h q => nobool h
  oT := fun _ => fun h q => nobool h
  aE := fun _ => fun h q => False.elim q
  oE := fun _ => fun h q => False.elim q
  L := fun _ => fun h _ q => nobool h
  A := fun _ => fun h q => nobool h
  K := fun _ => fun h q => nobool h
  O := fun _ => fun h q => nobool h
  I := fun _ => fun h q => nobool h

theorem se_all : ∀ r : IR, SE N G r := by
  intro r
  induction r with
  | nil   => exact se_nil 
  | cons a r h1 h2 => exact se_cons h1 h2
  | star a r h1 h2 => exact se_star h1 h2
  | var i  => exact se_var 
  | int i  => exact se_int 
  | str i  => exact se_str 
  | bl i  => exact se_bl 
  | non   => exact se_non 
  | glb k  => exact se_glb 
  | bin op a b h1 h2 => exact se_bin h1 h2
  | neg a h1 => exact se_neg h1
  | cmp op a b h1 h2 => exact se_cmp h1 h2
  | chain op op' a b c h1 h2 h3 => exact se_chain h1 h2 h3
  | and a h1 => exact se_and h1
  | or a h1 => exact se_or h1
  | not a h1 => exact se_not h1
  | tru a h1 => exact se_tru h1
  | ite c a b h1 h2 h3 => exact se_ite h1 h2 h3
  | tup a h1 => exact se_tup h1
  | lst m a h1 => exact se_lst h1
  | dic0   => exact se_dic0 
  | dicI kv  => exact se_dicI 
  | dic1 a b h1 h2 => exact se_dic1 h1 h2
  | ix a b h1 h2 => exact se_ix h1 h2
  | sl a b c h1 h2 h3 => exact se_sl h1 h2 h3
  | rev a h1 => exact se_rev h1
  | call k a h1 => exact se_call h1
  | callK k a b h1 h2 => exact se_callK h1 h2
  | bi z a h1 => exact se_bi h1
  | mth z a b h1 h2 => exact se_mth h1 h2
  | getM a b c h1 h2 h3 => exact se_getM h1 h2 h3
  | own k a b h1 h2 => exact se_own h1 h2
  | attr k a h1 => exact se_attr h1
  | prop k a h1 => exact se_prop h1
  | make k a h1 => exact se_make h1
  | srtI a h1 => exact se_srtI h1
  | lstR a b h1 h2 => exact se_lstR h1 h2
  | repM a b h1 h2 => exact se_repM h1 h2
  | lc m elt tg it ifs own h1 h2 h3 => exact se_lc h1 h2 h3
  | dc kx vx tg it ifs own h1 h2 h3 h4 => exact se_dc h1 h2 h3 h4
  | frz a h1 => exact se_frz h1
  | frzD a h1 => exact se_frzD h1
  | frzI a h1 => exact se_frzI h1
  | itE a h1 => exact se_itE h1
  | itR1 a h1 => exact se_itR1 h1
  | itR2 a b h1 h2 => exact se_itR2 h1 h2
  | itEn a h1 => exact se_itEn h1
  | itZip a b h1 h2 => exact se_itZip h1 h2
  | itIt a h1 => exact se_itIt h1
end
end DL

/-! V7: statements. -/
namespace DL
open PySem PySem.Spec PyProof.Rows L2
inductive ST
  | nil | cons (s r : ST)
  | asg (t : TGt) (e : IR) | par (i j : Nat) (a b : IR) | par3 (i j l : Nat) (a b c : IR)
  | sub (o i e : IR) | aug (i : Nat) (op : Operator) (e : IR)
  | ex (e : IR) | ife (c : IR) (a b : ST) | forS (tg : TGt) (it : IR) (w : List Nat) (b : ST) | whl (c : IR) (w : List Nat) (b : ST)
  | ret (e : IR) | retN | raise (k : Nat) (e : IR) | brk | cnt | pass
  | fld (k : Nat) (o e : IR)
  | frzv (i : Nat) | frzvD (i : Nat) | wipe (is : List Nat) | dropv (i : Nat) | frzF (i : Nat) (f : Str)
/-- what may be frozen, a dict too -/
def canF : MO → Bool
  | .dic _ => true
  | o => canFrz o
def frF : MO → D
  | .dic kvs => .dic kvs
  | o => frz o
@[reducible] def vForL (w : List Nat) (keep : MS → Prop) (tgt : D → DEnv → (DEnv → Prop) → Prop) (body : DEnv → MS → DEnds → Prop) (E : DEnds) : List D → DEnv → MS → Prop
  | [], ds, ms => keep ms ∧ E.nx ds ms
  | x :: xs, ds, ms => keep ms ∧ tgt x ds fun ds2 => body ds2 ms { E with nx := fun ds3 ms3 => wipeK w ds3 fun ds4 => vForL w keep tgt body E xs ds4 ms3, ct := fun ds3 ms3 => wipeK w ds3 fun ds4 => vForL w keep tgt body E xs ds4 ms3, bk := E.nx }
@[reducible] def vWhl (w : List Nat) (c : DEnv → MS → KB → Prop) (body : DEnv → MS → DEnds → Prop) (E : DEnds) : Nat → DEnv → MS → Prop
  | 0, _, _ => False
  | n + 1, ds, ms => c ds ms fun b ms2 => vIf b (body ds ms2 { E with nx := fun ds3 ms3 => wipeK w ds3 fun ds4 => vWhl w c body E n ds4 ms3, ct := fun ds3 ms3 => wipeK w ds3 fun ds4 => vWhl w c body E n ds4 ms3, bk := E.nx }) (E.nx ds ms2)
@[reducible] def vSt (o i v : D) (ms : MS) (km : MS → Prop) : Prop := match o with
  | .adr p => ∃ j ob, Ms ms j p ob ∧ match ob with
    | .lst xs => match i with
      | .int n => ∃ m, ixN xs.length n = some m ∧ msetK ms j (.lst (xs.set m v)) km
      | _ => False
    | .dic kvs => keyK i fun ky => kvs.length < sizeLine ∧ msetK ms j (.dic (putD kvs ky v)) km
    | _ => False
  | _ => False
/-- a field of an instance of the store put -/
@[reducible] def vPutF (C : Addr) (f : Str) (x v : D) (ms : MS) (km : MS → Prop) : Prop := match x with
  | .adr p => ∃ j fs, Ms ms j p (.ins C fs) ∧ fs.length < 1000 ∧ msetK ms j (.ins C (putFD f v fs)) km
  | _ => False
/-- what a field holds stays from now on -/
@[reducible] def vFrzF (f : Str) (d : D) (ms : MS) (km : MS → Prop) : Prop := match d with
  | .adr p => ∃ q j C fs l o ms1 m, Ms ms j p (.ins C fs) ∧ fs.lookup f = some (.adr q) ∧ Ms ms l q o ∧ canF o = true ∧ MDel ms l ms1 ∧ Ms ms1 m p (.ins C fs) ∧ msetK ms1 m (.ins C (putFD f (frF o) fs)) km
  | _ => False
@[reducible] def vAug (op : Operator) (x y : D) (ms : MS) (kd : DK) : Prop := match x with
  | .int i => match y with
    | .int j => match op with
      | .Add => kd (.int (i + j)) ms
      | .Sub => kd (.int (i - j)) ms
      | .Mult => CMul i j ∧ kd (.int (i * j)) ms
      | .FloorDiv => CDivW i j ∧ kd (.int (i / j)) ms
      | _ => False
    | _ => False
  | _ => False
section
variable (G : GE)
@[reducible] def vS (xw : DX) : ST → DEnv → MS → DEnds → Prop
  | .nil, ds, ms, E => E.nx ds ms
  | .cons s r, ds, ms, E => vS xw s ds ms { E with nx := fun ds1 ms1 => vS xw r ds1 ms1 E }
  | .asg t e, ds, ms, E => vE G xw e ds ms fun d ms1 => vG t d ds fun ds' => E.nx ds' ms1
  | .par i j a b, ds, ms, E => vE G xw a ds ms fun x ms1 => vE G xw b ds ms1 fun y ms2 => setK ds i (some x) fun ds1 => setK ds1 j (some y) fun ds2 => E.nx ds2 ms2
  | .par3 i j l a b c, ds, ms, E => vE G xw a ds ms fun x ms1 => vE G xw b ds ms1 fun y ms2 => vE G xw c ds ms2 fun z ms3 => setK ds i (some x) fun ds1 => setK ds1 j (some y) fun ds2 => setK ds2 l (some z) fun ds3 => E.nx ds3 ms3
  | .sub o i e, ds, ms, E => vE G xw e ds ms fun v ms1 => vE G xw o ds ms1 fun x ms2 => vE G xw i ds ms2 fun y ms3 => vSt x y v ms3 fun ms4 => E.nx ds ms4
  | .aug i op e, ds, ms, E => getK ds i fun x => vE G xw e ds ms fun y ms1 => vAug op x y ms1 fun z ms2 => setK ds i (some z) fun ds' => E.nx ds' ms2
  | .ex e, ds, ms, E => vE G xw e ds ms fun _ ms1 => E.nx ds ms1
  | .ife c a b, ds, ms, E => vT G xw c ds ms fun t ms1 => vIf t (vS xw a ds ms1 E) (vS xw b ds ms1 E)
  | .forS tg it w b, ds, ms, E => vI G xw it ds ms fun xs keep ms1 => wipeK w ds fun ds1 => vForL w keep (fun d ds k => vG tg d ds k) (fun ds ms E => vS xw b ds ms E) E xs ds1 ms1
  | .whl c w b, ds, ms, E => ∃ n, wipeK w ds fun ds1 => vWhl w (fun ds ms kb => vT G xw c ds ms kb) (fun ds ms E => vS xw b ds ms E) E n ds1 ms
  | .ret e, ds, ms, E => vE G xw e ds ms fun d ms1 => E.rt d ms1
  | .retN, _, ms, E => E.rt .non ms
  | .raise k e, ds, ms, _ => vE G xw e ds ms fun d ms1 => match G.at k with
    | .er _ C => xw C d ds ms1
    | _ => False
  | .brk, ds, ms, E => E.bk ds ms
  | .cnt, ds, ms, E => E.ct ds ms
  | .pass, ds, ms, E => E.nx ds ms
  | .frzv i, ds, ms, E => getK ds i fun d => match d with
    | .adr p => ∃ j xs, Ms ms j p (.lst xs) ∧ mdelK ms j fun ms1 => setK ds i (some (.lst xs)) fun ds1 => E.nx ds1 ms1
    | _ => False
  | .frzvD i, ds, ms, E => getK ds i fun d => match d with
    | .adr p => ∃ j xs, Ms ms j p (.dic xs) ∧ mdelK ms j fun ms1 => setK ds i (some (.dic xs)) fun ds1 => E.nx ds1 ms1
    | _ => False
  | .fld k o e, ds, ms, E => vE G xw e ds ms fun v ms1 => vE G xw o ds ms1 fun x ms2 => match G.at k with
    | .fl C f => vPutF C f x v ms2 fun ms3 => E.nx ds ms3
    | _ => False
  | .frzF i f, ds, ms, E => getK ds i fun d => vFrzF f d ms fun ms1 => E.nx ds ms1
  | .wipe is, ds, ms, E => wipeK is ds fun ds1 => E.nx ds1 ms
  | .dropv i, ds, ms, E => getK ds i fun d => match d with
    | .adr p => ∃ j o, Ms ms j p o ∧ mdelK ms j fun ms1 => setK ds i none fun ds1 => E.nx ds1 ms1
    | _ => False
end
/-! ### the check -/
def swLc (sc scope : Scope) (y : Str) (py pv : Pos) : Bool := (if sc.kind.isAnnotationScope then ScopeKind.function else sc.kind) == .function && sc.names.lookup y == some .local && py.line == pv.line && !(scope.names.any fun (n, k) => n == y && (k == .local || k == .cell))
/-- a parallel assignment that the compiler stores from the right -/
def swB (sc : Scope) (ts vs : List Expr) : Bool := ((if sc.kind.isAnnotationScope then ScopeKind.function else sc.kind) == .function) && noStar vs && !(vs.all (foldedForSure 8)) && !(vs.all (constantsAlone 8)) && decide (vs.length = ts.length) &&
  ts.all fun t => match t with
    | .Name x p => (sc.names.lookup x == some .local) && (p.line == (ts.head?.map (·.pos.line)).getD 0)
    | _ => false
/-- .. that it does not: a name is a cell, or no name -/
def swN (sc : Scope) (ts : List Expr) : Bool := ts.any fun t => match t with
  | .Name x p => !((sc.names.lookup x == some .local) && (p.line == (ts.head?.map (·.pos.line)).getD 0))
  | _ => true
def isLcI : IR → Bool
  | .lc .. => true
  | _ => false
def isHint : ST → Bool
  | .frzv _ => true
  | .frzvD _ => true
  | .wipe _ => true
  | .dropv _ => true
  | .frzF _ _ => true
  | _ => false
section
variable (N : List Str) (G : GN)
def ckS (sc : Scope) : ST → Stmt → Bool
  | .asg t e, s => match s with
    | .Assign [tg] v pos => ckG N true sc t tg && ckE N G sc e v && (match tg with
      | .Name y py => (match v with
        | .ListComp _ _ _ _ => isLcI e
        | v => !isComp v)
      | .Tuple es _ _ => !isComp v && ((!isTupE v || (!(es.length == 2) && !(es.length == 3))) || swN sc es)
      | _ => false)
    | _ => false
  | .par i j a b, s => match s with
    | .Assign [.Tuple [.Name x px, .Name y py] _ _] (.Tuple [l, r] _ _) _ => decide (N[i]? = some x) && decide (N[j]? = some y) && decide (i ≠ j) && decide (x ≠ y) && swB sc [.Name x px, .Name y py] [l, r] && ckE N G sc a l && ckE N G sc b r
    | _ => false
  | .par3 i j l a b c, s => match s with
    | .Assign [.Tuple [.Name x px, .Name y py, .Name z pz] _ _] (.Tuple [e1, e2, e3] _ _) _ => decide (N[i]? = some x) && decide (N[j]? = some y) && decide (N[l]? = some z) && decide (i ≠ j) && decide (i ≠ l) && decide (j ≠ l) && decide (x ≠ y) && decide (x ≠ z) && decide (y ≠ z) && swB sc [.Name x px, .Name y py, .Name z pz] [e1, e2, e3] && ckE N G sc a e1 && ckE N G sc b e2 && ckE N G sc c e3
    | _ => false
  | .sub o i e, s => match s with
    | .Assign [.Subscript x y _] v _ => ckE N G sc o x && ckE N G sc i y && ckE N G sc e v && !isSlice y
    | _ => false
  | .fld k o e, s => match s with
    | .Assign [.Attribute x f _] v _ => entFl f (G.at k) && ckE N G sc o x && ckE N G sc e v && !isComp v
    | _ => false
  | .aug i op e, s => match s with
    | .AugAssign (.Name x _) o v _ => decide (N[i]? = some x) && lfB true sc x && decide (op = o) && ckE N G sc e v
    | _ => false
  | .ex e, s => match s with
    | .Expr v _ => ckE N G sc e v && !isComp v
    | _ => false
  | .ife c a b, s => match s with
    | .If t x y _ => ckT N G sc c t && ckSs a x && ckSs b y
    | _ => false
  | .forS tg it _ b, s => match s with
    | .For t i x [] _ => ckG N true sc tg t && ckI N G sc it i t && !isSetD i && ckSs b x
    | _ => false
  | .whl c _ b, s => match s with
    | .While t x [] _ => ckT N G sc c t && ckSs b x
    | _ => false
  | .ret e, s => match s with
    | .Return (some v) _ => ckE N G sc e v
    | _ => false
  | .retN, s => match s with
    | .Return none _ => true
    | _ => false
  | .raise k e, s => match s with
    | .Raise (some (.Call (.Name x _) [v] [] _)) none _ => (match G.at k with
      | .er y => decide (x = y)
      | _ => false) && glB sc x && dbgB x && ckE N G sc e v && !isStar v
    | _ => false
  | .brk, s => match s with
    | .Break _ => true
    | _ => false
  | .cnt, s => match s with
    | .Continue _ => true
    | _ => false
  | .pass, s => match s with
    | .Pass _ => true
    | _ => false
  | _, _ => false
where
  ckSs : ST → List Stmt → Bool
  | .nil, ss => match ss with
    | [] => true
    | _ => false
  | .cons s r, ss => if isHint s then ckSs r ss else match ss with
    | x :: xs => ckS sc s x && ckSs r xs
    | [] => false
  | _, _ => false
end
end DL

/-! V8: what is reckoned of statements holds. -/
namespace DL
open PySem PySem.Spec PyProof.Rows L2
theorem any_star {vs : List Expr} (h : noStar vs = true) : (vs.any fun | .Starred .. => true | _ => false) = false := by
  induction vs with
  | nil => rfl
  | cons v r ih =>
    unfold noStar at h
    rw [List.all_cons, Bool.and_eq_true] at h
    rw [List.any_cons, ih h.2]
    cases v <;> first | rfl | exact nobool h.1
theorem sw_two {sc : Scope} {x y : Str} {px py pt pt2 : Pos} {a b : Expr} {kt k2 : Nat} {env : Env} (hs : env.scope = sc) (hn : x ≠ y) (h : swB sc [.Name x px, .Name y py] [a, b] = true) : swappedStores [.Tuple [.Name x px, .Name y py] kt pt] (.Tuple [a, b] k2 pt2) env = pure (some [x, y]) := by
  unfold swB at h
  simp only [Bool.and_eq_true, Bool.not_eq_true', List.all_cons, List.all_nil, Bool.and_true, beq_iff_eq] at h
  obtain ⟨⟨⟨⟨⟨h1, h2⟩, h3⟩, h4⟩, h5⟩, ⟨h6, h7⟩, h8, h9⟩ := h
  have e1 : (env.blockKind != .function) = false := by unfold Env.blockKind; rw [hs, h1]; rfl
  have e2 : env.kindOf x = some .local := by unfold Env.kindOf; rw [hs, h6]
  have e3 : env.kindOf y = some .local := by unfold Env.kindOf; rw [hs, h8]
  have h9' : py.line = px.line := h9
  have e4 : [x, y].eraseDups = [x, y] := by
    rw [List.eraseDups_cons]
    have : ([y].filter fun b => !b == x) = [y] := by
      rw [List.filter_cons, if_pos (by simpa using (Ne.symm hn))]; rfl
    rw [this, List.eraseDups_cons]
    rfl
  unfold swappedStores
  simp only [e1]
  rw [if_neg (by simp)]
  refine (if_neg (fun h' => Bool.false_ne_true ((any_star h2).symm.trans h'))).trans ?_
  have k7 : (px.line == (Option.map (fun x => x.pos.line) [Expr.Name x px, Expr.Name y py].head?).getD 0) = true := by simpa using h7
  have k9 : (py.line == (Option.map (fun x => x.pos.line) [Expr.Name x px, Expr.Name y py].head?).getD 0) = true := by simpa using h9
  have eb : ((some NameKind.local : Option NameKind) == some NameKind.local) = true := rfl
  simp only [List.filterMap_cons, List.filterMap_nil, e2, e3, k7, k9, eb, Bool.and_self, if_true, e4, List.all_cons, List.all_nil, Bool.and_true, h3, h4]
  rfl
theorem sw_three {sc : Scope} {x y z : Str} {px py pz pt pt2 : Pos} {a b c : Expr} {kt k2 : Nat} {env : Env} (hs : env.scope = sc) (hn : x ≠ y) (hn2 : x ≠ z) (hn3 : y ≠ z) (h : swB sc [.Name x px, .Name y py, .Name z pz] [a, b, c] = true) : swappedStores [.Tuple [.Name x px, .Name y py, .Name z pz] kt pt] (.Tuple [a, b, c] k2 pt2) env = pure (some [x, y, z]) := by
  unfold swB at h
  simp only [Bool.and_eq_true, Bool.not_eq_true', List.all_cons, List.all_nil, Bool.and_true, beq_iff_eq] at h
  obtain ⟨⟨⟨⟨⟨h1, h2⟩, h3⟩, h4⟩, h5⟩, ⟨h6, h7⟩, ⟨h8, h9⟩, h10, h11⟩ := h
  have e1 : (env.blockKind != .function) = false := by unfold Env.blockKind; rw [hs, h1]; rfl
  have e2 : env.kindOf x = some .local := by unfold Env.kindOf; rw [hs, h6]
  have e3 : env.kindOf y = some .local := by unfold Env.kindOf; rw [hs, h8]
  have e3' : env.kindOf z = some .local := by unfold Env.kindOf; rw [hs, h10]
  have e4 : [x, y, z].eraseDups = [x, y, z] := by
    rw [List.eraseDups_cons]
    have : ([y, z].filter fun b => !b == x) = [y, z] := by
      rw [List.filter_cons, if_pos (by simpa using (Ne.symm hn)), List.filter_cons, if_pos (by simpa using (Ne.symm hn2))]; rfl
    rw [this, List.eraseDups_cons]
    have : ([z].filter fun b => !b == y) = [z] := by
      rw [List.filter_cons, if_pos (by simpa using (Ne.symm hn3))]; rfl
    rw [this, List.eraseDups_cons]
    rfl
  unfold swappedStores
  simp only [e1]
  rw [if_neg (by simp)]
  refine (if_neg (fun h' => Bool.false_ne_true ((any_star h2).symm.trans h'))).trans ?_
  have k7 : (px.line == (Option.map (fun x => x.pos.line) [Expr.Name x px, Expr.Name y py, Expr.Name z pz].head?).getD 0) = true := by simpa using h7
  have k9 : (py.line == (Option.map (fun x => x.pos.line) [Expr.Name x px, Expr.Name y py, Expr.Name z pz].head?).getD 0) = true := by simpa using h9
  have k11 : (pz.line == (Option.map (fun x => x.pos.line) [Expr.Name x px, Expr.Name y py, Expr.Name z pz].head?).getD 0) = true := by simpa using h11
  have eb : ((some NameKind.local : Option NameKind) == some NameKind.local) = true := rfl
  simp only [List.filterMap_cons, List.filterMap_nil, e2, e3, e3', k7, k9, k11, eb, Bool.and_self, if_true, e4, List.all_cons, List.all_nil, Bool.and_true, h3, h4]
  rfl
theorem sw_none {ts : List Expr} {e : Expr} {kt : Nat} {pt : Pos} {env : Env} (h : (!isTupE e || (!(ts.length == 2) && !(ts.length == 3))) = true) : swappedStores [.Tuple ts kt pt] e env = pure none := by
  cases e with
  | Tuple vs k2 p2 =>
    have h : (false || (!(ts.length == 2) && !(ts.length == 3))) = true := h
    simp only [Bool.false_or, Bool.and_eq_true, Bool.not_eq_true'] at h
    unfold swappedStores
    simp only [h.1, h.2]
    rfl
  | _ => rfl
theorem fm_lt {α β : Type} {f : α → Option β} {l : List α} (h : ∃ t ∈ l, f t = none) : (l.filterMap f).length ≠ l.length := by
  have : (l.filterMap f).length < l.length := by
    induction l with
    | nil => obtain ⟨_, h, _⟩ := h; cases h
    | cons a r ih =>
      obtain ⟨t, ht, hn⟩ := h
      rw [List.filterMap_cons]
      rcases List.mem_cons.mp ht with rfl | ht
      · rw [hn]
        have := List.length_filterMap_le f r
        show (r.filterMap f).length < r.length + 1
        omega
      · have := ih ⟨t, ht, hn⟩
        cases f a with
        | none => show (r.filterMap f).length < r.length + 1; omega
        | some b => show (b :: r.filterMap f).length < r.length + 1; rw [List.length_cons]; omega
  omega
theorem sw_noneC {sc : Scope} {ts : List Expr} {e : Expr} {kt : Nat} {pt : Pos} {env : Env} (hs : env.scope = sc) (h : swN sc ts = true) : swappedStores [.Tuple ts kt pt] e env = pure none := by
  cases e with
  | Tuple vs k2 p2 =>
    unfold swN at h
    rw [List.any_eq_true] at h
    obtain ⟨t, ht, hn⟩ := h
    unfold swappedStores
    simp only []
    split
    · rfl
    · split
      · rfl
      · rw [if_pos]
        · rw [Bool.or_eq_true]
          refine .inl (bne_iff_ne.mpr (fm_lt ⟨t, ht, ?_⟩))
          cases t <;> first | rfl | skip
          rename_i x p
          have hn : (!((sc.names.lookup x == some .local) && (p.line == (ts.head?.map (·.pos.line)).getD 0))) = true := hn
          rw [Bool.not_eq_true'] at hn
          show (if (env.kindOf x == some .local && p.line == (ts.head?.map (·.pos.line)).getD 0) = true then some x else none) = none
          rw [if_neg]
          unfold Env.kindOf
          rw [hs, hn]
          exact Bool.false_ne_true
  | _ => rfl
/-! ### slots forgotten -/
def Wk (es ds : DEnv) : Prop := es.length = ds.length ∧ ∀ (i : Nat) (d : D), es[i]? = some (some d) → ds[i]? = some (some d)
theorem Wk.refl (ds : DEnv) : Wk ds ds := ⟨rfl, fun _ _ e => e⟩
theorem Wk.trans {a b c : DEnv} (h : Wk a b) (g : Wk b c) : Wk a c := ⟨h.1.trans g.1, fun i d e => g.2 i d (h.2 i d e)⟩
def wkX (E : DEnv → MS → Prop) : DEnv → MS → Prop := fun ds ms => ∃ es, Wk es ds ∧ E es ms
section
variable {X : Cx} {xw : DX} {N : List Str} {k : Nat} {ds : DEnv} {ms : MS} {kd : DK} {kb : KB} {sc : Scope} {G : GE} {E : DEnds}
theorem VCe.wk {K : PySem.W.Frag} {F : Hp} {ke : DEnv → MS → Prop} {Q : L2.St → Hp → Prop} (h : VCe K F ke Q) : VCe K F (wkX ke) Q := fun F' ds' σ' ms' H' e sr S ⟨es, w, q⟩ => h F' es σ' ms' H' e (sr.forget w.1 w.2) S q
theorem ds_wk {st : Stmt} (h : DS X xw st ds ms { nx := wkX E.nx, rt := E.rt, bk := wkX E.bk, ct := wkX E.ct }) : DS X xw st ds ms E := fun F σ H D W A V => h F σ H D W A ⟨V.nx.wk, V.rt, V.bk.wk, V.ct.wk⟩
theorem ds_env {st : Stmt} {ds' : DEnv} (w : Wk ds' ds) (h : DS X xw st ds' ms E) : DS X xw st ds ms E := fun F σ H D W A V => h F σ H D W ⟨A.sr.forget w.1 w.2, A.sep, A.tk, A.xc⟩ V
theorem dg_env {sl : List Nat} {tg : Expr} {d : D} {ds' : DEnv} {ke : DEnv → MS → Prop} (w : Wk ds' ds) (h : DG X xw sl tg d ds' ms ke) : DG X xw sl tg d ds ms ke := fun F σ H v Q W A r V => h F σ H v Q W ⟨A.sr.forget w.1 w.2, A.sep, A.tk, A.xc⟩ r V
theorem dt_env {e : Expr} {ds' : DEnv} (w : Wk ds' ds) (h : DT X xw e ds' ms kb) : DT X xw e ds ms kb := fun F σ H Q W A V => h F σ H Q W ⟨A.sr.forget w.1 w.2, A.sep, A.tk, A.xc⟩ V
theorem DS.imp {st : Stmt} {E' : DEnds} (h : DS X xw st ds ms E') (hn : ∀ ds ms, E'.nx ds ms → E.nx ds ms) (hr : ∀ d ms, E'.rt d ms → E.rt d ms) (hb : ∀ ds ms, E'.bk ds ms → E.bk ds ms) (hc : ∀ ds ms, E'.ct ds ms → E.ct ds ms) : DS X xw st ds ms E :=
  fun F σ H D W A V => h F σ H D W A ⟨fun F' a b c d e f g i => V.nx F' a b c d e f g (hn _ _ i), fun F' a b c d e f g i => V.rt F' a b c d e f g (hr _ _ i), fun F' a b c d e f g i => V.bk F' a b c d e f g (hb _ _ i), fun F' a b c d e f g i => V.ct F' a b c d e f g (hc _ _ i)⟩
theorem DSs.imp {st : List Stmt} {E' : DEnds} (h : DSs X xw st ds ms E') (hn : ∀ ds ms, E'.nx ds ms → E.nx ds ms) (hr : ∀ d ms, E'.rt d ms → E.rt d ms) (hb : ∀ ds ms, E'.bk ds ms → E.bk ds ms) (hc : ∀ ds ms, E'.ct ds ms → E.ct ds ms) : DSs X xw st ds ms E :=
  fun F σ H D W A V => h F σ H D W A ⟨fun F' a b c d e f g i => V.nx F' a b c d e f g (hn _ _ i), fun F' a b c d e f g i => V.rt F' a b c d e f g (hr _ _ i), fun F' a b c d e f g i => V.bk F' a b c d e f g (hb _ _ i), fun F' a b c d e f g i => V.ct F' a b c d e f g (hc _ _ i)⟩
theorem DG.imp {sl : List Nat} {tg : Expr} {d : D} {ke ke' : DEnv → MS → Prop} (h : DG X xw sl tg d ds ms ke') (i : ∀ ds ms, ke' ds ms → ke ds ms) : DG X xw sl tg d ds ms ke :=
  fun F σ H v Q W A r V => h F σ H v Q W A r fun F' ds' σ' ms' H' e a sr S q => V F' ds' σ' ms' H' e a sr S (i _ _ q)
theorem wipeK_wk {is : List Nat} {P : DEnv → Prop} (h : wipeK is ds P) : ∃ es, Wk es ds ∧ P es := by
  obtain ⟨es, h1, h2, h3⟩ := wipeK_at h
  exact ⟨es, ⟨h1, h2⟩, h3⟩
/-! ### freezing, dropping -/
theorem dss_freeze {st : List Stmt} {p : Addr} {i j : Nat} {xs : List D} {ms1 : MS} (hi : ds[i]? = some (some (.adr p))) (hm : Ms ms j p (.lst xs)) (hd : MDel ms j ms1) (h : DSs X xw st (ds.set i (some (.lst xs))) ms1 E) : DSs X xw st ds ms E := by
  intro F σ H D W A V
  obtain ⟨u, l, S2, r⟩ := A.sep.freeze hm.at
  obtain ⟨v, h1, h2⟩ := A.sr.at_ i _ hi
  have h2' : v = .ref p := h2
  subst h2'
  have e : σ = σ.set i (some (.ref p)) := by
    apply List.ext_getElem?
    intro n
    rw [List.getElem?_set]
    split
    · next e => subst e; rw [h1]; have := (List.getElem?_eq_some_iff.mp h1).1; simp [this]
    · rfl
  refine h (upd F p u) σ H D W ⟨?_, by rw [hd.eq]; exact S2, A.tk, A.xc.mono l⟩ (V.mono l)
  rw [e]
  exact (A.sr.mono l).set i (frz_rep (o := .lst xs) upd_same (r.mono l) rfl)
theorem dss_freezeD {st : List Stmt} {p : Addr} {i j : Nat} {xs : List (Key × D)} {ms1 : MS} (hi : ds[i]? = some (some (.adr p))) (hm : Ms ms j p (.dic xs)) (hd : MDel ms j ms1) (h : DSs X xw st (ds.set i (some (.dic xs))) ms1 E) : DSs X xw st ds ms E := by
  intro F σ H D W A V pins s I
  obtain ⟨kvs, hu, g⟩ := A.sep.freezeD hm.at
  obtain ⟨od, I2⟩ := I.lock hu trivial
  obtain ⟨l, S2, r⟩ := g od
  obtain ⟨v, h1, h2⟩ := A.sr.at_ i _ hi
  have h2' : v = .ref p := h2
  subst h2'
  have e : σ = σ.set i (some (.ref p)) := by
    apply List.ext_getElem?
    intro n
    rw [List.getElem?_set]
    split
    · next e => subst e; rw [h1]; have := (List.getElem?_eq_some_iff.mp h1).1; simp [this]
    · rfl
  refine h _ σ _ D W ⟨?_, by rw [hd.eq]; exact S2, A.tk, A.xc.mono l⟩ (V.mono l) pins s I2
  rw [e]
  exact (A.sr.mono l).set i r
theorem putF_same {f : Str} {v : V} : ∀ {fs : List (Str × V)}, fs.lookup f = some v → putF f v fs = fs
  | [], h => by cases h
  | (g, x) :: r, h => by
    rw [List.lookup_cons] at h
    unfold putF
    by_cases e : g = f
    · subst e
      rw [if_pos rfl]
      rw [beq_self_eq_true] at h
      cases h
      rfl
    · rw [if_neg e]
      have : (f == g) = false := by
        rw [Bool.eq_false_iff]
        exact fun z => e (beq_iff_eq.mp z).symm
      rw [this] at h
      rw [putF_same h]
theorem upd_id {H : Hp} {p : Addr} {u : HO} (h : H p = some u) : upd H p u = H := by
  funext a
  by_cases e : a = p
  · subst e; rw [upd_same, h]
  · rw [upd_ne e]
theorem Sep.retell {K : PySem.W.Frag} {F H : Hp} {ms ms' : MS} {p q : Addr} {i : Nat} {C : Addr} {fs : List (Str × D)} {f : Str} {x : D} (S : Sep K F ms H) (hm : ms[i]? = some (p, .ins C fs)) (hl : ∀ us, RepF K F fs us → us.lookup f = some (.ref q)) (r : Rep K F x (.ref q)) (hp : MPut ms i (.ins C (putFD f x fs)) ms') : Sep K F ms' H := by
  obtain ⟨_, u, h1, dx, us, rfl, h2⟩ := S.get hm
  obtain ⟨a, ob, h3, rfl⟩ := hp.eq
  rw [hm] at h3
  cases h3
  have := S.set (o' := .ins C (putFD f x fs)) (u' := .ins C dx us) hm ⟨dx, us, rfl, by
    have e := h2.put (f := f) r
    rw [putF_same (hl us h2)] at e
    exact e⟩
  rw [upd_id h1] at this
  exact this
theorem dss_freezeF {st : List Stmt} {i : Nat} {f : Str} {d : D} {P : MS → Prop} (hi : ds[i]? = some (some d)) (h : vFrzF f d ms P) (g : ∀ ms1, P ms1 → DSs X xw st ds ms1 E) : DSs X xw st ds ms E := by
  intro F σ H D W A V pins s I
  cases d <;> first | exact False.elim h | skip
  rename_i p
  obtain ⟨q, j, C, fs, l, o, ms1, m, hj, hf, hl, hc, hd, hm, hk⟩ := h
  obtain ⟨ms2, hp, hk2⟩ := msetK_at hk
  have hlk : ∀ us, RepF X.K F fs us → us.lookup f = some (.ref q) := fun us r => by
    obtain ⟨v, h1, h2⟩ := r.look.1 _ hf
    have h2' : v = .ref q := h2
    rw [h1, h2']
  have both : ∀ {F2 : Hp} {us : List (Str × L2.V)}, RepF X.K F2 fs us → us.lookup f = some (.ref q) := fun {F2 us} r => by
    obtain ⟨v, h1, h2⟩ := r.look.1 _ hf
    have h2' : v = .ref q := h2
    rw [h1, h2']
  by_cases hdic : ∃ kvs, o = .dic kvs
  · obtain ⟨kvs, rfl⟩ := hdic
    obtain ⟨us, hu, gg⟩ := A.sep.freezeD hl.at
    obtain ⟨od, I2⟩ := I.lock hu trivial
    obtain ⟨le, S2, r⟩ := gg od
    rw [← hd.eq] at S2
    exact g ms2 hk2 _ σ _ D W ⟨A.sr.mono le, S2.retell hm.at (fun us r => both r) r hp, A.tk, A.xc.mono le⟩ (V.mono le) pins s I2
  · have hc' : canFrz o = true ∧ frF o = frz o := by
      cases o <;> first | exact ⟨hc, rfl⟩ | exact absurd ⟨_, rfl⟩ hdic
    obtain ⟨u, le, S2, r⟩ := A.sep.freeze hl.at
    rw [← hd.eq] at S2
    rw [hc'.2] at hp
    exact g ms2 hk2 _ σ _ D W ⟨A.sr.mono le, S2.retell hm.at (fun us r => both r) (frz_rep upd_same (r.mono le) hc'.1) hp, A.tk, A.xc.mono le⟩ (V.mono le) pins s I
theorem dss_drop {st : List Stmt} {j : Nat} {ms1 : MS} (hd : MDel ms j ms1) (h : DSs X xw st ds ms1 E) : DSs X xw st ds ms E := dss_st (MLe.del hd) h
/-! ### stores, operators in place -/
theorem vSt_ok (C : Ctx X N k) {o i v : D} {km : MS → Prop} (h : vSt o i v ms km) : StD X o i v ms km := by
  cases o <;> first | exact False.elim h | skip
  obtain ⟨j, ob, hm, h⟩ := h
  cases ob <;> first | exact False.elim h | skip
  · cases i <;> first | exact False.elim h | skip
    obtain ⟨m, hj, h⟩ := h
    obtain ⟨ms', hp, h⟩ := msetK_at h
    exact std_list hm hj hp h
  · obtain ⟨ky, ey, hl, h⟩ := keyK_at h
    obtain ⟨ms', hp, h⟩ := msetK_at h
    exact std_dic C hm ey hl hp h
theorem opd_idiv {i j : Int} (hc : CDivW i j) (q : kd (.int (i / j)) ms) : OpD X (inplaceOp .FloorDiv) (.int i) (.int j) ms kd := .of iop_fdivW fun F v u H Q rv ru S V => ⟨i, j, rv, ru, hc, V.val (d := .int _) S rfl q⟩
theorem vAug_ok {op : Operator} {x y : D} (h : vAug op x y ms kd) : OpD X (inplaceOp op) x y ms kd := by
  cases x <;> first | exact False.elim h | skip
  cases y <;> first | exact False.elim h | skip
  cases op <;> first | exact False.elim h | skip
  · exact opd_iadd h
  · exact opd_isub h
  · exact opd_imul h.1 h.2
  · exact opd_idiv h.1 h.2
theorem ds_par3 (C : Ctx X N k) {x y z : Str} {i j l : Nat} {a b c : Expr} {px py pz pt pos : Pos} {kt k2 pt2} (hi : N[i]? = some x) (hj : N[j]? = some y) (hl : N[l]? = some z) (hij : i ≠ j) (hil : i ≠ l) (hjl : j ≠ l)
    (h : DA X xw [a, b, c] ds ms fun vs ms1 => ∃ u v w, vs = [u, v, w] ∧ E.nx (((ds.set i (some u)).set j (some v)).set l (some w)) ms1)
    (hx : X.env.scope.names.lookup x = some .local) (hy : X.env.scope.names.lookup y = some .local) (hz : X.env.scope.names.lookup z = some .local)
    (hw : swappedStores [.Tuple [.Name x px, .Name y py, .Name z pz] kt pt] (.Tuple [a, b, c] k2 pt2) X.env = pure (some [x, y, z]))
    (hs : swapsWithSole [.Tuple [.Name x px, .Name y py, .Name z pz] kt pt] (.Tuple [a, b, c] k2 pt2) pos.line X.env = pure false) :
    DS X xw (.Assign [.Tuple [.Name x px, .Name y py, .Name z pz] kt pt] (.Tuple [a, b, c] k2 pt2) pos) ds ms E :=
  .of (ps_par3 C.calm C.ndX (by rw [C.names]; exact hi) (by rw [C.names]; exact hj) (by rw [C.names]; exact hl) hij hil hjl hx hy hz pa_w hw hs) fun F σ H D W A V => h F σ H _ W A fun F1 vs d ms1 H1 e1 r1 S1 ⟨u, v, w, e, q⟩ => by
    subst e
    obtain ⟨u', r, e2, g1, r2⟩ := r1
    obtain ⟨v', w', rfl, g2, g3⟩ := r2.inv2
    subst e2
    exact ⟨u', v', w', rfl, V.nx F1 _ _ ms1 H1 e1 ((((A.sr.mono e1).set i g1).set j g2).set l g3) S1 q⟩
end
end DL

/-! V9: what is reckoned of a def's body holds. -/
namespace DL
open PySem PySem.Spec PyProof.Rows L2
abbrev Own (X : Cx) : Prop := PassesOwn (model X.prog X.w) X.A X.env X.xe ∧ ∀ x, X.fn x = true
structure SS (N : List Str) (G : GE) (r : ST) : Prop where
  S : ∀ {X : Cx} {k : Nat} {sc : Scope} (_ : VX X N k sc G) (_ : Own X) {xw : DX} {s : Stmt} {ds : DEnv} {ms : MS} {E : DEnds}, ckS N (gn G) sc r s = true → vS G xw r ds ms E → DS X xw s ds ms E
  L : ∀ {X : Cx} {k : Nat} {sc : Scope} (_ : VX X N k sc G) (_ : Own X) {xw : DX} {ss : List Stmt} {ds : DEnv} {ms : MS} {E : DEnds}, ckS.ckSs N (gn G) sc r ss = true → vS G xw r ds ms E → DSs X xw ss ds ms E
  H : ∀ {X : Cx} {k : Nat} {sc : Scope} (_ : VX X N k sc G) {xw : DX} {ss : List Stmt} {ds : DEnv} {ms : MS} {E : DEnds} {P : DEnv → MS → Prop}, isHint r = true → vS G xw r ds ms { E with nx := P } → (∀ ds1 ms1, P ds1 ms1 → DSs X xw ss ds1 ms1 E) → DSs X xw ss ds ms E
theorem dss_wk {X : Cx} {xw : DX} {st : List Stmt} {ds ds' : DEnv} {ms : MS} {E : DEnds} (w : Wk ds' ds) (h : DSs X xw st ds' ms E) : DSs X xw st ds ms E := dss_env w.1 w.2 h
theorem LcT.imp {X : Cx} {scope : Scope} {own : List (Str × Nat)} {tg elt : Expr} {ifs : List Expr} {ds : DEnv} {xs : List D} {keep : MS → Prop} {ms : MS} {fin fin' : List D → MS → Prop} (h : LcT X scope own tg elt ifs ds xs keep ms fin') (i : ∀ acc ms, fin' acc ms → fin acc ms) : LcT X scope own tg elt ifs ds xs keep ms fin := by
  obtain ⟨sl, I, h1, h2, h3, h4, h5⟩ := h
  exact ⟨sl, I, h1, h2, h3, h4, fun acc ms' q => i _ _ (h5 acc ms' q)⟩
section
variable {N : List Str} {G : GE}
theorem lcI_ok {e : IR} (h : isLcI e = true) : ∃ m elt tg it ifs own, e = .lc m elt tg it ifs own := by
  cases e <;> first | exact nobool h | exact ⟨_, _, _, _, _, _, rfl⟩
theorem lc_fact {X : Cx} {k : Nat} {sc : Scope} (V : VX X N k sc G) {xw : DX} {ds : DEnv} {ms : MS} {kd : DK} {m : Bool} {elt it ifs : IR} {tg : TGt} {own : List (Str × Nat)} {x : Expr} {gens : List Comprehension} {scope : Scope} {pos : Pos}
    (h : ckE N (gn G) sc (.lc m elt tg it ifs own) (.ListComp x gens scope pos) = true) (q : vE G xw (.lc m elt tg it ifs own) ds ms kd) : ∃ t i cs, gens = [⟨t, i, cs, 0⟩] ∧ blkC N sc scope own = true ∧ isSetD i = false ∧
      DIt X xw t i ds ms fun xs keep ms1 => LcT X scope own t x cs ds xs keep ms1 (lcFin m kd) := by
  unfold ckE at h
  split at h
  · rename_i x2 t i cs z scope2 pos2 e2
    cases e2
    simp only [Bool.and_eq_true, decide_eq_true_eq, Bool.not_eq_true', List.all_eq_true] at h
    obtain ⟨⟨⟨⟨⟨⟨⟨rfl, h1⟩, h2⟩, h3⟩, h4⟩, h5⟩, h6⟩, h7⟩ := h
    exact ⟨t, i, cs, rfl, h1, h5, ((se_all it).I V h4 q).imp fun xs keep ms1 q => lct_v (X := X) (scope := scope) (own := own) (tg := t) (elt := x) (ifs := cs) h2
      (fun s H C cl fp d ds ms K g => (sG (V.blk s H scope C cl fp) (fun h => absurd h Bool.false_ne_true)).1 tg h3 g) (fun s H C cl fp ds ms kb g => (se_all ifs).F (V.blk s H scope C cl fp) h6 g) (fun s H C cl fp ds ms kd g => (se_all elt).E (V.blk s H scope C cl fp) h7 g) q⟩
  · exact nobool h
theorem ss_nil  : SS N G .nil where
  S := fun _ _ => fun h q => nobool h
  L := fun {X k sc} V o {xw ss ds ms E} h q => by
    cases ss with
    | nil => exact dss_nil q
    | cons _ _ => exact nobool h
  H := fun _ => fun h q i => nobool h

theorem ss_cons {s r : ST} (hs : SS N G s) (hr : SS N G r) : SS N G (.cons s r) where
  S := fun _ _ => fun h q => nobool h
  L := fun {X k sc} V o {xw ss ds ms E} h q => by
    unfold ckS.ckSs at h
    have q : vS G xw s ds ms { E with nx := fun ds1 ms1 => vS G xw r ds1 ms1 E } := q
    by_cases hh : isHint s = true
    · rw [if_pos hh] at h
      exact hs.H V hh q fun ds1 ms1 q1 => hr.L V o h q1
    · rw [if_neg hh] at h
      cases ss with
      | nil => exact nobool h
      | cons x xs =>
        have h : (ckS N (gn G) sc s x && ckS.ckSs N (gn G) sc r xs) = true := h
        rw [Bool.and_eq_true] at h
        exact dss_cons ((hs.S V o h.1 q).imp (fun ds1 ms1 q1 => hr.L V o h.2 q1) (fun _ _ q => q) (fun _ _ q => q) (fun _ _ q => q))
  H := fun _ => fun h q i => nobool h

theorem ss_asg {t : TGt} {e : IR} : SS N G (.asg t e) where
  S := fun {X k sc} V o {xw s ds ms E} h q => by
    cases s <;> first | exact nobool h | skip
    rename_i tgs v pos
    match tgs, h with
    | [], h => exact nobool h
    | _ :: _ :: _, h => exact nobool h
    | [tg], h =>
      simp only [ckS, Bool.and_eq_true] at h
      obtain ⟨⟨h1, h2⟩, h3⟩ := h
      have q : vE G xw e ds ms fun d ms1 => vG t d ds fun ds' => E.nx ds' ms1 := q
      cases tg <;> first | exact nobool h3 | skip
      · rename_i y py
        match t, h1, q with
        | .nil, h1, _ => exact nobool h1
        | .cons _ _, h1, _ => exact nobool h1
        | .tup _, h1, _ => exact nobool h1
        | .nm i, h1, q =>
          have h1 : (decide (N[i]? = some y) && lfB true sc y) = true := h1
          simp only [Bool.and_eq_true, decide_eq_true_eq] at h1
          obtain ⟨g1, g2⟩ := lfB_ok V (fun _ => o.2) h1.2
          have q : vE G xw e ds ms fun d ms1 => setK ds i (some d) fun ds' => E.nx ds' ms1 := q
          have pt : ∀ (d : D) (ms1 : MS), (setK ds i (some d) fun ds' => E.nx ds' ms1) → ∃ ds', Put ds i (some d) ds' ∧ E.nx ds' ms1 := fun d ms1 q => by
            obtain ⟨l, q⟩ := setK_at q
            exact ⟨_, put_set l, q⟩
          by_cases hc : isComp v = true
          · cases v <;> first | exact nobool hc | exact nobool h3 | skip
            rename_i elt gens scope pv
            have h3 : isLcI e = true := h3
            obtain ⟨m, elt2, tg2, it2, ifs2, own2, rfl⟩ := lcI_ok h3
            obtain ⟨t, it, cs, rfl, b1, b2, dit⟩ := lc_fact V h2 q
            have esw : swapsWith (.ListComp elt [⟨t, it, cs, 0⟩] scope pv) (some (.Name y py)) pos.line X.env = pure (swLc X.env.scope scope y py pv) := rfl
            cases hw : swLc X.env.scope scope y py pv with
            | true =>
              rw [hw] at esw
              have hl : X.env.scope.names.lookup y = some .local := by
                unfold swLc at hw
                simp only [Bool.and_eq_true, beq_iff_eq] at hw
                exact hw.1.1.2
              cases m with
              | true => exact ds_setLcM V.c own2 (ix_of h1.1) hl V.sc b1 (dit.imp fun xs keep ms1 l => l.imp fun acc ms2 q L => pt _ _ (q L)) esw (folded_ok b2)
              | false => exact ds_setLc V.c own2 (ix_of h1.1) hl V.sc b1 (dit.imp fun xs keep ms1 l => l.imp fun acc ms2 q => pt _ _ q) esw (folded_ok b2)
            | false =>
              rw [hw] at esw
              exact ds_set V.c (ix_of h1.1) (((se_all _).E V h2 q).imp fun d ms1 q => pt d ms1 q) g1 esw g2
          · have hc : isComp v = false := by simpa using hc
            exact ds_set V.c (ix_of h1.1) (((se_all e).E V h2 q).imp fun d ms1 q => pt d ms1 q) g1 (swaps_no hc) g2
      · rename_i es kt pt
        have h3 : (!isComp v && ((!isTupE v || (!(es.length == 2) && !(es.length == 3))) || swN sc es)) = true := h3
        rw [Bool.and_eq_true, Bool.or_eq_true] at h3
        have hsw : swappedStores [.Tuple es kt pt] v X.env = pure none := h3.2.elim sw_none (sw_noneC V.sc)
        exact ds_asg (((se_all e).E V h2 q).imp fun d ms1 q => ((sG V (fun _ => o.2)).1 t h1 q).imp fun ds2 ms2 ⟨em, q⟩ => by subst em; exact q) (by show swapsWith v (some (.Tuple es kt pt)) pos.line X.env = pure false; exact swaps_no (by simpa using h3.1)) hsw rfl
  L := fun _ _ => fun h q => nobool h
  H := fun _ => fun h q i => nobool h

theorem ss_par {i j : Nat} {a b : IR} : SS N G (.par i j a b) where
  S := fun {X k sc} V o {xw s ds ms E} h q => by
    unfold ckS at h
    split at h
    · rename_i x px y py kt pt l r k2 p2 pos
      simp only [Bool.and_eq_true, decide_eq_true_eq] at h
      obtain ⟨⟨⟨⟨⟨⟨h1, h2⟩, h3⟩, h4⟩, h5⟩, h6⟩, h7⟩ := h
      have q : vE G xw a ds ms fun x ms1 => vE G xw b ds ms1 fun y ms2 => setK ds i (some x) fun ds1 => setK ds1 j (some y) fun ds2 => E.nx ds2 ms2 := q
      have h5' := h5
      unfold swB at h5'
      simp only [Bool.and_eq_true, Bool.not_eq_true', List.all_cons, List.all_nil, Bool.and_true, beq_iff_eq] at h5'
      obtain ⟨⟨⟨⟨⟨k1, k2⟩, k3⟩, k4⟩, k5⟩, ⟨k6, k7⟩, k8, k9⟩ := h5'
      have n : (!isStar l && (!isStar r && true)) = true := k2
      simp only [Bool.and_eq_true, Bool.not_eq_true', Bool.and_true] at n
      rw [← V.sc] at k6 k8
      refine ds_par V.c (ix_of h1) (ix_of h2) (da_cons (((se_all a).E V h6 q).imp fun x ms1 q => da_cons (((se_all b).E V h7 q).imp fun y ms2 q => da_nil ?_) (star_no n.2)) (star_no n.1)) h3 k6 k8 (sw_two V.sc h4 h5) rfl
      obtain ⟨l1, q⟩ := setK_at q
      obtain ⟨l2, q⟩ := setK_at q
      exact ⟨_, _, _, _, rfl, put_set l1, put_set l2, q⟩
    · exact nobool h
  L := fun _ _ => fun h q => nobool h
  H := fun _ => fun h q i => nobool h

theorem ss_par3 {i j l : Nat} {a b c : IR} : SS N G (.par3 i j l a b c) where
  S := fun {X k sc} V o {xw s ds ms E} h q => by
    unfold ckS at h
    split at h
    · rename_i x px y py z pz kt pt e1 e2 e3 k2 p2 pos
      simp only [Bool.and_eq_true, decide_eq_true_eq] at h
      obtain ⟨⟨⟨⟨⟨⟨⟨⟨⟨⟨⟨⟨h1, h2⟩, h3⟩, h4⟩, h5⟩, h6⟩, h7⟩, h8⟩, h9⟩, h10⟩, h11⟩, h12⟩, h13⟩ := h
      have q : vE G xw a ds ms fun x ms1 => vE G xw b ds ms1 fun y ms2 => vE G xw c ds ms2 fun z ms3 => setK ds i (some x) fun ds1 => setK ds1 j (some y) fun ds2 => setK ds2 l (some z) fun ds3 => E.nx ds3 ms3 := q
      have h5' := h10
      unfold swB at h5'
      simp only [Bool.and_eq_true, Bool.not_eq_true', List.all_cons, List.all_nil, Bool.and_true, beq_iff_eq] at h5'
      obtain ⟨⟨⟨⟨⟨k1, k2⟩, k3⟩, k4⟩, k5⟩, ⟨k6, k7⟩, ⟨k8, k9⟩, k10, k11⟩ := h5'
      have n : (!isStar e1 && (!isStar e2 && (!isStar e3 && true))) = true := k2
      simp only [Bool.and_eq_true, Bool.not_eq_true', Bool.and_true] at n
      rw [← V.sc] at k6 k8 k10
      refine ds_par3 V.c h1 h2 h3 h4 h5 h6 (da_cons (((se_all a).E V h11 q).imp fun x ms1 q => da_cons (((se_all b).E V h12 q).imp fun y ms2 q => da_cons (((se_all c).E V h13 q).imp fun z ms3 q => da_nil ?_) (star_no n.2.2)) (star_no n.2.1)) (star_no n.1)) k6 k8 k10 (sw_three V.sc h7 h8 h9 h10) rfl
      obtain ⟨l1, q⟩ := setK_at q
      obtain ⟨l2, q⟩ := setK_at q
      obtain ⟨l3, q⟩ := setK_at q
      exact ⟨_, _, _, rfl, q⟩
    · exact nobool h
  L := fun _ _ => fun h q => nobool h
  H := fun _ => fun h q i => nobool h

theorem ss_sub {o i e : IR} : SS N G (.sub o i e) where
  S := fun {X k sc} V ow {xw s ds ms E} h q => by
    unfold ckS at h
    split at h
    · rename_i x y p v pos
      simp only [Bool.and_eq_true, Bool.not_eq_true'] at h
      obtain ⟨⟨⟨h1, h2⟩, h3⟩, h4⟩ := h
      have q : vE G xw e ds ms fun v ms1 => vE G xw o ds ms1 fun x ms2 => vE G xw i ds ms2 fun y ms3 => vSt x y v ms3 fun ms4 => E.nx ds ms4 := q
      refine ds_asg (sl := []) (((se_all e).E V h3 q).imp fun d ms1 q => dg_sub (((se_all o).E V h1 q).imp fun x ms2 q => ((se_all i).E V h2 q).imp fun y ms3 q => vSt_ok V.c q) ?_) ?_ rfl rfl
      · intro v
        cases y <;> first | rfl | exact nobool h4.symm
      · show swapsWith v (some (.Subscript x y p)) pos.line X.env = pure false
        cases v <;> rfl
    · exact nobool h
  L := fun _ _ => fun h q => nobool h
  H := fun _ => fun h q i => nobool h

theorem ss_aug {i : Nat} {op : Operator} {e : IR} : SS N G (.aug i op e) where
  S := fun {X k sc} V ow {xw s ds ms E} h q => by
    unfold ckS at h
    split at h
    · rename_i x p o v pos
      simp only [Bool.and_eq_true, decide_eq_true_eq] at h
      obtain ⟨⟨⟨h1, h2⟩, rfl⟩, h4⟩ := h
      obtain ⟨g1, g2⟩ := lfB_ok V (fun _ => ow.2) h2
      obtain ⟨d, hd, q⟩ := getK_at (show getK ds i fun x => vE G xw e ds ms fun y ms1 => vAug op x y ms1 fun z ms2 => setK ds i (some z) fun ds' => E.nx ds' ms2 from q)
      refine ds_aug V.c (nm_of h1 hd) (((se_all e).E V h4 q).imp fun y ms1 q => OpD.imp (vAug_ok q) fun z ms2 q => ?_) g1 g2
      obtain ⟨l, q⟩ := setK_at q
      exact ⟨_, put_set l, q⟩
    · exact nobool h
  L := fun _ _ => fun h q => nobool h
  H := fun _ => fun h q i => nobool h

theorem ss_ex {e : IR} : SS N G (.ex e) where
  S := fun {X k sc} V o {xw s ds ms E} h q => by
    cases s <;> first | exact nobool h | skip
    rename_i v pos
    have h : (ckE N (gn G) sc e v && !isComp v) = true := h
    simp only [Bool.and_eq_true, Bool.not_eq_true'] at h
    exact ds_expr (((se_all e).E V h.1 q).imp fun _ ms1 q => q) (swaps_no h.2)
  L := fun _ _ => fun h q => nobool h
  H := fun _ => fun h q i => nobool h

theorem ss_ife {c : IR} {a b : ST} (ha : SS N G a) (hb : SS N G b) : SS N G (.ife c a b) where
  S := fun {X k sc} V o {xw s ds ms E} h q => by
    cases s <;> first | exact nobool h | skip
    rename_i t x y pos
    have h : (ckT N (gn G) sc c t && ckS.ckSs N (gn G) sc a x && ckS.ckSs N (gn G) sc b y) = true := h
    simp only [Bool.and_eq_true] at h
    refine ds_if (((se_all c).T V h.1.1 q).imp fun t ms1 q => ?_)
    obtain ⟨q1, q0⟩ := vIf_and q
    exact ⟨fun ht => ha.L V o h.1.2 (q1 ht), fun ht => hb.L V o h.2 (q0 ht)⟩
  L := fun _ _ => fun h q => nobool h
  H := fun _ => fun h q i => nobool h

theorem ss_forS {tg : TGt} {it : IR} {w : List Nat} {b : ST} (hb : SS N G b) : SS N G (.forS tg it w b) where
  S := fun {X k sc} V o {xw s ds ms E} h q => by
    unfold ckS at h
    split at h
    · rename_i t i x pos
      simp only [Bool.and_eq_true, Bool.not_eq_true'] at h
      obtain ⟨⟨⟨h1, h2⟩, h3⟩, h4⟩ := h
      have q : vI G xw it ds ms fun xs keep ms1 => wipeK w ds fun ds1 => vForL w keep (fun d ds k => vG tg d ds k) (fun ds ms E => vS G xw b ds ms E) E xs ds1 ms1 := q
      refine ds_wk (ds_for (sl := tgSl tg) V.c o.1 (((se_all it).I V h2 q).imp fun xs keep ms1 q => ?_) (folded_ok h3))
      obtain ⟨es0, w0, q⟩ := wipeK_wk q
      refine ⟨fun n ds' ms' => ∃ es, Wk es ds' ∧ vForL w keep (fun d ds k => vG tg d ds k) (fun ds ms E => vS G xw b ds ms E) E (xs.drop n) es ms', ⟨es0, w0, q⟩, fun n ds' ms' _ ⟨es, w1, q⟩ => ?_, fun n x ds' ms' hx ⟨es, w1, q⟩ => ?_, fun ds' ms' ⟨es, w1, q⟩ => ?_⟩
      · revert q
        cases xs.drop n with
        | nil => exact fun q => q.1
        | cons _ _ => exact fun q => q.1
      · have hi : n < xs.length := (List.getElem?_eq_some_iff.mp hx).1
        have ed : xs.drop n = x :: xs.drop (n + 1) := by
          rw [List.drop_eq_getElem_cons hi]
          rw [List.getElem?_eq_getElem hi] at hx
          cases hx; rfl
        rw [ed] at q
        refine dg_env w1 (((sG V (fun _ => o.2)).1 tg h1 q.2).imp fun ds2 ms2 ⟨em, q2⟩ => ?_)
        subst em
        refine (hb.L V o h4 q2).imp (fun ds3 ms3 q3 => ?_) (fun _ _ q => q) (fun ds3 ms3 q3 => ⟨ds3, Wk.refl _, q3⟩) (fun ds3 ms3 q3 => ?_)
        · obtain ⟨es4, w4, q4⟩ := wipeK_wk q3
          exact ⟨ms3, MLe.refl _ _, es4, w4, q4⟩
        · obtain ⟨es4, w4, q4⟩ := wipeK_wk q3
          exact ⟨ms3, MLe.refl _ _, es4, w4, q4⟩
      · rw [List.drop_length] at q
        exact ⟨es, w1, q.2⟩
    · exact nobool h
  L := fun _ _ => fun h q => nobool h
  H := fun _ => fun h q i => nobool h

theorem ss_whl {c : IR} {w : List Nat} {b : ST} (hb : SS N G b) : SS N G (.whl c w b) where
  S := fun {X k sc} V o {xw s ds ms E} h q => by
    unfold ckS at h
    split at h
    · rename_i t x pos
      simp only [Bool.and_eq_true] at h
      obtain ⟨n, q⟩ := (show ∃ n, wipeK w ds fun ds1 => vWhl w (fun ds ms kb => vT G xw c ds ms kb) (fun ds ms E => vS G xw b ds ms E) E n ds1 ms from q)
      obtain ⟨es0, w0, q⟩ := wipeK_wk q
      refine ds_wk (ds_while o.1 (fun n ds' ms' => ∃ es, Wk es ds' ∧ vWhl w (fun ds ms kb => vT G xw c ds ms kb) (fun ds ms E => vS G xw b ds ms E) E n es ms') n ⟨es0, w0, q⟩ fun m ds' ms' ⟨es, w1, q⟩ => ?_)
      cases m with
      | zero => exact False.elim q
      | succ m =>
        refine dt_env w1 (((se_all c).T V h.1 q).imp fun t ms2 q => ?_)
        obtain ⟨q1, q0⟩ := vIf_and q
        refine ⟨fun ht => dss_wk w1 ((hb.L V o h.2 (q1 ht)).imp (fun ds3 ms3 q3 => ?_) (fun _ _ q => q) (fun ds3 ms3 q3 => ⟨ds3, Wk.refl _, q3⟩) (fun ds3 ms3 q3 => ?_)), fun ht => ⟨es, w1, q0 ht⟩⟩
        · obtain ⟨es4, w4, q4⟩ := wipeK_wk q3
          exact ⟨m, Nat.lt_succ_self _, es4, w4, q4⟩
        · obtain ⟨es4, w4, q4⟩ := wipeK_wk q3
          exact ⟨m, Nat.lt_succ_self _, es4, w4, q4⟩
    · exact nobool h
  L := fun _ _ => fun h q => nobool h
  H := fun _ => fun h q i => nobool h

theorem ss_ret {e : IR} : SS N G (.ret e) where
  S := fun {X k sc} V o {xw s ds ms E} h q => by
    cases s <;> first | exact nobool h | skip
    rename_i v pos
    cases v with
    | none => exact nobool h
    | some v => exact ds_ret ((se_all e).E V h q)
  L := fun _ _ => fun h q => nobool h
  H := fun _ => fun h q i => nobool h

theorem ss_retN  : SS N G .retN where
  S := fun {X k sc} V o {xw s ds ms E} h q => by
    cases s <;> first | exact nobool h | skip
    rename_i v pos
    cases v with
    | none => exact ds_retN q
    | some v => exact nobool h
  L := fun _ _ => fun h q => nobool h
  H := fun _ => fun h q i => nobool h

theorem ss_raise {k : Nat} {e : IR} : SS N G (.raise k e) where
  S := fun {X k' sc} V o {xw s ds ms E} h q => by
    unfold ckS at h
    split at h
    · rename_i x p v pos pos2
      simp only [Bool.and_eq_true, Bool.not_eq_true'] at h
      obtain ⟨⟨⟨⟨h1, h2⟩, h3⟩, h4⟩, h5⟩ := h
      rw [gn_at] at h1
      have g := V.g k
      have q : vE G xw e ds ms fun d ms1 => (match G.at k with | .er _ C => xw C d ds ms1 | _ => False) := q
      generalize G.at k = en at h1 g q
      cases en <;> first | exact nobool h1 | skip
      rename_i y C
      have h1 : decide (x = y) = true := h1
      rw [decide_eq_true_eq] at h1
      subst h1
      obtain ⟨⟨k2, rfl⟩, Dd, fI, T⟩ := g
      obtain ⟨d1, d2, _⟩ := dbgB_ok h3
      exact ds_raise T V.c (da_cons (((se_all e).E V h4 q).imp fun d ms1 q => da_nil ⟨_, rfl, q⟩) (star_no h5)) (V.gl h2) d1 (star_no h5) rfl
    · exact nobool h
  L := fun _ _ => fun h q => nobool h
  H := fun _ => fun h q i => nobool h

theorem ss_brk  : SS N G .brk where
  S := fun {X k sc} V o {xw s ds ms E} h q => by
    cases s <;> first | exact nobool h | skip
    exact ds_break q
  L := fun _ _ => fun h q => nobool h
  H := fun _ => fun h q i => nobool h

theorem ss_cnt  : SS N G .cnt where
  S := fun {X k sc} V o {xw s ds ms E} h q => by
    cases s <;> first | exact nobool h | skip
    exact ds_cont q
  L := fun _ _ => fun h q => nobool h
  H := fun _ => fun h q i => nobool h

theorem ss_pass  : SS N G .pass where
  S := fun {X k sc} V o {xw s ds ms E} h q => by
    cases s <;> first | exact nobool h | skip
    exact ds_pass q
  L := fun _ _ => fun h q => nobool h
  H := fun _ => fun h q i => nobool h

theorem ss_frzv {i : Nat} : SS N G (.frzv i) where
  S := fun _ _ => fun h q => nobool h
  L := fun _ _ => fun h q => nobool h
  H := fun {X k sc} V {xw ss ds ms E P} h q ii => by
    obtain ⟨d, hd, q⟩ := getK_at q
    cases d <;> first | exact False.elim q | skip
    obtain ⟨j, xs, hm, q⟩ := q
    obtain ⟨ms1, hdl, q⟩ := mdelK_at q
    obtain ⟨l, q⟩ := setK_at q
    exact dss_freeze hd hm hdl (ii _ _ q)

theorem ss_frzvD {i : Nat} : SS N G (.frzvD i) where
  S := fun _ _ => fun h q => nobool h
  L := fun _ _ => fun h q => nobool h
  H := fun {X k sc} V {xw ss ds ms E P} h q ii => by
    obtain ⟨d, hd, q⟩ := getK_at q
    cases d <;> first | exact False.elim q | skip
    obtain ⟨j, xs, hm, q⟩ := q
    obtain ⟨ms1, hdl, q⟩ := mdelK_at q
    obtain ⟨l, q⟩ := setK_at q
    exact dss_freezeD hd hm hdl (ii _ _ q)

theorem ss_wipe {is : List Nat} : SS N G (.wipe is) where
  S := fun _ _ => fun h q => nobool h
  L := fun _ _ => fun h q => nobool h
  H := fun {X k sc} V {xw ss ds ms E P} h q i => by
    obtain ⟨es, w, q⟩ := wipeK_wk q
    exact dss_wk w (i _ _ q)

theorem ss_dropv {i : Nat} : SS N G (.dropv i) where
  S := fun _ _ => fun h q => nobool h
  L := fun _ _ => fun h q => nobool h
  H := fun {X k sc} V {xw ss ds ms E P} h q ii => by
    obtain ⟨d, hd, q⟩ := getK_at q
    cases d <;> first | exact False.elim q | skip
    obtain ⟨j, ob, hm, q⟩ := q
    obtain ⟨ms1, hdl, q⟩ := mdelK_at q
    obtain ⟨l, q⟩ := setK_at q
    refine dss_drop hdl (dss_env (ds' := ds.set i none) (List.length_set ..) (fun n d e => ?_) (ii _ _ q))
    rw [List.getElem?_set] at e
    split at e
    · first
        | cases e
        | (split at e <;> cases e)
    · exact e

theorem ss_fld {k : Nat} {o e : IR} : SS N G (.fld k o e) where
  S := fun {X k' sc} V ow {xw s ds ms E} h q => by
    unfold ckS at h
    split at h
    · rename_i x f pos' v pos
      simp only [Bool.and_eq_true, Bool.not_eq_true'] at h
      rw [gn_at] at h
      obtain ⟨⟨⟨h1, h2⟩, h3⟩, h4⟩ := h
      have g := V.g k
      have q : vE G xw e ds ms fun v ms1 => vE G xw o ds ms1 fun x ms2 => (match G.at k with | .fl C f => vPutF C f x v ms2 fun ms3 => E.nx ds ms3 | _ => False) := q
      generalize G.at k = en at h1 g q
      cases en <;> first | exact nobool h1 | skip
      rename_i C y
      have h1 : decide (f = y) = true := h1
      rw [decide_eq_true_eq] at h1
      subst h1
      refine ds_fld g.1 g.2 (((se_all e).E V h3 q).imp fun y ms1 q => ((se_all o).E V h2 q).imp fun d ms2 q => ?_) (swaps_no h4)
      cases d <;> first | exact False.elim q | skip
      obtain ⟨j, fs, hm, hl, q⟩ := q
      obtain ⟨ms3, hp, q⟩ := msetK_at q
      exact ⟨_, j, fs, ms3, rfl, hm, hl, hp, q⟩
    · exact nobool h
  L := fun _ _ => fun h q => nobool h
  H := fun _ => fun h q i => nobool h

theorem ss_frzF {i : Nat} {f : Str} : SS N G (.frzF i f) where
  S := fun _ _ => fun h q => nobool h
  L := fun _ _ => fun h q => nobool h
  H := fun {X k sc} V {xw ss ds ms E P} h q ii => by
    obtain ⟨d, hd, q⟩ := getK_at q
    exact dss_freezeF hd q fun ms1 q => ii _ _ q
theorem ss_all : ∀ r : ST, SS N G r := by
  intro r
  induction r with
  | nil   => exact ss_nil 
  | cons s r h1 h2 => exact ss_cons h1 h2
  | asg t e  => exact ss_asg 
  | par i j a b  => exact ss_par 
  | par3 i j l a b c  => exact ss_par3 
  | sub a i e  => exact ss_sub 
  | aug i a e  => exact ss_aug 
  | ex e  => exact ss_ex 
  | ife c a b h1 h2 => exact ss_ife h1 h2
  | forS t i w b h1 => exact ss_forS h1
  | whl c w b h1 => exact ss_whl h1
  | ret e  => exact ss_ret 
  | retN   => exact ss_retN 
  | raise k e  => exact ss_raise 
  | brk   => exact ss_brk 
  | cnt   => exact ss_cnt 
  | pass   => exact ss_pass 
  | frzv i  => exact ss_frzv 
  | frzvD i  => exact ss_frzvD 
  | wipe i  => exact ss_wipe 
  | dropv i  => exact ss_dropv 
  | fld k o e  => exact ss_fld 
  | frzF i f  => exact ss_frzF 
end
end DL

/-! V10: a def's promise from its tree; loops over data told by a function. -/
namespace DL
open PySem PySem.Spec PyProof.Rows L2
section
variable {P : Program} {w : World} {K : PySem.W.Frag} {mg : Str → Option Value} {base : Heap}
theorem EntOk.at {G : GE} {k : Nat} (h : ∀ e ∈ G, EntOk P w K mg base k e) : ∀ j, EntOk P w K mg base k (G.at j) := by
  intro j
  induction G generalizing j with
  | nil => cases j <;> exact trivial
  | cons e r ih =>
    cases j with
    | zero => exact h e List.mem_cons_self
    | succ j => exact ih (fun e he => h e (List.mem_cons_of_mem _ he)) j
theorem DefAtG.mono {j k : Nat} {x : Str} {f : Addr} {fd : FuncData} {ps : List Str} {S : DSp} (G : DefAtG P w K mg base j x f fd ps S) (h : j ≤ k) : DefAtG P w K mg base k x f fd ps S :=
  ⟨⟨G.fn.len, fun A outer s H args us vs Q E hr => G.fn.run A outer s H args us vs Q E (hr.mono h)⟩, G.gl, G.kp, G.bn⟩
theorem DefAtG.imp {j : Nat} {x : Str} {f : Addr} {fd : FuncData} {ps : List Str} {S S' : DSp} (G : DefAtG P w K mg base j x f fd ps S) (h : ∀ vs ms kd xk, S' vs ms kd xk → S vs ms kd xk) : DefAtG P w K mg base j x f fd ps S' :=
  ⟨⟨fun vs H Q E ⟨F, ds, ms, kd, xk, r, s, q, v, x⟩ => G.fn.len vs H Q E ⟨F, ds, ms, kd, xk, r, s, h _ _ _ _ q, v, x⟩, fun A outer s H args us vs Q E hr hg he hb hv ⟨F, ds, ms, kd, xk, r, s', q, v, x⟩ => G.fn.run A outer s H args us vs Q E hr hg he hb hv ⟨F, ds, ms, kd, xk, r, s', h _ _ _ _ q, v, x⟩⟩, G.gl, G.kp, G.bn⟩
/-- .. where the store may be told otherwise, before and behind -/
theorem DefAtG.st {j : Nat} {x : Str} {f : Addr} {fd : FuncData} {ps : List Str} {S S' : DSp} (G : DefAtG P w K mg base j x f fd ps S)
    (h : ∀ vs ms kd xk, S' vs ms kd xk → ∃ ms2, MLe K ms ms2 ∧ S vs ms2 (fun d ms3 => ∃ ms4, MLe K ms3 ms4 ∧ kd d ms4) (fun C d ms3 => ∃ ms4, MLe K ms3 ms4 ∧ xk C d ms4)) : DefAtG P w K mg base j x f fd ps S' := by
  have go : ∀ vs H Q E, toSp K S' vs H Q E → toSp K S vs H Q E := fun vs H Q E ⟨F, ds, ms, kd, xk, r, s, q, v, x⟩ => by
    obtain ⟨ms2, l, q⟩ := h _ _ _ _ q
    exact ⟨F, ds, ms2, _, _, r, l _ _ s, q, fun F' v' d ms' H' e r' S' ⟨ms4, l4, q'⟩ => v F' v' d ms4 H' e r' (l4 _ _ S') q', fun F' C dx dv v' ms' H' e r' S' hd ⟨ms4, l4, q'⟩ => x F' C dx dv v' ms4 H' e r' (l4 _ _ S') hd q'⟩
  exact ⟨⟨fun vs H Q E q => G.fn.len vs H Q E (go _ _ _ _ q), fun A outer s H args us vs Q E hr hg he hb hv q => G.fn.run A outer s H args us vs Q E hr hg he hb hv (go _ _ _ _ q)⟩, G.gl, G.kp, G.bn⟩
theorem vdefM {x qual : Str} {st : Stmt} {f : Addr} {fd : FuncData} {N ps : List Str} {k : Nat} {S : DSp} {G : GE} (ir : ST) (F : Fun K x qual st f fd) (Sc : FnScope N ps (defScope st)) (bn : Binds K fd ps []) {g : GN} (hgn : gn G = g) (ck : ckS.ckSs N g (defScope st) ir (defBody st) = true)
    (hG : ∀ e ∈ G, EntOk P w K mg base k e) (hb : ∀ x ∈ bnames, mg x = none) (len : ∀ vs ms kd xk, S vs ms kd xk → vs.length = ps.length)
    (body : ∀ vs ms kd xk, S vs ms kd xk → vS G (fun C d _ ms2 => ∃ ms3, MLe K ms2 ms3 ∧ xk C d ms3) ir (startD N vs) ms { nx := fun _ ms2 => ∃ ms3, MLe K ms2 ms3 ∧ kd .non ms3, rt := fun d ms2 => ∃ ms3, MLe K ms2 ms3 ∧ kd d ms3 }) :
    MethAtG P w K mg base (k + 1) f fd ps S :=
  def_okM F Sc bn len fun cdv A outer s H E C gd own vs ms kd xk h => (ss_all ir).L ⟨C, rfl, gd, EntOk.at hG, hb⟩ ⟨own, fun _ => rfl⟩ (by rw [hgn]; exact ck) (body vs ms kd xk h)
theorem vdef {x qual : Str} {st : Stmt} {f : Addr} {fd : FuncData} {N ps : List Str} {k : Nat} {S : DSp} {G : GE} (ir : ST) (F : Fun K x qual st f fd) (Sc : FnScope N ps (defScope st)) (gl : mg x = some (.ref f)) (bn : Binds K fd ps []) {g : GN} (hgn : gn G = g) (ck : ckS.ckSs N g (defScope st) ir (defBody st) = true)
    (hG : ∀ e ∈ G, EntOk P w K mg base k e) (hb : ∀ x ∈ bnames, mg x = none) (len : ∀ vs ms kd xk, S vs ms kd xk → vs.length = ps.length)
    (body : ∀ vs ms kd xk, S vs ms kd xk → vS G (fun C d _ ms2 => ∃ ms3, MLe K ms2 ms3 ∧ xk C d ms3) ir (startD N vs) ms { nx := fun _ ms2 => ∃ ms3, MLe K ms2 ms3 ∧ kd .non ms3, rt := fun d ms2 => ∃ ms3, MLe K ms2 ms3 ∧ kd d ms3 }) :
    DefAtG P w K mg base (k + 1) x f fd ps S :=
  def_okG F Sc gl bn len fun cdv A outer s H E C gd own vs ms kd xk h => (ss_all ir).L ⟨C, rfl, gd, EntOk.at hG, hb⟩ ⟨own, fun _ => rfl⟩ (by rw [hgn]; exact ck) (body vs ms kd xk h)
end
theorem ent_cons {P : Ent → Prop} {e : Ent} {r : GE} (h : P e) (g : ∀ x ∈ r, P x) : ∀ x ∈ e :: r, P x := fun x hx => by
  rcases List.mem_cons.mp hx with rfl | hx
  · exact h
  · exact g x hx
theorem ent_nil {P : Ent → Prop} : ∀ x ∈ ([] : GE), P x := fun x hx => by cases hx
/-! ### loops told by a function -/
section
variable {α : Type} {f : α → D}
theorem vForL_gen {w : List Nat} {keep : MS → Prop} {tgt : D → DEnv → (DEnv → Prop) → Prop} {body : DEnv → MS → DEnds → Prop} {E : DEnds} (Q : List α → DEnv → MS → Prop)
    (hnil : ∀ ds ms, Q [] ds ms → keep ms ∧ E.nx ds ms)
    (hcons : ∀ a l ds ms (R : DEnv → MS → Prop), (∀ ds ms, Q l ds ms → R ds ms) → Q (a :: l) ds ms → keep ms ∧ tgt (f a) ds fun ds2 => body ds2 ms { E with nx := fun ds3 ms3 => wipeK w ds3 fun ds4 => R ds4 ms3, ct := fun ds3 ms3 => wipeK w ds3 fun ds4 => R ds4 ms3, bk := E.nx }) :
    ∀ (l : List α) (ds : DEnv) (ms : MS), Q l ds ms → vForL w keep tgt body E (l.map f) ds ms
  | [], ds, ms, q => hnil ds ms q
  | a :: l, ds, ms, q => hcons a l ds ms _ (fun ds ms q => vForL_gen Q hnil hcons l ds ms q) q
theorem vLc_gen {keep : MS → Prop} {tgt : D → (DEnv → Prop) → Prop} {ifs : DEnv → MS → KB → Prop} {elt : DEnv → MS → DK → Prop} {fin : List D → MS → Prop} (Q : List α → List D → MS → Prop)
    (hnil : ∀ acc ms, Q [] acc ms → (∀ L, keep ((L, .lst acc) :: ms)) ∧ fin acc ms)
    (hcons : ∀ a l acc ms (R : List D → MS → Prop), (∀ acc ms, Q l acc ms → R acc ms) → Q (a :: l) acc ms → (∀ L, keep ((L, .lst acc) :: ms)) ∧ tgt (f a) fun ds2 => ∀ L, ifs ds2 ((L, .lst acc) :: ms) fun b ms3 =>
      vIf b (elt ds2 ms3 fun d ms4 => acc.length < sizeLine ∧ Off ms4 L (.lst acc) fun ms5 => R (acc ++ [d]) ms5) (Off ms3 L (.lst acc) fun ms5 => R acc ms5)) :
    ∀ (l : List α) (acc : List D) (ms : MS), Q l acc ms → vLc keep tgt ifs elt fin (l.map f) acc ms
  | [], acc, ms, q => hnil acc ms q
  | a :: l, acc, ms, q => hcons a l acc ms _ (fun acc ms q => vLc_gen Q hnil hcons l acc ms q) q
/-- turns that leave the store: the item a gives the items g a -/
theorem vLc_map {keep : MS → Prop} {tgt : D → (DEnv → Prop) → Prop} {ifs : DEnv → MS → KB → Prop} {elt : DEnv → MS → DK → Prop} {fin : List D → MS → Prop} {ms : MS} (g : α → List D) (l : List α) (hg : ∀ a, (g a).length ≤ 1) (hl : l.length ≤ 100000)
    (hk : ∀ L acc, keep ((L, .lst acc) :: ms)) (hf : fin (l.flatMap g) ms)
    (h : ∀ a, a ∈ l → ∀ acc (R : List D → MS → Prop), acc.length < sizeLine → R (acc ++ g a) ms → tgt (f a) fun ds2 => ∀ L, ifs ds2 ((L, .lst acc) :: ms) fun b ms3 =>
      vIf b (elt ds2 ms3 fun d ms4 => acc.length < sizeLine ∧ Off ms4 L (.lst acc) fun ms5 => R (acc ++ [d]) ms5) (Off ms3 L (.lst acc) fun ms5 => R acc ms5)) : vLc keep tgt ifs elt fin (l.map f) [] ms := by
  refine vLc_gen (f := f) (fun r acc ms' => ms' = ms ∧ (∃ p, p ++ r = l ∧ acc = p.flatMap g)) (fun acc ms' ⟨e, p, e1, e2⟩ => ?_) (fun a r acc ms' R hR ⟨e, p, e1, e2⟩ => ?_) l [] ms ⟨rfl, [], rfl, rfl⟩
  · subst e
    rw [List.append_nil] at e1
    subst e1 e2
    exact ⟨fun L => hk L _, hf⟩
  · subst e
    have hlen : acc.length ≤ p.length := by
      rw [e2]
      clear e1 e2
      induction p with
      | nil => simp
      | cons x p ih => rw [List.flatMap_cons, List.length_append, List.length_cons]; have := hg x; omega
    have hp : p.length < l.length := by rw [← e1, List.length_append, List.length_cons]; omega
    refine ⟨fun L => hk L _, h a (by rw [← e1]; simp) acc R (len_lt (by omega)) (hR _ _ ⟨rfl, p ++ [a], by rw [← e1]; simp, by rw [e2]; simp⟩)⟩
theorem vDc_gen {keep : MS → Prop} {tgt : D → (DEnv → Prop) → Prop} {ifs : DEnv → MS → KB → Prop} {kx vx : DEnv → MS → DK → Prop} {fin : List (Key × D) → MS → Prop} (Q : List α → List (Key × D) → MS → Prop)
    (hnil : ∀ acc ms, Q [] acc ms → (∀ L, keep ((L, .dic acc) :: ms)) ∧ fin acc ms)
    (hcons : ∀ a l acc ms (R : List (Key × D) → MS → Prop), (∀ acc ms, Q l acc ms → R acc ms) → Q (a :: l) acc ms → (∀ L, keep ((L, .dic acc) :: ms)) ∧ tgt (f a) fun ds2 => ∀ L, ifs ds2 ((L, .dic acc) :: ms) fun b ms3 =>
      vIf b (kx ds2 ms3 fun d ms4 => vx ds2 ms4 fun d' ms5 => keyK d fun ky => acc.length < sizeLine ∧ Off ms5 L (.dic acc) fun ms6 => R (putD acc ky d') ms6) (Off ms3 L (.dic acc) fun ms5 => R acc ms5)) :
    ∀ (l : List α) (acc : List (Key × D)) (ms : MS), Q l acc ms → vDc keep tgt ifs kx vx fin (l.map f) acc ms
  | [], acc, ms, q => hnil acc ms q
  | a :: l, acc, ms, q => hcons a l acc ms _ (fun acc ms q => vDc_gen Q hnil hcons l acc ms q) q
end
theorem vWhl_gen {w : List Nat} {c : DEnv → MS → KB → Prop} {body : DEnv → MS → DEnds → Prop} {E : DEnds} (Q : Nat → DEnv → MS → Prop)
    (h : ∀ n ds ms (R : DEnv → MS → Prop), (∀ m ds ms, m < n → Q m ds ms → R ds ms) → Q n ds ms → c ds ms fun b ms2 => vIf b (body ds ms2 { E with nx := fun ds3 ms3 => wipeK w ds3 fun ds4 => R ds4 ms3, ct := fun ds3 ms3 => wipeK w ds3 fun ds4 => R ds4 ms3, bk := E.nx }) (E.nx ds ms2)) : True := trivial
/-! lists of data as maps -/
theorem rangeD_map (lo : Int) (n : Nat) : rangeD lo n = (List.range n).map fun i : Nat => D.int (lo + (i : Int)) := rfl
theorem enumD_map {α : Type} (f : α → D) (xs : List α) : enumD (xs.map f) = (xs.zipIdx).map fun p => D.tup [.int (p.2 : Int), f p.1] := by
  unfold enumD
  apply List.ext_getElem?
  intro i
  rw [List.getElem?_zipWith, List.length_map, List.getElem?_map, List.getElem?_map, List.getElem?_zipIdx]
  by_cases hi : i < xs.length
  · rw [List.getElem?_range hi, List.getElem?_eq_getElem hi]
    simp
  · rw [List.getElem?_eq_none (l := List.range xs.length) (by rw [List.length_range]; omega), List.getElem?_eq_none (l := xs) (by omega)]
    rfl
theorem pairD_int (kv : List (Int × Int)) : pairD (intD kv) = kv.map fun p => D.tup [.int p.1, .int p.2] := by
  unfold pairD intD
  rw [List.map_map]
  rfl
theorem zipD_map {α β : Type} (f : α → D) (g : β → D) (xs : List α) (ys : List β) : zipD (xs.map f) (ys.map g) = (xs.zip ys).map fun p => D.tup [f p.1, g p.2] := by
  unfold zipD
  rw [List.zipWith_map, List.zip, List.map_zipWith]
theorem signD_map (z : Str) : signD z = z.cps.toList.map fun c => D.str ⟨#[c]⟩ := rfl
theorem keys_int (kv : List (Int × Int)) : ((intD kv).map fun kv => keyD kv.1) = kv.map fun p => D.int p.1 := by
  unfold intD
  rw [List.map_map]
  rfl
end DL

/-! LIBA: what is called with the pool. -/
namespace Lb
open PySem PySem.Spec PyProof.Rows L2 DL
abbrev dX (K : PySem.W.Frag) (xk : Addr → D → MS → Prop) : DX := fun C d _ ms2 => ∃ ms3, MLe K ms2 ms3 ∧ xk C d ms3
abbrev dN (K : PySem.W.Frag) (kd : DK) : DEnds := { nx := fun _ ms2 => ∃ ms3, MLe K ms2 ms3 ∧ kd .non ms3, rt := fun d ms2 => ∃ ms3, MLe K ms2 ms3 ∧ kd d ms3 }
/-- a promise over the pool: at the front of the store -/
abbrev PR := List D → (D → Prop) → Prop
@[reducible] def spF (j : Nat) (R : PR) : DSp := fun vs ms kd _ => ∃ p as n ms0, vs = .adr p :: as ∧ ms = (p, poolM n) :: ms0 ∧ n + j < 2 ^ 30 ∧ R as fun d => kd d ((p, poolM (n + j)) :: ms0)
/-- .. wherever it is -/
@[reducible] def spV (j : Nat) (R : PR) : DSp := fun vs ms kd _ => ∃ p as n i, vs = .adr p :: as ∧ Ms ms i p (poolM n) ∧ n + j < 2 ^ 30 ∧ R as fun d => msetK ms i (poolM (n + j)) fun ms' => kd d ms'
def PR.Mono (R : PR) : Prop := ∀ as k k', (∀ d, k d → k' d) → R as k → R as k'
theorem Ms.del {ms : MS} {i : Nat} {p : Addr} {o : MO} (h : Ms ms i p o) : ∃ ms1, MDel ms i ms1 := by
  induction h with
  | z => exact ⟨_, .z⟩
  | s _ ih => obtain ⟨ms1, h⟩ := ih; exact ⟨_, .s h⟩
theorem put_del {ms ms1 ms' : MS} {i : Nat} {p : Addr} {o o' : MO} (h : Ms ms i p o) (d : MDel ms i ms1) (u : MPut ms i o' ms') : Ms ms' i p o' ∧ MDel ms' i ms1 := by
  induction h generalizing ms1 ms' with
  | z => cases d; cases u; exact ⟨.z, .z⟩
  | s _ ih =>
    cases d with
    | s d => cases u with
      | s u => obtain ⟨a, b⟩ := ih d u; exact ⟨.s a, .s b⟩
theorem perm_back {K : PySem.W.Frag} {ms ms1 : MS} {i : Nat} {p : Addr} {o : MO} (h : Ms ms i p o) (d : MDel ms i ms1) : MLe K ((p, o) :: ms1) ms := by
  refine .perm (List.Perm.symm ?_)
  have := perm_front h.at
  rw [← d.eq] at this
  exact this
section
variable {P : Program} {w : World} {K : PySem.W.Frag} {mg : Str → Option Value} {base : Heap}
theorem spF_V {j : Nat} {R : PR} (m : R.Mono) {vs : List D} {ms : MS} {kd : DK} {xk : Addr → D → MS → Prop} (h : spV j R vs ms kd xk) :
    ∃ ms2, MLe K ms ms2 ∧ spF j R vs ms2 (fun d ms3 => ∃ ms4, MLe K ms3 ms4 ∧ kd d ms4) (fun C d ms3 => ∃ ms4, MLe K ms3 ms4 ∧ xk C d ms4) := by
  obtain ⟨p, as, n, i, rfl, hm, hn, q⟩ := h
  obtain ⟨ms1, hd⟩ := Ms.del hm
  refine ⟨_, ms_front hm hd, p, as, n, ms1, rfl, rfl, hn, m _ _ _ (fun d q => ?_) q⟩
  obtain ⟨ms', hp, q⟩ := msetK_at q
  obtain ⟨a, b⟩ := put_del hm hd hp
  exact ⟨ms', perm_back a b, q⟩
theorem DefAtG.V {k j : Nat} {x : Str} {f : Addr} {fd : FuncData} {ps : List Str} {R : PR} (m : R.Mono) (G : DefAtG P w K mg base k x f fd ps (spF j R)) : DefAtG P w K mg base k x f fd ps (spV j R) :=
  G.st fun _ _ _ _ h => spF_V m h
end
/-! ### draws -/
@[reducible] def rDraw : PR := fun as k => ∃ m, as = [.int m] ∧ 0 < m ∧ m.natAbs < 2 ^ 200 ∧ ∀ r, 0 ≤ r → r < m → k (.int r)
theorem rDraw_mono : PR.Mono rDraw := fun as k k' h ⟨m, e, h1, h2, q⟩ => ⟨m, e, h1, h2, fun r a b => h _ (q r a b)⟩
theorem spDraw_F {vs : List D} {ms : MS} {kd : DK} {xk : Addr → D → MS → Prop} (h : spF 1 rDraw vs ms kd xk) : spDraw vs ms kd xk := by
  obtain ⟨p, as, n, ms0, rfl, rfl, hn, m, rfl, h1, h2, q⟩ := h
  exact ⟨p, m, n, ms0, rfl, rfl, by omega, h1, h2, q⟩
theorem lsz {α : Type} {xs : List α} (h : xs.length ≤ 100000) : xs.length ≤ sizeLine := Nat.le_trans h (by rw [sizeLine_eq]; decide)
section
variable {α : Type} {f : α → D}
theorem vForL_ix {w : List Nat} {keep : MS → Prop} {tgt : D → DEnv → (DEnv → Prop) → Prop} {body : DEnv → MS → DEnds → Prop} {E : DEnds} (l : List α) (Q : Nat → DEnv → MS → Prop) {ds : DEnv} {ms : MS} (h0 : Q 0 ds ms)
    (hnil : ∀ ds ms, Q l.length ds ms → keep ms ∧ E.nx ds ms)
    (hcons : ∀ i a ds ms (R : DEnv → MS → Prop), l[i]? = some a → (∀ ds ms, Q (i + 1) ds ms → R ds ms) → Q i ds ms → keep ms ∧ tgt (f a) ds fun ds2 => body ds2 ms { E with nx := fun ds3 ms3 => wipeK w ds3 fun ds4 => R ds4 ms3, ct := fun ds3 ms3 => wipeK w ds3 fun ds4 => R ds4 ms3, bk := E.nx }) :
    vForL w keep tgt body E (l.map f) ds ms := by
  refine vForL_gen (f := f) (fun r ds ms => ∃ pre, pre ++ r = l ∧ Q pre.length ds ms) (fun ds ms ⟨pre, e, q⟩ => ?_) (fun a r ds ms R hR ⟨pre, e, q⟩ => ?_) l ds ms ⟨[], rfl, h0⟩
  · rw [List.append_nil] at e
    subst e
    exact hnil ds ms q
  · refine hcons pre.length a ds ms R (by rw [← e]; simp) (fun ds ms q => hR ds ms ⟨pre ++ [a], by rw [← e]; simp, by rw [List.length_append]; exact q⟩) q
theorem vLc_ix {keep : MS → Prop} {tgt : D → (DEnv → Prop) → Prop} {ifs : DEnv → MS → KB → Prop} {elt : DEnv → MS → DK → Prop} {fin : List D → MS → Prop} (l : List α) (Q : Nat → List D → MS → Prop) {ms : MS} (h0 : Q 0 [] ms)
    (hnil : ∀ acc ms, Q l.length acc ms → (∀ L, keep ((L, .lst acc) :: ms)) ∧ fin acc ms)
    (hcons : ∀ i a acc ms (R : List D → MS → Prop), l[i]? = some a → (∀ acc ms, Q (i + 1) acc ms → R acc ms) → Q i acc ms → (∀ L, keep ((L, .lst acc) :: ms)) ∧ tgt (f a) fun ds2 => ∀ L, ifs ds2 ((L, .lst acc) :: ms) fun b ms3 =>
      vIf b (elt ds2 ms3 fun d ms4 => acc.length < sizeLine ∧ Off ms4 L (.lst acc) fun ms5 => R (acc ++ [d]) ms5) (Off ms3 L (.lst acc) fun ms5 => R acc ms5)) : vLc keep tgt ifs elt fin (l.map f) [] ms := by
  refine vLc_gen (f := f) (fun r acc ms => ∃ pre, pre ++ r = l ∧ Q pre.length acc ms) (fun ds ms ⟨pre, e, q⟩ => ?_) (fun a r ds ms R hR ⟨pre, e, q⟩ => ?_) l [] ms ⟨[], rfl, h0⟩
  · rw [List.append_nil] at e
    subst e
    exact hnil ds ms q
  · refine hcons pre.length a ds ms R (by rw [← e]; simp) (fun ds ms q => hR ds ms ⟨pre ++ [a], by rw [← e]; simp, by rw [List.length_append]; exact q⟩) q
theorem vDc_ix {keep : MS → Prop} {tgt : D → (DEnv → Prop) → Prop} {ifs : DEnv → MS → KB → Prop} {kx vx : DEnv → MS → DK → Prop} {fin : List (Key × D) → MS → Prop} (l : List α) (Q : Nat → List (Key × D) → MS → Prop) {ms : MS} (h0 : Q 0 [] ms)
    (hnil : ∀ acc ms, Q l.length acc ms → (∀ L, keep ((L, .dic acc) :: ms)) ∧ fin acc ms)
    (hcons : ∀ i a acc ms (R : List (Key × D) → MS → Prop), l[i]? = some a → (∀ acc ms, Q (i + 1) acc ms → R acc ms) → Q i acc ms → (∀ L, keep ((L, .dic acc) :: ms)) ∧ tgt (f a) fun ds2 => ∀ L, ifs ds2 ((L, .dic acc) :: ms) fun b ms3 =>
      vIf b (kx ds2 ms3 fun d ms4 => vx ds2 ms4 fun d' ms5 => keyK d fun ky => acc.length < sizeLine ∧ Off ms5 L (.dic acc) fun ms6 => R (putD acc ky d') ms6) (Off ms3 L (.dic acc) fun ms5 => R acc ms5)) : vDc keep tgt ifs kx vx fin (l.map f) [] ms := by
  refine vDc_gen (f := f) (fun r acc ms => ∃ pre, pre ++ r = l ∧ Q pre.length acc ms) (fun ds ms ⟨pre, e, q⟩ => ?_) (fun a r ds ms R hR ⟨pre, e, q⟩ => ?_) l [] ms ⟨[], rfl, h0⟩
  · rw [List.append_nil] at e
    subst e
    exact hnil ds ms q
  · refine hcons pre.length a ds ms R (by rw [← e]; simp) (fun ds ms q => hR ds ms ⟨pre ++ [a], by rw [← e]; simp, by rw [List.length_append]; exact q⟩) q
end
theorem range_ix {n i a : Nat} (h : (List.range n)[i]? = some a) : a = i ∧ i < n := by
  have h1 : i < n := by have := (List.getElem?_eq_some_iff.mp h).1; rwa [List.length_range] at this
  rw [List.getElem?_range h1] at h
  cases h
  exact ⟨rfl, h1⟩
theorem inD_int (x : Int) (ns : List Int) : inD (.int x) (ns.map D.int) = decide (x ∈ ns) := by
  induction ns with
  | nil => rfl
  | cons n r ih =>
    rw [List.map_cons]
    have : inD (.int x) (.int n :: r.map D.int) = (decide (x = n) || inD (.int x) (r.map D.int)) := by
      unfold inD
      rw [List.map_cons]
      show inV (.int x) (.int n :: _) = _
      unfold inV
      rw [List.any_cons]
      congr 1
      show (n == x) = decide (x = n)
      rw [Bool.eq_iff_iff, beq_iff_eq, decide_eq_true_iff]
      exact eq_comm
    rw [this, ih, Bool.eq_iff_iff, Bool.or_eq_true, decide_eq_true_iff, decide_eq_true_iff, decide_eq_true_iff, List.mem_cons]
theorem atI_head {α : Type} {x : α} {r : List α} : atI (x :: r) 0 = some x := by
  unfold atI ixN
  rw [if_pos (Int.le_refl 0), if_pos (by rw [List.length_cons]; omega)]
  rfl
end Lb

/-! LIBB: a rule drawn; a row drawn. -/
namespace Lb
open PySem PySem.Spec PyProof.Rows L2 DL
abbrev ir__law_kind : ST := (.cons (.asg (.nm 1) (.ix (.lst false (.cons (.int 2) (.cons (.int 2) (.cons (.int 3) (.cons (.int 5) .nil))))) (.call 0 (.cons (.var 0) (.cons (.int 4) .nil)))))
 (.cons (.asg (.nm 2) (.call 0 (.cons (.var 0) (.cons (.ix (.dicI [(2, 5), (3, 4), (5, 3)]) (.var 1)) .nil))))
 (.cons (.asg (.nm 3) (.ix (.lst false (.cons (.int 0) (.cons (.bin .Sub (.int 0) (.var 2)) (.cons (.neg (.int 1)) (.cons (.bin .Sub (.call 0 (.cons (.var 0) (.cons (.bin .Sub (.int 17) (.var 2)) .nil))) (.int 8)) .nil))))) (.call 0 (.cons (.var 0) (.cons (.int 4) .nil)))))
 (.cons (.asg (.nm 4) (.lst true .nil))
 (.cons (.forS (.nm 5) (.itR1 (.bin .Add (.var 2) (.int 1))) [5, 6]
 (.cons (.ife (.or (.cons (.cmp .In (.var 5) (.tup (.cons (.int 0) (.cons (.var 2) .nil)))) (.cons (.cmp .Eq (.call 0 (.cons (.var 0) (.cons (.int 2) .nil))) (.int 0)) .nil)))
 (.cons (.asg (.nm 6) (.call 0 (.cons (.var 0) (.cons (.bin .Add (.bi .len (.cons (.var 4) .nil)) (.int 1)) .nil))))
 (.cons (.ex (.mth .insert (.var 4) (.cons (.var 6) (.cons (.tup (.cons (.bin .Add (.int 1) (.call 0 (.cons (.var 0) (.cons (.bin .Sub (.var 1) (.int 1)) .nil)))) (.cons (.bin .Add (.var 3) (.var 5)) .nil))) .nil))))
 .nil))
 .nil)
 .nil))
 (.cons (.frzv 4)
 (.cons (.ret (.tup (.cons (.var 1) (.cons (.var 4) .nil))))
 .nil)))))))
abbrev gn__law_kind : GN := [.fn "_law_draw" 2]
abbrev nm__law_kind : List Str := ["pool", "prime_here", "wide", "least_here", "terms_here", "step", "spot"]
abbrev ir__law_row : ST := (.cons (.asg (.nm 4) (.ix (.lst false (.cons (.int 0) (.cons (.bin .Sub (.call 0 (.cons (.var 0) (.cons (.int 21) .nil))) (.int 10)) (.cons (.bin .Sub (.call 0 (.cons (.var 0) (.cons (.bin .Add (.bin .Mult (.int 2) (.var 3)) (.int 1)) .nil))) (.var 3)) .nil)))) (.call 0 (.cons (.var 0) (.cons (.int 3) .nil)))))
 (.cons (.par 5 6 (.ix (.lst false (.cons (.call 0 (.cons (.var 0) (.cons (.int 9) .nil))) (.cons (.int 40) (.cons (.call 0 (.cons (.var 0) (.cons (.int 41) .nil))) .nil)))) (.call 0 (.cons (.var 0) (.cons (.int 3) .nil)))) .dic0)
 (.cons (.sub (.var 6) (.var 4) (.bin .Add (.int 1) (.call 0 (.cons (.var 0) (.cons (.bin .Sub (.ix (.var 1) (.int 0)) (.int 1)) .nil)))))
 (.cons (.forS (.nm 7) (.itR1 (.call 0 (.cons (.var 0) (.cons (.var 2) .nil)))) [2, 3, 7, 8]
 (.cons (.asg (.nm 8) (.bin .Add (.var 4) (.ix (.lst false (.cons (.var 5) (.cons (.call 0 (.cons (.var 0) (.cons (.bin .Add (.var 5) (.int 1)) .nil))) .nil))) (.call 0 (.cons (.var 0) (.cons (.int 2) .nil))))))
 (.cons (.sub (.var 6) (.var 8) (.bin .Add (.int 1) (.call 0 (.cons (.var 0) (.cons (.bin .Sub (.ix (.var 1) (.int 0)) (.int 1)) .nil)))))
 .nil)))
 (.cons (.frzvD 6)
 (.cons (.ret (.frz (.srtI (.var 6))))
 .nil))))))
abbrev gn__law_row : GN := [.fn "_law_draw" 2]
abbrev nm__law_row : List Str := ["pool", "kind", "many", "far", "begin", "wide", "found", "turn", "spot"]
theorem DefAt.g {P : Program} {w : World} {K : PySem.W.Frag} {mg : Str → Option Value} {base : Heap} {k : Nat} {x : Str} {f : Addr} {fd : FuncData} {ps : List Str} {S : DSp} (G : DefAt P w K mg base k x f fd ps S) : DefAtG P w K mg base k x f fd ps S :=
  ⟨⟨G.fn.len, fun A outer s H args us vs Q E hr _ he hb hv q => G.fn.run A outer s H args us vs Q E hr he hb hv q⟩, G.gl, G.kp, G.bn⟩
structure KindOk (p : Int) (ts : List (Int × Int)) : Prop where
  pr : p = 2 ∨ p = 3 ∨ p = 5
  ne : ts ≠ []
  t : ∀ t ∈ ts, 1 ≤ t.1 ∧ t.1 < p ∧ -8 ≤ t.2 ∧ t.2 ≤ 8
  nd : (ts.map (·.2)).Nodup
  w : ∃ lo w : Int, 0 ≤ w ∧ w ≤ (if p = 2 then 4 else if p = 3 then 3 else 2) ∧ ∀ t ∈ ts, lo ≤ t.2 ∧ t.2 ≤ lo + w
  len : ts.length ≤ 8
@[reducible] def rKind : PR := fun as k => as = [] ∧ ∀ p ts, KindOk p ts → k (.tup [.int p, .lst (ts.map tupI)])
abbrev gDraw : Ent := .fn "_law_draw" 2 (spV 1 rDraw)
theorem walk__law_kind {K : PySem.W.Frag} {vs : List D} {ms : MS} {kd : DK} {xk : Addr → D → MS → Prop} (h : spF 20 rKind vs ms kd xk) : vS [gDraw] (dX K xk) ir__law_kind (startD nm__law_kind vs) ms (dN K kd) := by
  obtain ⟨p, as, n, ms0, rfl, rfl, hn, rfl, q⟩ := h
  (simp only [startD, List.map_cons, List.map_nil, List.length_cons, List.length_nil, List.cons_append, List.nil_append, List.replicate, Nat.reduceAdd, Nat.reduceSub]; with_reducible conv => whnf)
  refine ⟨by decide, p, _, n, 0, rfl, .z, by omega, 4, rfl, by decide, by decide, fun r r0 r1 => ?_⟩
  with_reducible conv => whnf
  have h1 : ∃ q : Int, atI [D.int 2, .int 2, .int 3, .int 5] r = some (.int q) ∧ (q = 2 ∨ q = 3 ∨ q = 5) := by
    rcases (show r = 0 ∨ r = 1 ∨ r = 2 ∨ r = 3 by omega) with rfl | rfl | rfl | rfl
    · exact ⟨2, rfl, .inl rfl⟩
    · exact ⟨2, rfl, .inl rfl⟩
    · exact ⟨3, rfl, .inr (.inl rfl)⟩
    · exact ⟨5, rfl, .inr (.inr rfl)⟩
  obtain ⟨pr, hat, hpr⟩ := h1
  refine ⟨_, hat, ?_⟩
  with_reducible conv => whnf
  have h2 : ∃ wd : Int, valD (intD [(2, 5), (3, 4), (5, 3)]) (.inl pr) = some (.int wd) ∧ 3 ≤ wd ∧ wd - 1 = (if pr = 2 then 4 else if pr = 3 then 3 else 2) := by
    rcases hpr with rfl | rfl | rfl
    · exact ⟨5, rfl, by decide, rfl⟩
    · exact ⟨4, rfl, by decide, rfl⟩
    · exact ⟨3, rfl, by decide, rfl⟩
  obtain ⟨wm, hv, wm3, hwm⟩ := h2
  have wm5 : wm ≤ 5 := by
    rcases hpr with rfl | rfl | rfl
    · have : wm - 1 = 4 := hwm; omega
    · have : wm - 1 = 3 := hwm; omega
    · have : wm - 1 = 2 := hwm; omega
  refine ⟨_, hv, ?_⟩
  with_reducible conv => whnf
  refine ⟨p, _, _, 0, rfl, .z, by omega, _, rfl, by omega, by omega, fun wide w0 w1 => ?_⟩
  with_reducible conv => whnf
  refine ⟨p, _, _, 0, rfl, .z, by omega, _, rfl, by omega, by omega, fun l3 l30 l31 => ?_⟩
  with_reducible conv => whnf
  refine ⟨lsz (by simp), p, _, _, 0, rfl, .z, by omega, _, rfl, by decide, by decide, fun r2 r20 r21 => ?_⟩
  with_reducible conv => whnf
  have h3 : ∃ q : Int, atI [D.int 0, .int (0 - wide), .int (-1), .int (l3 - 8)] r2 = some (.int q) ∧ -8 ≤ q ∧ q + wide ≤ 8 := by
    rcases (show r2 = 0 ∨ r2 = 1 ∨ r2 = 2 ∨ r2 = 3 by omega) with rfl | rfl | rfl | rfl
    · exact ⟨_, rfl, by omega, by omega⟩
    · exact ⟨_, rfl, by omega, by omega⟩
    · exact ⟨_, rfl, by omega, by omega⟩
    · exact ⟨_, rfl, by omega, by omega⟩
  obtain ⟨least, hat2, le0, le1⟩ := h3
  refine ⟨_, hat2, ?_⟩
  with_reducible conv => whnf
  refine ⟨by decide, fun pl => ?_⟩
  with_reducible conv => whnf
  refine ⟨⟨by omega, by omega⟩, ?_⟩
  rw [rangeD_map]
  with_reducible conv => whnf
  refine vForL_ix (f := fun i : Nat => D.int (0 + (i : Int))) _ (fun i ds' ms' => ∃ (ts : List (Int × Int)) (m : Nat), ds' = [some (.adr p), some (.int pr), some (.int wide), some (.int least), some (.adr pl), none, none] ∧ ms' = (pl, .lst (ts.map tupI)) :: (p, poolM (n + m)) :: ms0 ∧ m ≤ 4 + 3 * i ∧ ts.length ≤ i ∧ (0 < i → ts ≠ []) ∧
    (∀ t ∈ ts, 1 ≤ t.1 ∧ t.1 < pr ∧ least ≤ t.2 ∧ t.2 < least + i) ∧ (ts.map (·.2)).Nodup) ⟨[], 4, rfl, rfl, Nat.le_refl _, Nat.le_refl _, fun h => absurd h (by decide), (by simp), by simp⟩ (fun ds' ms' hq => ?_) (fun i a ds' ms' R ha hR hq => ?_)
  · obtain ⟨ts, m, rfl, rfl, hm, hl, hne, ht, hnd⟩ := hq
    rw [List.length_range] at hl hne ht hm
    refine ⟨trivial, ?_⟩
    with_reducible conv => whnf
    refine ⟨0, _, .z, ?_⟩
    with_reducible conv => whnf
    refine ⟨lsz (by simp), _, mle_more (by omega), q pr ts ⟨hpr, hne (by omega), fun t h => ?_, hnd, ⟨least, wide, w0, by rw [← hwm]; omega, fun t h => ?_⟩, by omega⟩⟩
    · obtain ⟨a1, a2, a3, a4⟩ := ht t h
      exact ⟨a1, a2, by omega, by omega⟩
    · obtain ⟨a1, a2, a3, a4⟩ := ht t h
      exact ⟨a3, by omega⟩
  · obtain ⟨ts, m, rfl, rfl, hm, hl, hne, ht, hnd⟩ := hq
    obtain ⟨rfl, hi⟩ := range_ix ha
    refine ⟨trivial, ?_⟩
    with_reducible conv => whnf
    refine ⟨lsz (by simp), ⟨rfl, rfl⟩, ?_⟩
    refine vIf_bl (fun _ => ?_) (fun h0 => ?_)
    rotate_left
    with_reducible conv => whnf
    refine ⟨p, _, _, 1, rfl, .s .z, by omega, _, rfl, by decide, by decide, fun r3 r30 r31 => ?_⟩
    with_reducible conv => whnf
    refine vIf_dec (fun _ => ?_) (fun hz => ?_)
    rotate_left
    ·   with_reducible conv => whnf
        have ha0 : 0 < a := by
          rcases Nat.eq_zero_or_pos a with rfl | h
          · exact absurd ((inD_int _ [0, wide]).symm.trans h0) (by simp)
          · exact h
        exact hR _ _ ⟨ts, m + 1, rfl, rfl, by omega, by omega, fun _ => hne ha0, fun t h => by obtain ⟨a1, a2, a3, a4⟩ := ht t h; exact ⟨a1, a2, a3, by omega⟩, hnd⟩
    all_goals
      with_reducible conv => whnf
      refine ⟨0, _, .z, ?_⟩
      with_reducible conv => whnf
      refine ⟨p, _, _, 1, rfl, .s .z, by omega, _, rfl, by rw [List.length_map]; omega, by rw [List.length_map]; omega, fun sp s0 s1 => ?_⟩
      rw [List.length_map] at s1
      with_reducible conv => whnf
      refine ⟨⟨_, .m .z⟩, ?_⟩
      with_reducible conv => whnf
      refine ⟨p, _, _, 1, rfl, .s .z, by omega, _, rfl, by omega, by omega, fun c c0 c1 => ?_⟩
      with_reducible conv => whnf
      refine ⟨lsz (by simp), ?_⟩
      with_reducible conv => whnf
      refine ⟨0, _, .z, ⟨len_lt (by rw [List.length_map]; omega), s0, by rw [List.length_map]; omega⟩, ?_⟩
      with_reducible conv => whnf
      have el : (ts.map tupI).take sp.toNat ++ [D.tup [.int (1 + c), .int (least + (0 + (a : Int)))]] ++ (ts.map tupI).drop sp.toNat = (ts.take sp.toNat ++ [(1 + c, least + (0 + (a : Int)))] ++ ts.drop sp.toNat).map tupI := by
        rw [List.map_append, List.map_append, List.map_take, List.map_drop]; rfl
      rw [el]
      have pm : (ts.take sp.toNat ++ [(1 + c, least + (0 + (a : Int)))] ++ ts.drop sp.toNat).Perm ((1 + c, least + (0 + (a : Int))) :: ts) := by
        rw [List.append_assoc]
        show (ts.take sp.toNat ++ ((1 + c, least + (0 + (a : Int))) :: ts.drop sp.toNat)).Perm _
        refine List.perm_middle.trans ?_
        rw [List.take_append_drop]
      have fin : (ts.take sp.toNat ++ [(1 + c, least + (0 + (a : Int)))] ++ ts.drop sp.toNat).length ≤ a + 1 ∧ (0 < a + 1 → ts.take sp.toNat ++ [(1 + c, least + (0 + (a : Int)))] ++ ts.drop sp.toNat ≠ []) ∧
          (∀ t ∈ ts.take sp.toNat ++ [(1 + c, least + (0 + (a : Int)))] ++ ts.drop sp.toNat, 1 ≤ t.1 ∧ t.1 < pr ∧ least ≤ t.2 ∧ t.2 < least + ((a + 1 : Nat) : Int)) ∧ ((ts.take sp.toNat ++ [(1 + c, least + (0 + (a : Int)))] ++ ts.drop sp.toNat).map (·.2)).Nodup := by
        refine ⟨by rw [pm.length_eq, List.length_cons]; omega, fun _ => by simp, fun t h => ?_, ?_⟩
        · rcases List.mem_cons.mp (pm.mem_iff.mp h) with rfl | h
          · exact ⟨by omega, by omega, by show least ≤ least + (0 + (a : Int)); omega, by show least + (0 + (a : Int)) < _; omega⟩
          · obtain ⟨a1, a2, a3, a4⟩ := ht t h
            exact ⟨a1, a2, a3, by omega⟩
        · rw [(pm.map (·.2)).nodup_iff, List.map_cons, List.nodup_cons]
          refine ⟨fun h => ?_, hnd⟩
          obtain ⟨t, h1, h2⟩ := List.mem_map.mp h
          obtain ⟨a1, a2, a3, a4⟩ := ht t h1
          have h2 : t.2 = least + (0 + (a : Int)) := h2
          omega
      first
        | exact hR _ _ ⟨_, m + 2, rfl, rfl, by omega, fin⟩
        | exact hR _ _ ⟨_, m + 3, rfl, rfl, by omega, fin⟩
theorem putI_mem {kv : List (Int × Int)} {k v : Int} {t : Int × Int} (h : t ∈ putI kv k v) : t = (k, v) ∨ t ∈ kv := by
  unfold putI at h
  split at h
  · obtain ⟨q, h1, h2⟩ := List.mem_map.mp h
    split at h2
    · rename_i e
      exact .inl (by rw [← h2, e])
    · exact .inr (by rw [← h2]; exact h1)
  · rcases List.mem_append.mp h with h | h
    · exact .inr h
    · exact .inl (List.mem_singleton.mp h)
theorem putI_keys (kv : List (Int × Int)) (k v : Int) : (putI kv k v).map (·.1) = if k ∈ kv.map (·.1) then kv.map (·.1) else kv.map (·.1) ++ [k] := by
  unfold putI
  have hb : (kv.any fun q => decide (q.1 = k)) = true ↔ k ∈ kv.map (·.1) := by
    rw [List.any_eq_true, List.mem_map]
    simp
  by_cases h : k ∈ kv.map (·.1)
  · rw [if_pos (hb.mpr h), if_pos h, List.map_map]
    refine List.map_congr_left fun q _ => ?_
    show (if q.1 = k then (q.1, v) else q).1 = q.1
    split <;> rfl
  · rw [if_neg (fun e => h (hb.mp e)), if_neg h, List.map_append]
    rfl
theorem putI_nd {kv : List (Int × Int)} {k v : Int} (h : (kv.map (·.1)).Nodup) : ((putI kv k v).map (·.1)).Nodup := by
  rw [putI_keys]
  split
  · exact h
  · rename_i hk
    rw [List.nodup_append]
    refine ⟨h, by simp, fun a ha b hb => ?_⟩
    rw [List.mem_singleton] at hb
    subst hb
    exact fun e => hk (e ▸ ha)
theorem putI_len (kv : List (Int × Int)) (k v : Int) : (putI kv k v).length ≤ kv.length + 1 := by
  have := congrArg List.length (putI_keys kv k v)
  rw [List.length_map] at this
  rw [this]
  split <;> simp
theorem putI_ne (kv : List (Int × Int)) (k v : Int) : k ∈ (putI kv k v).map (·.1) := by
  rw [putI_keys]
  split
  · assumption
  · simp
theorem putI_keep {kv : List (Int × Int)} {k v b : Int} (h : b ∈ kv.map (·.1)) : b ∈ (putI kv k v).map (·.1) := by
  rw [putI_keys]
  split
  · assumption
  · exact List.mem_append_left _ h
/-- a row drawn -/
structure RowOk (q M far : Int) (kv : List (Int × Int)) : Prop where
  so : kv.Pairwise fun a b => a.1 < b.1
  v : ∀ t ∈ kv, 1 ≤ t.2 ∧ t.2 < q
  len : kv.length ≤ M
  b : ∃ b : Int, b ∈ kv.map (·.1) ∧ (-far ≤ b ∨ -10 ≤ b) ∧ (b ≤ far ∨ b ≤ 10) ∧ ∀ t ∈ kv, b ≤ t.1 ∧ t.1 ≤ b + 40
@[reducible] def rRow (M : Nat) : PR := fun as k => ∃ (q : Int) (r : List D) (many far : Int), as = [.tup (.int q :: r), .int many, .int far] ∧ (q = 2 ∨ q = 3 ∨ q = 5) ∧ 1 ≤ many ∧ many ≤ M ∧ 0 ≤ far ∧ far ≤ 2 ^ 150 ∧ ∀ kv, RowOk q M far kv → k (.lst (kv.map tupI))
theorem sorted_lt {kv l : List (Int × Int)} (pm : l.Perm kv) (nd : (kv.map (·.1)).Nodup) (so : l.Pairwise fun e f => e.1 ≤ f.1) : l.Pairwise fun a b => a.1 < b.1 := by
  have nd' : (l.map (·.1)).Nodup := ((pm.map (·.1)).nodup_iff).mpr nd
  rw [List.Nodup, List.pairwise_map] at nd'
  exact (so.and nd').imp fun ⟨a, b⟩ => by omega
theorem walk__law_row {M : Nat} (hM : M ≤ 1000) {K : PySem.W.Frag} {vs : List D} {ms : MS} {kd : DK} {xk : Addr → D → MS → Prop} (h : spF (3 * M + 8) (rRow M) vs ms kd xk) : vS [gDraw] (dX K xk) ir__law_row (startD nm__law_row vs) ms (dN K kd) := by
  obtain ⟨p, as, n, ms0, rfl, rfl, hn, q, rs, many, far, rfl, hq, m1, m2, f0, f1, kq⟩ := h
  (simp only [startD, List.map_cons, List.map_nil, List.length_cons, List.length_nil, List.cons_append, List.nil_append, List.replicate, Nat.reduceAdd, Nat.reduceSub]; with_reducible conv => whnf)
  refine ⟨p, _, _, 0, rfl, .z, by omega, _, rfl, by decide, by decide, fun a a0 a1 => ?_⟩
  with_reducible conv => whnf
  refine ⟨.inl (.inl ⟨by decide, by decide⟩), ?_⟩
  with_reducible conv => whnf
  refine ⟨p, _, _, 0, rfl, .z, by omega, _, rfl, by omega, by omega, fun b b0 b1 => ?_⟩
  with_reducible conv => whnf
  refine ⟨lsz (by simp), p, _, _, 0, rfl, .z, by omega, _, rfl, by decide, by decide, fun c c0 c1 => ?_⟩
  with_reducible conv => whnf
  have h1 : ∃ bg : Int, atI [D.int 0, .int (a - 10), .int (b - far)] c = some (.int bg) ∧ (-far ≤ bg ∨ -10 ≤ bg) ∧ (bg ≤ far ∨ bg ≤ 10) := by
    rcases (show c = 0 ∨ c = 1 ∨ c = 2 by omega) with rfl | rfl | rfl
    · exact ⟨_, rfl, by omega, by omega⟩
    · exact ⟨_, rfl, by omega, by omega⟩
    · exact ⟨_, rfl, by omega, by omega⟩
  obtain ⟨bg, hat, hb1, hb2⟩ := h1
  refine ⟨_, hat, ?_⟩
  with_reducible conv => whnf
  refine ⟨p, _, _, 0, rfl, .z, by omega, _, rfl, by decide, by decide, fun d d0 d1 => ?_⟩
  with_reducible conv => whnf
  refine ⟨p, _, _, 0, rfl, .z, by omega, _, rfl, by decide, by decide, fun e e0 e1 => ?_⟩
  with_reducible conv => whnf
  refine ⟨lsz (by simp), p, _, _, 0, rfl, .z, by omega, _, rfl, by decide, by decide, fun g g0 g1 => ?_⟩
  with_reducible conv => whnf
  have h2 : ∃ wd : Int, atI [D.int d, .int 40, .int e] g = some (.int wd) ∧ 0 ≤ wd ∧ wd ≤ 40 := by
    rcases (show g = 0 ∨ g = 1 ∨ g = 2 by omega) with rfl | rfl | rfl
    · exact ⟨_, rfl, by omega, by omega⟩
    · exact ⟨_, rfl, by omega, by omega⟩
    · exact ⟨_, rfl, by omega, by omega⟩
  obtain ⟨wd, hat2, hw1, hw2⟩ := h2
  refine ⟨_, hat2, ?_⟩
  with_reducible conv => whnf
  intro pf
  with_reducible conv => whnf
  refine ⟨_, atI_head, ?_⟩
  with_reducible conv => whnf
  refine ⟨p, _, _, 1, rfl, .s .z, by omega, _, rfl, by omega, by omega, fun v v0 v1 => ?_⟩
  with_reducible conv => whnf
  refine ⟨0, _, .z, ?_⟩
  with_reducible conv => whnf
  refine ⟨by rw [sizeLine_eq]; decide, ?_⟩
  with_reducible conv => whnf
  refine ⟨p, _, _, 1, rfl, .s .z, by omega, _, rfl, by omega, by omega, fun tn t0 t1 => ?_⟩
  with_reducible conv => whnf
  refine ⟨by omega, ?_⟩
  with_reducible conv => whnf
  rw [rangeD_map]
  refine vForL_ix (f := fun i : Nat => D.int (0 + (i : Int))) _ (fun i ds' ms' => ∃ (kv : List (Int × Int)) (m : Nat), ds' = [some (.adr p), some (.tup (.int q :: rs)), none, none, some (.int bg), some (.int wd), some (.adr pf), none, none] ∧ ms' = (pf, .dic (intD kv)) :: (p, poolM (n + m)) :: ms0 ∧ m ≤ 8 + 3 * i ∧ kv.length ≤ i + 1 ∧
    bg ∈ kv.map (·.1) ∧ (∀ t ∈ kv, 1 ≤ t.2 ∧ t.2 < q ∧ bg ≤ t.1 ∧ t.1 ≤ bg + 40) ∧ (kv.map (·.1)).Nodup) ⟨[(bg, 1 + v)], 8, rfl, rfl, Nat.le_refl _, Nat.le_refl _, by simp, fun t ht => ?_, by simp⟩ (fun ds' ms' hq => ?_) (fun i a ds' ms' R ha hR hq => ?_)
  · rw [List.mem_singleton] at ht
    subst ht
    exact ⟨by omega, by omega, Int.le_refl _, by show bg ≤ bg + 40; omega⟩
  · obtain ⟨kv, m, rfl, rfl, hm, hl, hbm, ht, hnd⟩ := hq
    rw [List.length_range] at hl hm
    refine ⟨trivial, ?_⟩
    with_reducible conv => whnf
    refine ⟨0, _, .z, ?_⟩
    with_reducible conv => whnf
    refine ⟨kv, rfl, fun pl ps pm so => ?_⟩
    with_reducible conv => whnf
    refine ⟨0, _, .z, ?_⟩
    with_reducible conv => whnf
    refine ⟨_, mle_more (by omega), kq ps ⟨sorted_lt pm hnd so, fun t h => ?_, by rw [pm.length_eq]; omega, bg, ((pm.map (·.1)).mem_iff).mpr hbm, hb1, hb2, fun t h => ?_⟩⟩
    · obtain ⟨a1, a2, a3, a4⟩ := ht t (pm.mem_iff.mp h)
      exact ⟨a1, a2⟩
    · obtain ⟨a1, a2, a3, a4⟩ := ht t (pm.mem_iff.mp h)
      exact ⟨a3, a4⟩
  · obtain ⟨kv, m, rfl, rfl, hm, hl, hbm, ht, hnd⟩ := hq
    obtain ⟨rfl, hi⟩ := range_ix ha
    refine ⟨trivial, ?_⟩
    with_reducible conv => whnf
    refine ⟨p, _, _, 1, rfl, .s .z, by omega, _, rfl, by omega, by omega, fun x x0 x1 => ?_⟩
    with_reducible conv => whnf
    refine ⟨lsz (by simp), p, _, _, 1, rfl, .s .z, by omega, _, rfl, by decide, by decide, fun y y0 y1 => ?_⟩
    with_reducible conv => whnf
    have h3 : ∃ z : Int, atI [D.int wd, .int x] y = some (.int z) ∧ 0 ≤ z ∧ z ≤ 40 := by
      rcases (show y = 0 ∨ y = 1 by omega) with rfl | rfl
      · exact ⟨_, rfl, by omega, by omega⟩
      · exact ⟨_, rfl, by omega, by omega⟩
    obtain ⟨z, hat3, hz1, hz2⟩ := h3
    refine ⟨_, hat3, ?_⟩
    with_reducible conv => whnf
    refine ⟨_, atI_head, ?_⟩
    with_reducible conv => whnf
    refine ⟨p, _, _, 1, rfl, .s .z, by omega, _, rfl, by omega, by omega, fun u u0 u1 => ?_⟩
    with_reducible conv => whnf
    refine ⟨0, _, .z, ?_⟩
    with_reducible conv => whnf
    refine ⟨len_lt (by unfold DL.intD; rw [List.length_map]; omega), ?_⟩
    rw [putD_int]
    refine hR _ _ ⟨putI kv (bg + z) (1 + u), m + 3, rfl, rfl, by omega, Nat.le_trans (putI_len ..) (by omega), putI_keep hbm, fun t h => ?_, putI_nd hnd⟩
    rcases putI_mem h with rfl | h
    · exact ⟨by omega, by omega, by show bg ≤ bg + z; omega, by show bg + z ≤ bg + 40; omega⟩
    · exact ht t h
end Lb

/-! LIBC: sums of cells. -/
namespace Lb
open PySem PySem.Spec PyProof.Rows L2 DL
abbrev ir_plain : ST := (.cons (.ret (.dc (.var 2) (.bin .Mod (.var 3) (.var 1)) (.tup (.cons (.nm 2) (.cons (.nm 3) .nil))) (.itIt (.var 0)) (.cons (.cmp .NotEq (.bin .Mod (.var 3) (.var 1)) (.int 0)) .nil) [("place", 2), ("value", 3)]))
 .nil)
abbrev gn_plain : GN := []
abbrev nm_plain : List Str := ["cells", "prime", "place", "value"]
abbrev ir_multiplied : ST := (.cons (.asg (.nm 3) .dic0)
 (.cons (.forS (.tup (.cons (.nm 4) (.cons (.nm 5) .nil))) (.itIt (.var 0)) [0, 4, 5, 6, 7]
 (.cons (.forS (.tup (.cons (.nm 6) (.cons (.nm 7) .nil))) (.itIt (.var 1)) [0, 6, 7]
 (.cons (.sub (.var 3) (.bin .Add (.var 4) (.var 6)) (.bin .Add (.getM (.var 3) (.bin .Add (.var 4) (.var 6)) (.int 0)) (.bin .Mult (.var 5) (.var 7))))
 .nil))
 .nil))
 (.cons (.frzvD 3)
 (.cons (.ret (.call 0 (.cons (.var 3) (.cons (.var 2) .nil))))
 .nil))))
abbrev gn_multiplied : GN := [.fn "plain" 2]
abbrev nm_multiplied : List Str := ["one", "other", "prime", "found", "place", "value", "offset", "factor"]
abbrev ir_check_terms : ST := (.cons (.ife (.cmp .Eq (.var 1) (.lst false .nil))
 (.cons (.raise 0 .non)
 .nil)
 .nil)
 (.cons (.asg (.nm 2) (.lst true .nil))
 (.cons (.forS (.tup (.cons (.nm 3) (.cons (.tup (.cons (.nm 4) (.cons (.nm 5) .nil))) .nil))) (.itEn (.var 1)) [1, 3, 4, 5]
 (.cons (.ife (.or (.cons (.not (.chain .LtE .Lt (.int 1) (.var 4) (.var 0))) (.cons (.cmp .In (.var 5) (.var 2)) .nil)))
 (.cons (.raise 0 (.var 3))
 .nil)
 .nil)
 (.cons (.ex (.mth .append (.var 2) (.cons (.var 5) .nil)))
 .nil)))
 .nil)))
abbrev gn_check_terms : GN := [.er "InvalidTerm"]
abbrev nm_check_terms : List Str := ["prime", "terms", "seen", "number", "coefficient", "offset"]
abbrev ir_lessened : ST := (.cons (.ret (.lc false (.bin .Mod (.bin .Sub (.var 4) (.bin .Mult (.var 2) (.var 5))) (.var 3)) (.tup (.cons (.nm 4) (.cons (.nm 5) .nil))) (.itZip (.var 0) (.var 1)) .nil [("one", 4), ("two", 5)]))
 .nil)
abbrev gn_lessened : GN := []
abbrev nm_lessened : List Str := ["line", "other", "factor", "prime", "one", "two"]
def plainL (kv : List (Int × Int)) (p : Int) : List (Int × Int) := (kv.filter fun q => decide (¬ q.2 % p = 0)).map fun q => (q.1, q.2 % p)
abbrev Nd (kv : List (Int × Int)) : Prop := (kv.map (·.1)).Nodup
theorem foldl_take {α β : Type} {f : β → α → β} {l : List α} {i : Nat} {a : α} {z : β} (h : l[i]? = some a) : (l.take (i + 1)).foldl f z = f ((l.take i).foldl f z) a := by
  rw [List.take_add_one, h, List.foldl_append]; rfl
theorem flatMap_take {α β : Type} {f : α → List β} {l : List α} {i : Nat} {a : α} (h : l[i]? = some a) : (l.take (i + 1)).flatMap f = (l.take i).flatMap f ++ f a := by
  rw [List.take_add_one, h, List.flatMap_append]; simp
theorem map_take1 {α β : Type} {f : α → β} {l : List α} {i : Nat} {a : α} (h : l[i]? = some a) : (l.take (i + 1)).map f = (l.take i).map f ++ [f a] := by
  rw [List.take_add_one, h, List.map_append]; rfl
theorem plainL_take {kv : List (Int × Int)} {p : Int} {i : Nat} {q : Int × Int} (h : kv[i]? = some q) : plainL (kv.take (i + 1)) p = plainL (kv.take i) p ++ (if q.2 % p = 0 then [] else [(q.1, q.2 % p)]) := by
  unfold plainL
  rw [List.take_add_one, h, List.filter_append, List.map_append]
  congr 1
  show (([q] : List (Int × Int)).filter _).map _ = _
  rw [List.filter_cons]
  by_cases hq : q.2 % p = 0
  · rw [if_neg (by simpa using hq), if_pos hq]; rfl
  · rw [if_pos (by simpa using hq), if_neg hq]; rfl
theorem plainL_keys {kv : List (Int × Int)} {p : Int} : ∀ t ∈ plainL kv p, t.1 ∈ kv.map (·.1) ∧ t.2 % p = t.2 ∧ t.2 ≠ 0 := fun t h => by
  unfold plainL at h
  obtain ⟨q, h1, rfl⟩ := List.mem_map.mp h
  rw [List.mem_filter] at h1
  exact ⟨List.mem_map_of_mem (f := (·.1)) h1.1, Int.emod_emod_of_dvd _ (Int.dvd_refl p), by simpa using h1.2⟩
theorem plainL_sub (kv : List (Int × Int)) (p : Int) : ((plainL kv p).map (·.1)).Sublist (kv.map (·.1)) := by
  unfold plainL
  rw [List.map_map]
  exact (List.filter_sublist).map _
theorem plainL_nd {kv : List (Int × Int)} {p : Int} (h : Nd kv) : Nd (plainL kv p) := h.sublist (plainL_sub kv p)
theorem plainL_len (kv : List (Int × Int)) (p : Int) : (plainL kv p).length ≤ kv.length := by
  unfold plainL
  rw [List.length_map]
  exact List.length_filter_le ..
theorem intD_len (kv : List (Int × Int)) : (DL.intD kv).length = kv.length := by unfold DL.intD; rw [List.length_map]
theorem putD_new {kvs : List (Key × D)} {k : Key} {d : D} (h : k ∉ kvs.map (·.1)) : putD kvs k d = kvs ++ [(k, d)] := by
  unfold putD
  rw [if_neg]
  simp only [List.any_eq_true, decide_eq_true_eq, not_exists, not_and]
  intro x hx e
  exact h (by rw [← e]; exact List.mem_map_of_mem hx)
theorem putI_app {kv : List (Int × Int)} {k v : Int} (h : k ∉ kv.map (·.1)) : putI kv k v = kv ++ [(k, v)] := putI_new h
def spPlain : DSp := fun vs ms kd _ => ∃ kv p, vs = [.dic (DL.intD kv), .int p] ∧ 0 < p ∧ Nd kv ∧ kv.length ≤ 100000 ∧ kd (.dic (DL.intD (plainL kv p))) ms
theorem walk_plain {K : PySem.W.Frag} {vs : List D} {ms : MS} {kd : DK} {xk : Addr → D → MS → Prop} (h : spPlain vs ms kd xk) : vS [] (dX K xk) ir_plain (startD nm_plain vs) ms (dN K kd) := by
  obtain ⟨kv, p, rfl, hp, nd, hl, q⟩ := h
  (simp only [startD, List.map_cons, List.map_nil, List.length_cons, List.length_nil, List.cons_append, List.nil_append, List.replicate, Nat.reduceAdd, Nat.reduceSub]; with_reducible conv => whnf)
  rw [pairD_int]
  refine vDc_ix (f := fun p : Int × Int => D.tup [.int p.1, .int p.2]) kv (fun i acc ms' => ms' = ms ∧ acc = DL.intD (plainL (kv.take i) p)) ⟨rfl, rfl⟩ (fun acc ms' h => ?_) (fun i a acc ms' R ha hR h => ?_)
  · obtain ⟨rfl, rfl⟩ := h
    rw [List.take_length]
    exact ⟨fun _ => trivial, _, MLe.refl _ _, q⟩
  · obtain ⟨rfl, rfl⟩ := h
    have e := plainL_take (p := p) ha
    have hn : a.1 ∉ (plainL (kv.take i) p).map (·.1) := fun hm => by
      have h1 := (plainL_sub (kv.take i) p).subset hm
      have h2 : (kv.take (i + 1)).map (·.1) = (kv.take i).map (·.1) ++ [a.1] := map_take1 (f := (·.1)) ha
      have h3 : Nd (kv.take (i + 1)) := nd.sublist ((List.take_sublist ..).map _)
      unfold Nd at h3
      rw [h2, List.nodup_append] at h3
      exact h3.2.2 _ h1 a.1 (by simp) rfl
    have hln := plainL_len (kv.take i) p
    rw [List.length_take] at hln
    have hi := (List.getElem?_eq_some_iff.mp ha).1
    refine ⟨fun _ => trivial, ?_⟩
    with_reducible conv => whnf
    intro L
    with_reducible conv => whnf
    refine ⟨hp, ?_⟩
    with_reducible conv => whnf
    refine vIf_nec (fun h => ?_) fun h => ?_
    · with_reducible conv => whnf
      refine ⟨hp, ?_⟩
      with_reducible conv => whnf
      refine ⟨len_lt (by rw [intD_len]; omega), Off.z (hR _ _ ⟨rfl, ?_⟩)⟩
      rw [putD_int, putI_app hn, e, if_neg h]
    · refine Off.z (hR _ _ ⟨rfl, ?_⟩)
      rw [e, if_pos h, List.append_nil]
/-! ### products -/
def getI (kv : List (Int × Int)) (k : Int) : Int := ((kv.find? fun q => decide (q.1 = k)).map (·.2)).getD 0
def mulIn (a : Int × Int) (acc other : List (Int × Int)) : List (Int × Int) := other.foldl (fun acc b => putI acc (a.1 + b.1) (getI acc (a.1 + b.1) + a.2 * b.2)) acc
def mulL (one other : List (Int × Int)) : List (Int × Int) := one.foldl (fun acc a => mulIn a acc other) []
def mulP (one other : List (Int × Int)) (p : Int) : List (Int × Int) := plainL (mulL one other) p
theorem valD_int (kv : List (Int × Int)) (k : Int) : (valD (DL.intD kv) (.inl k)).getD (.int 0) = .int (getI kv k) := by
  unfold getI valD DL.intD
  rw [List.find?_map]
  have e : ((fun kv : Key × D => decide (kv.1 = Sum.inl k)) ∘ fun q : Int × Int => ((Sum.inl q.1 : Key), D.int q.2)) = fun q : Int × Int => decide (q.1 = k) := by
    funext q
    simp
  rw [e]
  cases kv.find? fun q => decide (q.1 = k) <;> rfl
theorem mulIn_nd {a : Int × Int} {other acc : List (Int × Int)} (h : Nd acc) : Nd (mulIn a acc other) := by
  unfold mulIn
  induction other generalizing acc with
  | nil => exact h
  | cons b r ih => exact ih (putI_nd h)
theorem mulIn_len (a : Int × Int) (other acc : List (Int × Int)) : (mulIn a acc other).length ≤ acc.length + other.length := by
  unfold mulIn
  induction other generalizing acc with
  | nil => exact Nat.le_refl _
  | cons b r ih =>
    have h1 := ih (putI acc (a.1 + b.1) (getI acc (a.1 + b.1) + a.2 * b.2))
    have h2 := putI_len acc (a.1 + b.1) (getI acc (a.1 + b.1) + a.2 * b.2)
    rw [List.foldl_cons, List.length_cons]
    omega
theorem mulF_nd {one other acc : List (Int × Int)} (h : Nd acc) : Nd (one.foldl (fun acc a => mulIn a acc other) acc) := by
  induction one generalizing acc with
  | nil => exact h
  | cons b r ih => exact ih (mulIn_nd h)
theorem mulF_len (one other acc : List (Int × Int)) : (one.foldl (fun acc a => mulIn a acc other) acc).length ≤ acc.length + one.length * other.length := by
  induction one generalizing acc with
  | nil => simp
  | cons b r ih =>
    have h1 := ih (mulIn b acc other)
    have h2 := mulIn_len b other acc
    rw [List.foldl_cons, List.length_cons, Nat.succ_mul]
    omega
def spMul : DSp := fun vs ms kd _ => ∃ a b p, vs = [.dic (DL.intD a), .dic (DL.intD b), .int p] ∧ 0 < p ∧ a.length * b.length ≤ 100000 ∧ (∀ q ∈ b, q.2.natAbs < 2 ^ 64) ∧ kd (.dic (DL.intD (mulP a b p))) ms
abbrev gPlain : Ent := .fn "plain" 2 spPlain
theorem walk_multiplied {K : PySem.W.Frag} {vs : List D} {ms : MS} {kd : DK} {xk : Addr → D → MS → Prop} (h : spMul vs ms kd xk) : vS [gPlain] (dX K xk) ir_multiplied (startD nm_multiplied vs) ms (dN K kd) := by
  obtain ⟨a, b, p, rfl, hp, hl, hb, q⟩ := h
  (simp only [startD, List.map_cons, List.map_nil, List.length_cons, List.length_nil, List.cons_append, List.nil_append, List.replicate, Nat.reduceAdd, Nat.reduceSub]; with_reducible conv => whnf)
  intro pf
  with_reducible conv => whnf
  rw [pairD_int]
  refine vForL_ix (f := fun p : Int × Int => D.tup [.int p.1, .int p.2]) a (fun i ds' ms' => ds' = [none, some (.dic (DL.intD b)), some (.int p), some (.adr pf), none, none, none, none] ∧ ms' = (pf, .dic (DL.intD ((a.take i).foldl (fun acc a => mulIn a acc b) []))) :: ms) ⟨rfl, rfl⟩ (fun ds' ms' h => ?_) (fun i x ds' ms' R hx hR h => ?_)
  · obtain ⟨rfl, rfl⟩ := h
    rw [List.take_length]
    refine ⟨trivial, ?_⟩
    with_reducible conv => whnf
    refine ⟨0, _, .z, ?_⟩
    with_reducible conv => whnf
    have h1 := mulF_len a b []
    exact ⟨_, p, rfl, hp, mulF_nd List.nodup_nil, by rw [List.length_nil] at h1; omega, _, MLe.refl _ _, q⟩
  · obtain ⟨rfl, rfl⟩ := h
    have hi := (List.getElem?_eq_some_iff.mp hx).1
    have hle : ∀ j, j ≤ b.length → (mulIn x ((a.take i).foldl (fun acc a => mulIn a acc b) []) (b.take j)).length ≤ 100000 := fun j hj => by
      have h1 := mulF_len (a.take i) b []
      have h2 := mulIn_len x (b.take j) ((a.take i).foldl (fun acc a => mulIn a acc b) [])
      rw [List.length_take, Nat.min_eq_left (Nat.le_of_lt hi), List.length_nil] at h1
      rw [List.length_take, Nat.min_eq_left hj] at h2
      have h3 : (i + 1) * b.length ≤ a.length * b.length := Nat.mul_le_mul_right _ hi
      rw [Nat.succ_mul] at h3
      omega
    refine ⟨trivial, ?_⟩
    with_reducible conv => whnf
    rw [pairD_int]
    refine vForL_ix (f := fun p : Int × Int => D.tup [.int p.1, .int p.2]) b (fun j ds' ms' => ds' = [none, some (.dic (DL.intD b)), some (.int p), some (.adr pf), some (.int x.1), some (.int x.2), none, none] ∧ ms' = (pf, .dic (DL.intD (mulIn x ((a.take i).foldl (fun acc a => mulIn a acc b) []) (b.take j)))) :: ms) ⟨rfl, rfl⟩ (fun ds' ms' h => ?_) (fun j y ds' ms' R2 hy hR2 h => ?_)
    · obtain ⟨rfl, rfl⟩ := h
      rw [List.take_length]
      refine ⟨trivial, ?_⟩
      with_reducible conv => whnf
      exact hR _ _ ⟨rfl, by rw [foldl_take hx]⟩
    · obtain ⟨rfl, rfl⟩ := h
      have hj := (List.getElem?_eq_some_iff.mp hy).1
      refine ⟨trivial, ?_⟩
      with_reducible conv => whnf
      refine ⟨0, _, .z, ?_⟩
      with_reducible conv => whnf
      refine ⟨0, _, .z, ?_⟩
      with_reducible conv => whnf
      rw [valD_int]
      with_reducible conv => whnf
      refine ⟨.inl (.inr ?_), ?_⟩
      · have := hb y (List.mem_of_getElem? hy)
        omega
      with_reducible conv => whnf
      refine ⟨0, _, .z, Nat.lt_of_le_of_lt (by rw [intD_len]; exact hle j (Nat.le_of_lt hj)) (by rw [sizeLine_eq]; decide), ?_⟩
      with_reducible conv => whnf
      rw [putD_int]
      refine hR2 _ _ ⟨rfl, ?_⟩
      unfold mulIn
      rw [foldl_take hy]
end Lb

/-! LIBD: lines, terms. -/
namespace Lb
open PySem PySem.Spec PyProof.Rows L2 DL
theorem vEqX_nil {xs : List D} {ms : MS} {kb : KB} (q : kb xs.isEmpty ms) : vEqX (.lst xs) (.lst []) ms kb := ⟨1, _, _, _, EqS.nil xs, .f, .f, by decide, q⟩
theorem vEqX_map {α : Type} [DecidableEq α] {n : Nat} {f : α → D} {as bs : List α} {ms : MS} {kb : KB} (h : ∀ a b, EqS n (f a) (f b) (decide (a = b))) (hn : n ≤ 50) (q : kb (decide (as = bs)) ms) : vEqX (.lst (as.map f)) (.lst (bs.map f)) ms kb := ⟨n + 1, _, _, _, EqS.map h as bs, .f, .f, by omega, q⟩
abbrev intsD (xs : List Int) : D := .lst (xs.map D.int)
def lessL (xs ys : List Int) (f p : Int) : List Int := List.zipWith (fun a b => (a - f * b) % p) xs ys
def spLess : DSp := fun vs ms kd _ => ∃ xs ys f p, vs = [intsD xs, intsD ys, .int f, .int p] ∧ 0 < p ∧ f.natAbs < 2 ^ 64 ∧ xs.length ≤ 100000 ∧ kd (intsD (lessL xs ys f p)) ms
theorem walk_lessened {K : PySem.W.Frag} {vs : List D} {ms : MS} {kd : DK} {xk : Addr → D → MS → Prop} (h : spLess vs ms kd xk) : vS [] (dX K xk) ir_lessened (startD nm_lessened vs) ms (dN K kd) := by
  obtain ⟨xs, ys, f, p, rfl, hp, hf, hl, q⟩ := h
  (simp only [startD, List.map_cons, List.map_nil, List.length_cons, List.length_nil, List.cons_append, List.nil_append, List.replicate, Nat.reduceAdd, Nat.reduceSub]; with_reducible conv => whnf)
  rw [zipD_map]
  refine vLc_ix (f := fun p : Int × Int => D.tup [.int p.1, .int p.2]) (xs.zip ys) (fun i acc ms2 => ms2 = ms ∧ acc = (((xs.zip ys).take i).map fun z => (z.1 - f * z.2) % p).map D.int) ⟨rfl, rfl⟩ (fun acc ms2 h => ?_) (fun i a acc ms2 R ha hR h => ?_)
  · obtain ⟨rfl, rfl⟩ := h
    rw [List.take_length]
    refine ⟨fun _ => trivial, ?_⟩
    have e : ((xs.zip ys).map fun z => (z.1 - f * z.2) % p) = lessL xs ys f p := by
      unfold lessL
      rw [List.zip, List.map_zipWith]
    rw [e]
    exact ⟨_, MLe.refl _ _, q⟩
  · obtain ⟨rfl, rfl⟩ := h
    have hi := (List.getElem?_eq_some_iff.mp ha).1
    rw [List.length_zip] at hi
    refine ⟨fun _ => trivial, ?_⟩
    with_reducible conv => whnf
    intro L
    with_reducible conv => whnf
    refine ⟨.inl (.inl (by omega)), ?_⟩
    with_reducible conv => whnf
    refine ⟨hp, ?_⟩
    with_reducible conv => whnf
    refine ⟨len_lt (by rw [List.length_map, List.length_map, List.length_take]; omega), Off.z (hR _ _ ⟨rfl, ?_⟩)⟩
    rw [map_take1 ha, List.map_append]
    rfl
theorem flat_ints (xs : List Int) : (xs.map D.int).all flatD = true := by
  rw [List.all_map, List.all_eq_true]
  exact fun x _ => rfl
/-! ### terms -/
def badT (p : Int) : List (Int × Int) → Nat → List Int → Option Nat
  | [], _, _ => none
  | t :: r, i, seen => if ¬ (1 ≤ t.1 ∧ t.1 < p) ∨ t.2 ∈ seen then some i else badT p r (i + 1) (seen ++ [t.2])
theorem badT_cons {p : Int} {t : Int × Int} {r : List (Int × Int)} {i : Nat} {seen : List Int} : badT p (t :: r) i seen = if ¬ (1 ≤ t.1 ∧ t.1 < p) ∨ t.2 ∈ seen then some i else badT p r (i + 1) (seen ++ [t.2]) := rfl
theorem drop_at {α : Type} {l : List α} {i : Nat} {a : α} (h : l[i]? = some a) : l.drop i = a :: l.drop (i + 1) := by
  have hi := (List.getElem?_eq_some_iff.mp h).1
  rw [List.drop_eq_getElem_cons hi, (List.getElem?_eq_some_iff.mp h).2]
theorem zipIdx_at {α : Type} {l : List α} {i : Nat} {x : α × Nat} (h : l.zipIdx[i]? = some x) : l[i]? = some x.1 ∧ x.2 = i := by
  rw [List.getElem?_zipIdx] at h
  cases ht : l[i]? with
  | none => rw [ht] at h; cases h
  | some t => rw [ht] at h; cases h; exact ⟨rfl, by simp⟩
def termsE (p : Int) (ts : List (Int × Int)) : Option D := if ts = [] then some .non else (badT p ts 0 []).map fun i : Nat => D.int (i : Int)
def spTerms (Ci : Addr) : DSp := fun vs ms kd xk => ∃ p ts, vs = [.int p, .lst (ts.map tupI)] ∧ ts.length ≤ 100000 ∧ match termsE p ts with
  | none => kd .non ms
  | some d => xk Ci d ms
theorem walk_check_terms {Ci : Addr} {K : PySem.W.Frag} {vs : List D} {ms : MS} {kd : DK} {xk : Addr → D → MS → Prop} (h : spTerms Ci vs ms kd xk) : vS [.er "InvalidTerm" Ci] (dX K xk) ir_check_terms (startD nm_check_terms vs) ms (dN K kd) := by
  obtain ⟨p, ts, rfl, hl, q⟩ := h
  (simp only [startD, List.map_cons, List.map_nil, List.length_cons, List.length_nil, List.cons_append, List.nil_append, List.replicate, Nat.reduceAdd, Nat.reduceSub]; with_reducible conv => whnf)
  refine ⟨by decide, vEqX_nil ?_⟩
  refine vIf_bl (fun h => ?_) (fun h => ?_)
  · with_reducible conv => whnf
    have h0 : ts = [] := by cases ts with
      | nil => rfl
      | cons _ _ => cases h
    subst h0
    exact ⟨_, MLe.refl _ _, q⟩
  · with_reducible conv => whnf
    have h0 : ts ≠ [] := by rintro rfl; cases h
    unfold termsE at q
    rw [if_neg h0] at q
    refine ⟨by decide, fun pl => ?_⟩
    with_reducible conv => whnf
    rw [enumD_map]
    refine vForL_ix (f := fun p : (Int × Int) × Nat => D.tup [.int (p.2 : Int), tupI p.1]) ts.zipIdx (fun i ds' ms' => ds' = [some (.int p), none, some (.adr pl), none, none, none] ∧ ms' = (pl, .lst (((ts.take i).map (·.2)).map D.int)) :: ms ∧ badT p ts 0 [] = badT p (ts.drop i) i ((ts.take i).map (·.2))) ⟨rfl, rfl, rfl⟩ (fun ds' ms' h => ?_) (fun i x ds' ms' R hx hR h => ?_)
    · obtain ⟨rfl, rfl, hb⟩ := h
      rw [List.length_zipIdx, List.drop_length] at hb
      rw [hb] at q
      exact ⟨trivial, _, MLe.tail, q⟩
    · obtain ⟨rfl, rfl, hb⟩ := h
      have hx' := zipIdx_at hx
      obtain ⟨⟨c, o⟩, j⟩ := x
      obtain ⟨hx1, hx2⟩ := hx'
      have hx2 : j = i := hx2
      subst hx2
      have hi := (List.getElem?_eq_some_iff.mp hx1).1
      rw [drop_at hx1, badT_cons] at hb
      refine ⟨trivial, ?_⟩
      with_reducible conv => whnf
      have bad : (¬ (1 ≤ c ∧ c < p) ∨ o ∈ (ts.take j).map (·.2)) → xk Ci (.int j) ms := fun hc => by
        rw [hb, if_pos hc] at q
        exact q
      have good : ¬ (¬ (1 ≤ c ∧ c < p) ∨ o ∈ (ts.take j).map (·.2)) → badT p ts 0 [] = badT p (ts.drop (j + 1)) (j + 1) ((ts.take (j + 1)).map (·.2)) := fun hc => by
        rw [hb, if_neg hc, map_take1 hx1]
      refine vIf_dec (fun h1 => ?_) fun h1 => ?_
      rotate_left
      · with_reducible conv => whnf
        exact ⟨_, MLe.tail, bad (.inl fun h => h1 h.1)⟩
      with_reducible conv => whnf
      refine vIf_nec (fun h2 => ?_) fun h2 => ?_
      · with_reducible conv => whnf
        exact ⟨_, MLe.tail, bad (.inl fun h => h2 h.2)⟩
      with_reducible conv => whnf
      refine ⟨0, _, .z, ⟨rfl, flat_ints _⟩, ?_⟩
      rw [inD_int]
      refine vIf_dec (fun h3 => ?_) fun h3 => ?_
      · with_reducible conv => whnf
        exact ⟨_, MLe.tail, bad (.inr h3)⟩
      · with_reducible conv => whnf
        refine ⟨⟨_, .m .z⟩, ?_⟩
        with_reducible conv => whnf
        refine ⟨0, _, .z, len_lt (by rw [List.length_map, List.length_map, List.length_take]; omega), ?_⟩
        with_reducible conv => whnf
        refine hR _ _ ⟨rfl, ?_, good (fun h => h.elim (fun h => h ⟨h1, h2⟩) h3)⟩
        rw [map_take1 hx1, List.map_append]
        rfl
end Lb

/-! LIBE: rules. -/
namespace Lb
open PySem PySem.Spec PyProof.Rows L2 DL
abbrev ir_Rule_init : ST := (.cons (.ife (.cmp .NotIn (.var 1) (.glb 0))
 (.cons (.raise 1 (.var 1))
 .nil)
 .nil)
 (.cons (.ex (.call 2 (.cons (.var 1) (.cons (.var 2) .nil))))
 (.cons (.fld 3 (.var 0) (.var 1))
 (.cons (.fld 4 (.var 0) (.bi .tuple_ (.cons (.frz (.bi .sorted (.cons (.lc false (.tup (.cons (.var 5) (.cons (.var 4) .nil))) (.tup (.cons (.nm 4) (.cons (.nm 5) .nil))) (.itE (.var 2)) .nil [("coefficient", 4), ("offset", 5)]) .nil))) .nil)))
 (.cons (.fld 5 (.var 0) (.lst true (.cons (.dicI [(0, 1)]) .nil)))
 (.cons (.forS (.nm 3) (.itR2 (.int 1) (.var 1)) [2, 3, 4, 5]
 (.cons (.ex (.mth .append (.attr 5 (.var 0)) (.cons (.call 6 (.cons (.ix (.attr 5 (.var 0)) (.neg (.int 1))) (.cons (.frzD (.bi .dict_ (.cons (.attr 4 (.var 0)) .nil))) (.cons (.var 1) .nil)))) .nil)))
 .nil))
 (.cons (.fld 7 (.var 0) .dic0)
 (.cons (.frzF 0 "powers")
 (.cons (.frzF 0 "lowered")
 .nil)))))))))
abbrev gn_Rule_init : GN := [.cst "PRIMES", .er "InvalidPrime", .fn "check_terms" 2, .fl "modulus", .fl "parts", .fl "powers", .fn "multiplied" 3, .fl "lowered"]
abbrev nm_Rule_init : List Str := ["self", "prime", "terms", "steps", "coefficient", "offset"]
abbrev ir_Rule_prime : ST := (.cons (.ret (.attr 0 (.var 0)))
 .nil)
abbrev gn_Rule_prime : GN := [.fl "modulus"]
abbrev nm_Rule_prime : List Str := ["self"]
theorem sb_modulus_modulus : (("modulus" : Str) == "modulus") = true := by decide +kernel
theorem sb_modulus_parts : (("modulus" : Str) == "parts") = false := by decide +kernel
theorem se_modulus_parts : (("modulus" : Str) = "parts") = False := eq_false (by decide +kernel)
theorem sb_modulus_powers : (("modulus" : Str) == "powers") = false := by decide +kernel
theorem se_modulus_powers : (("modulus" : Str) = "powers") = False := eq_false (by decide +kernel)
theorem sb_modulus_lowered : (("modulus" : Str) == "lowered") = false := by decide +kernel
theorem se_modulus_lowered : (("modulus" : Str) = "lowered") = False := eq_false (by decide +kernel)
theorem sb_parts_modulus : (("parts" : Str) == "modulus") = false := by decide +kernel
theorem se_parts_modulus : (("parts" : Str) = "modulus") = False := eq_false (by decide +kernel)
theorem sb_parts_parts : (("parts" : Str) == "parts") = true := by decide +kernel
theorem sb_parts_powers : (("parts" : Str) == "powers") = false := by decide +kernel
theorem se_parts_powers : (("parts" : Str) = "powers") = False := eq_false (by decide +kernel)
theorem sb_parts_lowered : (("parts" : Str) == "lowered") = false := by decide +kernel
theorem se_parts_lowered : (("parts" : Str) = "lowered") = False := eq_false (by decide +kernel)
theorem sb_powers_modulus : (("powers" : Str) == "modulus") = false := by decide +kernel
theorem se_powers_modulus : (("powers" : Str) = "modulus") = False := eq_false (by decide +kernel)
theorem sb_powers_parts : (("powers" : Str) == "parts") = false := by decide +kernel
theorem se_powers_parts : (("powers" : Str) = "parts") = False := eq_false (by decide +kernel)
theorem sb_powers_powers : (("powers" : Str) == "powers") = true := by decide +kernel
theorem sb_powers_lowered : (("powers" : Str) == "lowered") = false := by decide +kernel
theorem se_powers_lowered : (("powers" : Str) = "lowered") = False := eq_false (by decide +kernel)
theorem sb_lowered_modulus : (("lowered" : Str) == "modulus") = false := by decide +kernel
theorem se_lowered_modulus : (("lowered" : Str) = "modulus") = False := eq_false (by decide +kernel)
theorem sb_lowered_parts : (("lowered" : Str) == "parts") = false := by decide +kernel
theorem se_lowered_parts : (("lowered" : Str) = "parts") = False := eq_false (by decide +kernel)
theorem sb_lowered_powers : (("lowered" : Str) == "powers") = false := by decide +kernel
theorem se_lowered_powers : (("lowered" : Str) = "powers") = False := eq_false (by decide +kernel)
theorem sb_lowered_lowered : (("lowered" : Str) == "lowered") = true := by decide +kernel
/-- what n steps make of a 1 at place 0 -/
def powK (parts : List (Int × Int)) (p : Int) : Nat → List (Int × Int)
  | 0 => [(0, 1)]
  | n + 1 => mulP (powK parts p n) parts p
def powsL (parts : List (Int × Int)) (p : Int) : List D := (List.range p.toNat).map fun k => D.dic (DL.intD (powK parts p k))
def ruleF (p : Int) (parts : List (Int × Int)) : List (Str × D) := [(("modulus" : Str), .int p), (("parts" : Str), .ttp (parts.map tupI)), (("powers" : Str), .lst (powsL parts p)), (("lowered" : Str), .dic [])]
def ruleD (C : Addr) (p : Int) (parts : List (Int × Int)) : D := .ins C (ruleF p parts)
theorem rl_modulus {p : Int} {parts : List (Int × Int)} : (ruleF p parts).lookup ("modulus" : Str) = some (.int p) := by simp only [ruleF, List.lookup_cons, sb_modulus_modulus, sb_modulus_parts, sb_modulus_powers, sb_modulus_lowered, sb_parts_modulus, sb_parts_parts, sb_parts_powers, sb_parts_lowered, sb_powers_modulus, sb_powers_parts, sb_powers_powers, sb_powers_lowered, sb_lowered_modulus, sb_lowered_parts, sb_lowered_powers, sb_lowered_lowered]
theorem rl_parts {p : Int} {parts : List (Int × Int)} : (ruleF p parts).lookup ("parts" : Str) = some (.ttp (parts.map tupI)) := by simp only [ruleF, List.lookup_cons, sb_modulus_modulus, sb_modulus_parts, sb_modulus_powers, sb_modulus_lowered, sb_parts_modulus, sb_parts_parts, sb_parts_powers, sb_parts_lowered, sb_powers_modulus, sb_powers_parts, sb_powers_powers, sb_powers_lowered, sb_lowered_modulus, sb_lowered_parts, sb_lowered_powers, sb_lowered_lowered]
theorem rl_powers {p : Int} {parts : List (Int × Int)} : (ruleF p parts).lookup ("powers" : Str) = some (.lst (powsL parts p)) := by simp only [ruleF, List.lookup_cons, sb_modulus_modulus, sb_modulus_parts, sb_modulus_powers, sb_modulus_lowered, sb_parts_modulus, sb_parts_parts, sb_parts_powers, sb_parts_lowered, sb_powers_modulus, sb_powers_parts, sb_powers_powers, sb_powers_lowered, sb_lowered_modulus, sb_lowered_parts, sb_lowered_powers, sb_lowered_lowered]
theorem rl_lowered {p : Int} {parts : List (Int × Int)} : (ruleF p parts).lookup ("lowered" : Str) = some (.dic []) := by simp only [ruleF, List.lookup_cons, sb_modulus_modulus, sb_modulus_parts, sb_modulus_powers, sb_modulus_lowered, sb_parts_modulus, sb_parts_parts, sb_parts_powers, sb_parts_lowered, sb_powers_modulus, sb_powers_parts, sb_powers_powers, sb_powers_lowered, sb_lowered_modulus, sb_lowered_parts, sb_lowered_powers, sb_lowered_lowered]
theorem pf1 {x v : D} : putFD ("parts" : Str) v [(("modulus" : Str), x)] = [(("modulus" : Str), x), (("parts" : Str), v)] := by simp only [putFD, se_modulus_parts, se_modulus_powers, se_modulus_lowered, se_parts_modulus, se_parts_powers, se_parts_lowered, se_powers_modulus, se_powers_parts, se_powers_lowered, se_lowered_modulus, se_lowered_parts, se_lowered_powers, if_false]
theorem pf2 {x y v : D} : putFD ("powers" : Str) v [(("modulus" : Str), x), (("parts" : Str), y)] = [(("modulus" : Str), x), (("parts" : Str), y), (("powers" : Str), v)] := by simp only [putFD, se_modulus_parts, se_modulus_powers, se_modulus_lowered, se_parts_modulus, se_parts_powers, se_parts_lowered, se_powers_modulus, se_powers_parts, se_powers_lowered, se_lowered_modulus, se_lowered_parts, se_lowered_powers, if_false]
theorem pf3 {x y z v : D} : putFD ("lowered" : Str) v [(("modulus" : Str), x), (("parts" : Str), y), (("powers" : Str), z)] = [(("modulus" : Str), x), (("parts" : Str), y), (("powers" : Str), z), (("lowered" : Str), v)] := by simp only [putFD, se_modulus_parts, se_modulus_powers, se_modulus_lowered, se_parts_modulus, se_parts_powers, se_parts_lowered, se_powers_modulus, se_powers_parts, se_powers_lowered, se_lowered_modulus, se_lowered_parts, se_lowered_powers, if_false]
theorem pf4 {x y z u v : D} : putFD ("powers" : Str) v [(("modulus" : Str), x), (("parts" : Str), y), (("powers" : Str), z), (("lowered" : Str), u)] = [(("modulus" : Str), x), (("parts" : Str), y), (("powers" : Str), v), (("lowered" : Str), u)] := by simp only [putFD, se_modulus_parts, se_modulus_powers, se_modulus_lowered, se_parts_modulus, se_parts_powers, se_parts_lowered, se_powers_modulus, se_powers_parts, se_powers_lowered, se_lowered_modulus, se_lowered_parts, se_lowered_powers, if_false, if_true]
theorem pf5 {x y z u v : D} : putFD ("lowered" : Str) v [(("modulus" : Str), x), (("parts" : Str), y), (("powers" : Str), z), (("lowered" : Str), u)] = [(("modulus" : Str), x), (("parts" : Str), y), (("powers" : Str), z), (("lowered" : Str), v)] := by simp only [putFD, se_modulus_parts, se_modulus_powers, se_modulus_lowered, se_parts_modulus, se_parts_powers, se_parts_lowered, se_powers_modulus, se_powers_parts, se_powers_lowered, se_lowered_modulus, se_lowered_parts, se_lowered_powers, if_false, if_true]
theorem lk_parts {x y : D} {r : List (Str × D)} : ((("modulus" : Str), x) :: (("parts" : Str), y) :: r).lookup ("parts" : Str) = some y := by simp only [List.lookup_cons, sb_modulus_modulus, sb_modulus_parts, sb_modulus_powers, sb_modulus_lowered, sb_parts_modulus, sb_parts_parts, sb_parts_powers, sb_parts_lowered, sb_powers_modulus, sb_powers_parts, sb_powers_powers, sb_powers_lowered, sb_lowered_modulus, sb_lowered_parts, sb_lowered_powers, sb_lowered_lowered]
theorem lk_powers {x y z : D} {r : List (Str × D)} : ((("modulus" : Str), x) :: (("parts" : Str), y) :: (("powers" : Str), z) :: r).lookup ("powers" : Str) = some z := by simp only [List.lookup_cons, sb_modulus_modulus, sb_modulus_parts, sb_modulus_powers, sb_modulus_lowered, sb_parts_modulus, sb_parts_parts, sb_parts_powers, sb_parts_lowered, sb_powers_modulus, sb_powers_parts, sb_powers_powers, sb_powers_lowered, sb_lowered_modulus, sb_lowered_parts, sb_lowered_powers, sb_lowered_lowered]
theorem lk_lowered {x y z u : D} {r : List (Str × D)} : ((("modulus" : Str), x) :: (("parts" : Str), y) :: (("powers" : Str), z) :: (("lowered" : Str), u) :: r).lookup ("lowered" : Str) = some u := by simp only [List.lookup_cons, sb_modulus_modulus, sb_modulus_parts, sb_modulus_powers, sb_modulus_lowered, sb_parts_modulus, sb_parts_parts, sb_parts_powers, sb_parts_lowered, sb_powers_modulus, sb_powers_parts, sb_powers_powers, sb_powers_lowered, sb_lowered_modulus, sb_lowered_parts, sb_lowered_powers, sb_lowered_lowered]

/-- the addresses of classes -/
structure Ad where
  rule : Addr
  prime : Addr
  term : Addr
  row : Addr
  number : Addr
  value : Addr
  stretch : Addr
  seen : Addr
  unlike : Addr
  far : Addr
  nothing : Addr
  unread : Addr
theorem powA (parts : List (Int × Int)) (p : Int) (n : Nat) : atI ((List.range (n + 1)).map fun k => D.dic (DL.intD (powK parts p k))) (-1) = some (.dic (DL.intD (powK parts p n))) := by
  unfold atI ixN
  rw [if_neg (by decide), if_pos (by rw [List.length_map, List.length_range]; omega)]
  show (List.map _ _)[_]? = _
  rw [List.length_map, List.length_range, show (-1 + ((n + 1 : Nat) : Int)).toNat = n by omega, List.getElem?_map, List.getElem?_range (by omega)]
  rfl
theorem powK_len (parts : List (Int × Int)) (p : Int) (n : Nat) : (powK parts p n).length ≤ parts.length ^ n := by
  induction n with
  | zero => exact Nat.le_refl _
  | succ n ih =>
    have h1 := plainL_len (mulL (powK parts p n) parts) p
    have h2 := mulF_len (powK parts p n) parts []
    rw [List.length_nil, Nat.zero_add] at h2
    rw [Nat.pow_succ]
    exact Nat.le_trans h1 (Nat.le_trans h2 (Nat.mul_le_mul_right _ ih))
def swp (t : Int × Int) : Int × Int := (t.2, t.1)
theorem perm_nd {ts parts : List (Int × Int)} (h : parts.Perm (ts.map swp)) (nd : (ts.map (·.2)).Nodup) : (parts.map (·.1)).Nodup := by
  rw [((h.map (·.1)).nodup_iff), List.map_map]
  exact nd
theorem pleq_lt {parts : List (Int × Int)} (nd : (parts.map (·.1)).Nodup) (so : parts.Pairwise pleq) : parts.Pairwise fun a b => a.1 < b.1 := by
  rw [List.Nodup, List.pairwise_map] at nd
  refine (so.and nd).imp fun {a b} ⟨h1, h2⟩ => ?_
  rcases h1 with h1 | h1
  · exact h1
  · exact absurd h1.1 h2
theorem badT_none {p : Int} {ts : List (Int × Int)} {i : Nat} {seen : List Int} (h : badT p ts i seen = none) : (∀ t ∈ ts, 1 ≤ t.1 ∧ t.1 < p) ∧ (ts.map (·.2)).Nodup ∧ ∀ t ∈ ts, t.2 ∉ seen := by
  induction ts generalizing i seen with
  | nil => exact ⟨by simp, by simp, by simp⟩
  | cons t r ih =>
    rw [badT_cons] at h
    split at h
    · cases h
    · rename_i hc
      obtain ⟨h1, h2, h3⟩ := ih h
      have hc1 : 1 ≤ t.1 ∧ t.1 < p := Classical.byContradiction fun z => hc (.inl z)
      have hc2 : t.2 ∉ seen := fun z => hc (.inr z)
      refine ⟨fun x hx => ?_, ?_, fun x hx => ?_⟩
      · rcases List.mem_cons.mp hx with rfl | hx
        · exact hc1
        · exact h1 x hx
      · rw [List.map_cons, List.nodup_cons]
        refine ⟨fun hm => ?_, h2⟩
        obtain ⟨x, hx, e⟩ := List.mem_map.mp hm
        have e : x.2 = t.2 := e
        exact h3 x hx (by rw [e]; simp)
      · rcases List.mem_cons.mp hx with rfl | hx
        · exact hc2
        · exact fun hm => h3 x hx (List.mem_append_left _ hm)
def isP (p : Int) : Bool := decide (p = 2) || (decide (p = 3) || decide (p = 5))
/-- what making a rule raises -/
def makeE (q : Ad) (p : Int) (ts : List (Int × Int)) : Option (Addr × D) := if p ∈ [(2 : Int), 3, 5] then (termsE p ts).map fun d => (q.term, d) else some (q.prime, .int p)
def spRuleInit (q : Ad) : DSp := fun vs ms kd xk => ∃ a p ts ms0, vs = [.adr a, .int p, .lst (ts.map tupI)] ∧ ms = (a, .ins q.rule []) :: ms0 ∧ ts.length ≤ 8 ∧ match makeE q p ts with
  | some e => xk e.1 e.2 ms0
  | none => ∀ parts, parts.Perm (ts.map swp) → parts.Pairwise (fun a b => a.1 < b.1) → kd .non ((a, .ins q.rule (ruleF p parts)) :: ms0)
abbrev gRule (q : Ad) : GE := [.cst "PRIMES" (.tup [.int 2, .int 3, .int 5]), .er "InvalidPrime" q.prime, .fn "check_terms" 2 (spTerms q.term), .fl q.rule "modulus", .fl q.rule "parts", .fl q.rule "powers", .fn "multiplied" 3 spMul, .fl q.rule "lowered"]
theorem walk_Rule_init {q : Ad} {K : PySem.W.Frag} {vs : List D} {ms : MS} {kd : DK} {xk : Addr → D → MS → Prop} (h : spRuleInit q vs ms kd xk) : vS (gRule q) (dX K xk) ir_Rule_init (startD nm_Rule_init vs) ms (dN K kd) := by
  obtain ⟨a, p, ts, ms0, rfl, rfl, hl, kq⟩ := h
  (simp only [startD, List.map_cons, List.map_nil, List.length_cons, List.length_nil, List.cons_append, List.nil_append, List.replicate, Nat.reduceAdd, Nat.reduceSub]; with_reducible conv => whnf)
  refine ⟨⟨rfl, flat_ints [2, 3, 5]⟩, ?_⟩
  rw [show inD (D.int p) [D.int 2, D.int 3, D.int 5] = decide (p ∈ [(2 : Int), 3, 5]) from inD_int p [2, 3, 5]]
  refine vIf_nec (fun h => ?_) fun h => ?_
  · with_reducible conv => whnf
    unfold makeE at kq
    rw [if_neg h] at kq
    exact ⟨_, MLe.tail, kq⟩
  have hp : p = 2 ∨ p = 3 ∨ p = 5 := by simpa using h
  with_reducible conv => whnf
  refine ⟨p, ts, rfl, by omega, ?_⟩
  unfold makeE at kq
  rw [if_pos h] at kq
  cases hT : termsE p ts with
  | some d =>
    rw [hT] at kq
    exact ⟨_, MLe.tail, kq⟩
  | none =>
    rw [hT] at kq
    have kq : ∀ parts, parts.Perm (ts.map swp) → parts.Pairwise (fun a b => a.1 < b.1) → kd .non ((a, .ins q.rule (ruleF p parts)) :: ms0) := kq
    have hT2 : badT p ts 0 [] = none := by
      unfold termsE at hT
      split at hT
      · cases hT
      · cases hb : badT p ts 0 [] with
        | none => rfl
        | some i => rw [hb] at hT; cases hT
    obtain ⟨ht1, ht2, _⟩ := badT_none hT2
    with_reducible conv => whnf
    refine ⟨0, _, .z, by decide, ?_⟩
    with_reducible conv => whnf
    refine vLc_ix (f := tupI) ts (fun i acc ms2 => ms2 = (a, .ins q.rule [(("modulus" : Str), .int p)]) :: ms0 ∧ acc = ((ts.take i).map swp).map tupI) ⟨rfl, rfl⟩ (fun acc ms2 h => ?_) (fun i x acc ms2 R hx hR h => ?_)
    rotate_left
    · obtain ⟨rfl, rfl⟩ := h
      refine ⟨fun _ => trivial, ?_⟩
      with_reducible conv => whnf
      intro L
      with_reducible conv => whnf
      refine ⟨lsz (by simp), ?_⟩
      with_reducible conv => whnf
      refine ⟨len_lt (by rw [List.length_map, List.length_map, List.length_take]; omega), Off.z (hR _ _ ⟨rfl, ?_⟩)⟩
      rw [map_take1 hx, List.map_append]
      rfl
    obtain ⟨rfl, rfl⟩ := h
    refine ⟨fun _ => trivial, ?_⟩
    rw [List.take_length]
    with_reducible conv => whnf
    refine ⟨_, rfl, fun parts pl pm so => ?_⟩
    have so' := pleq_lt (perm_nd pm ht2) so
    have nd := perm_nd pm ht2
    have hlen : parts.length = ts.length := by rw [pm.length_eq, List.length_map]
    have hsm : ∀ z ∈ parts, z.2.natAbs < 2 ^ 64 := fun z hz => by
      obtain ⟨t, ht, rfl⟩ := List.mem_map.mp (pm.mem_iff.mp hz)
      have := ht1 t ht
      show t.1.natAbs < _
      omega
    specialize kq parts pm so'
    with_reducible conv => whnf
    refine ⟨0, _, .z, ?_⟩
    with_reducible conv => whnf
    refine ⟨0, _, .z, by simp, ?_⟩
    rw [pf1]
    with_reducible conv => whnf
    refine ⟨by decide, fun pw => ?_⟩
    with_reducible conv => whnf
    refine ⟨1, _, .s .z, by simp, ?_⟩
    rw [pf2]
    with_reducible conv => whnf
    refine ⟨by omega, ?_⟩
    with_reducible conv => whnf
    rw [rangeD_map]
    have hm : mergeI [] parts = parts := mergeI_nodup (by simpa using nd)
    refine vForL_ix (f := fun i : Nat => D.int (1 + (i : Int))) _ (fun i ds' ms' => ds' = [some (.adr a), some (.int p), none, none, none, none] ∧ ms' = (pw, .lst ((List.range (i + 1)).map fun k => D.dic (DL.intD (powK parts p k)))) :: (a, .ins q.rule [(("modulus" : Str), .int p), (("parts" : Str), .ttp (parts.map tupI)), (("powers" : Str), .adr pw)]) :: ms0) ⟨rfl, rfl⟩ (fun ds' ms' h => ?_) (fun i x ds' ms' R hx hR h => ?_)
    rotate_left
    · obtain ⟨rfl, rfl⟩ := h
      obtain ⟨rfl, hi⟩ := range_ix hx
      refine ⟨trivial, ?_⟩
      with_reducible conv => whnf
      refine ⟨1, _, .s .z, _, lk_powers, ?_⟩
      with_reducible conv => whnf
      refine ⟨⟨_, .m .z⟩, ?_⟩
      with_reducible conv => whnf
      refine ⟨1, _, .s .z, _, lk_powers, ?_⟩
      with_reducible conv => whnf
      refine ⟨0, _, .z, _, powA parts p x, ?_⟩
      with_reducible conv => whnf
      refine ⟨1, _, .s .z, _, lk_parts, ?_⟩
      with_reducible conv => whnf
      refine ⟨parts, rfl, fun pd => ?_⟩
      with_reducible conv => whnf
      refine ⟨0, _, .z, ?_⟩
      with_reducible conv => whnf
      rw [hm]
      refine ⟨_, _, _, rfl, by omega, ?_, hsm, ?_⟩
      · have h1 := powK_len parts p x
        have h2 : parts.length ^ x ≤ 8 ^ 3 := Nat.le_trans (Nat.pow_le_pow_left (by omega) x) (Nat.pow_le_pow_right (by decide) (by omega))
        exact Nat.le_trans (Nat.mul_le_mul (Nat.le_trans h1 h2) (show parts.length ≤ 8 by omega)) (by decide)
      with_reducible conv => whnf
      refine ⟨0, _, .z, len_lt (by rw [List.length_map, List.length_range]; omega), ?_⟩
      with_reducible conv => whnf
      refine hR _ _ ⟨rfl, ?_⟩
      rw [List.range_succ (n := x + 1), List.map_append]
      rfl
    obtain ⟨rfl, rfl⟩ := h
    refine ⟨trivial, ?_⟩
    with_reducible conv => whnf
    intro pz
    with_reducible conv => whnf
    refine ⟨2, _, .s (.s .z), by simp, ?_⟩
    rw [pf3]
    with_reducible conv => whnf
    refine ⟨_, 2, _, _, 1, _, _, 1, .s (.s .z), lk_powers, .s .z, rfl, .s .z, .s .z, ?_⟩
    rw [pf4]
    with_reducible conv => whnf
    refine ⟨_, 1, _, _, 0, _, _, 0, .s .z, lk_lowered, .z, rfl, .z, .z, ?_⟩
    rw [pf5]
    with_reducible conv => whnf
    rw [List.length_range, show (p - 1).toNat + 1 = p.toNat by omega]
    exact ⟨_, MLe.refl _ _, kq⟩
end Lb

/-! LIBF: checks of what is known; rules made. -/
namespace Lb
open PySem PySem.Spec PyProof.Rows L2 DL
abbrev ir_check_number : ST := (.cons (.ife (.cmp .Lt (.var 0) (.var 1))
 (.cons (.raise 0 (.var 0))
 .nil)
 .nil)
 .nil)
abbrev gn_check_number : GN := [.er "InvalidNumber"]
abbrev nm_check_number : List Str := ["number", "least"]
abbrev ir_check_stretch : ST := (.cons (.ife (.cmp .Gt (.var 0) (.var 1))
 (.cons (.raise 0 (.tup (.cons (.var 0) (.cons (.var 1) .nil))))
 .nil)
 .nil)
 .nil)
abbrev gn_check_stretch : GN := [.er "InvalidStretch"]
abbrev nm_check_stretch : List Str := ["low", "high"]
abbrev ir_check_seen : ST := (.cons (.forS (.tup (.cons (.nm 2) (.cons (.tup (.cons (.nm 3) (.cons (.nm 4) (.cons (.nm 5) .nil)))) .nil))) (.itEn (.var 1)) [1, 2, 3, 4, 5]
 (.cons (.ife (.or (.cons (.cmp .Lt (.var 3) (.int 0)) (.cons (.not (.chain .LtE .Lt (.int 0) (.var 5) (.prop 0 (.var 0)))) .nil)))
 (.cons (.raise 1 (.var 2))
 .nil)
 .nil)
 .nil))
 .nil)
abbrev gn_check_seen : GN := [.pr "prime", .er "InvalidSeen"]
abbrev nm_check_seen : List Str := ["rule", "seen_cells", "spot", "number", "place", "value"]
abbrev ir_check_known : ST := (.cons (.ex (.call 0 (.cons (.var 1) (.cons (.var 2) .nil))))
 (.cons (.ex (.call 1 (.cons (.var 0) (.cons (.var 3) .nil))))
 .nil))
abbrev gn_check_known : GN := [.fn "check_stretch" 2, .fn "check_seen" 2]
abbrev nm_check_known : List Str := ["rule", "low", "high", "seen_cells"]
structure RuleOk (p : Int) (parts : List (Int × Int)) : Prop where
  pr : p = 2 ∨ p = 3 ∨ p = 5
  ne : parts ≠ []
  v : ∀ t ∈ parts, 1 ≤ t.2 ∧ t.2 < p
  o : ∀ t ∈ parts, -8 ≤ t.1 ∧ t.1 ≤ 8
  so : parts.Pairwise fun a b => a.1 < b.1
  w : ∃ lo w : Int, 0 ≤ w ∧ w ≤ (if p = 2 then 4 else if p = 3 then 3 else 2) ∧ ∀ t ∈ parts, lo ≤ t.1 ∧ t.1 ≤ lo + w
  len : parts.length ≤ 8
def spPrime (q : Ad) : DSp := fun vs ms kd _ => ∃ p parts, vs = [ruleD q.rule p parts] ∧ kd (.int p) ms
theorem walk_Rule_prime {q : Ad} {K : PySem.W.Frag} {vs : List D} {ms : MS} {kd : DK} {xk : Addr → D → MS → Prop} (h : spPrime q vs ms kd xk) : vS [.fl q.rule "modulus"] (dX K xk) ir_Rule_prime (startD nm_Rule_prime vs) ms (dN K kd) := by
  obtain ⟨p, parts, rfl, kq⟩ := h
  simp only [ruleD]
  (simp only [startD, List.map_cons, List.map_nil, List.length_cons, List.length_nil, List.cons_append, List.nil_append, List.replicate, Nat.reduceAdd, Nat.reduceSub]; with_reducible conv => whnf)
  exact ⟨rfl, _, rl_modulus, _, MLe.refl _ _, kq⟩
theorem kind_parts {p : Int} {ts parts : List (Int × Int)} (k : KindOk p ts) (pm : parts.Perm (ts.map swp)) (so : parts.Pairwise fun a b => a.1 < b.1) (hl : ts.length ≤ 8) : RuleOk p parts where
  pr := k.pr
  ne := fun e => k.ne (by
    have := pm.length_eq
    rw [e, List.length_map] at this
    exact List.length_eq_zero_iff.mp this.symm)
  v := fun t ht => by
    obtain ⟨x, hx, rfl⟩ := List.mem_map.mp (pm.mem_iff.mp ht)
    obtain ⟨h1, h2, _, _⟩ := k.t x hx
    exact ⟨h1, h2⟩
  o := fun t ht => by
    obtain ⟨x, hx, rfl⟩ := List.mem_map.mp (pm.mem_iff.mp ht)
    obtain ⟨_, _, h1, h2⟩ := k.t x hx
    exact ⟨h1, h2⟩
  so := so
  w := by
    obtain ⟨lo, w, h0, h1, h2⟩ := k.w
    refine ⟨lo, w, h0, h1, fun t ht => ?_⟩
    obtain ⟨x, hx, rfl⟩ := List.mem_map.mp (pm.mem_iff.mp ht)
    exact h2 x hx
  len := by rw [pm.length_eq, List.length_map]; exact hl
theorem badT_ok {p : Int} : ∀ {ts : List (Int × Int)} {i : Nat} {seen : List Int}, (∀ t ∈ ts, 1 ≤ t.1 ∧ t.1 < p) → (ts.map (·.2)).Nodup → (∀ t ∈ ts, t.2 ∉ seen) → badT p ts i seen = none
  | [], _, _, _, _, _ => rfl
  | t :: r, i, seen, h1, h2, h3 => by
    rw [List.map_cons, List.nodup_cons] at h2
    rw [badT_cons, if_neg]
    · refine badT_ok (fun x hx => h1 x (List.mem_cons_of_mem _ hx)) h2.2 fun x hx hm => ?_
      rcases List.mem_append.mp hm with hm | hm
      · exact h3 x (List.mem_cons_of_mem _ hx) hm
      · rw [List.mem_singleton] at hm
        exact h2.1 (by rw [← hm]; exact List.mem_map_of_mem (f := (·.2)) hx)
    · rintro (hc | hc)
      · exact hc (h1 t List.mem_cons_self)
      · exact h3 t List.mem_cons_self hc
theorem kind_make {q : Ad} {p : Int} {ts : List (Int × Int)} (k : KindOk p ts) : makeE q p ts = none := by
  unfold makeE termsE
  rw [if_pos (by rcases k.pr with h | h | h <;> simp [h]), if_neg k.ne, badT_ok (fun t ht => ⟨(k.t t ht).1, (k.t t ht).2.1⟩) k.nd (by simp)]
  rfl
/-! ### checks -/
def spNumber (q : Ad) : DSp := fun vs ms kd xk => ∃ n l : Int, vs = [.int n, .int l] ∧ if n < l then xk q.number (.int n) ms else kd .non ms
theorem walk_check_number {q : Ad} {K : PySem.W.Frag} {vs : List D} {ms : MS} {kd : DK} {xk : Addr → D → MS → Prop} (h : spNumber q vs ms kd xk) : vS [.er "InvalidNumber" q.number] (dX K xk) ir_check_number (startD nm_check_number vs) ms (dN K kd) := by
  obtain ⟨n, l, rfl, kq⟩ := h
  (simp only [startD, List.map_cons, List.map_nil, List.length_cons, List.length_nil, List.cons_append, List.nil_append, List.replicate, Nat.reduceAdd, Nat.reduceSub]; with_reducible conv => whnf)
  refine vIf_dec (fun h => ?_) fun h => ?_
  · rw [if_pos h] at kq
    exact ⟨_, MLe.refl _ _, kq⟩
  · rw [if_neg h] at kq
    exact ⟨_, MLe.refl _ _, kq⟩
def spStretchC (q : Ad) : DSp := fun vs ms kd xk => ∃ n l : Int, vs = [.int n, .int l] ∧ if l < n then xk q.stretch (.tup [.int n, .int l]) ms else kd .non ms
theorem walk_check_stretch {q : Ad} {K : PySem.W.Frag} {vs : List D} {ms : MS} {kd : DK} {xk : Addr → D → MS → Prop} (h : spStretchC q vs ms kd xk) : vS [.er "InvalidStretch" q.stretch] (dX K xk) ir_check_stretch (startD nm_check_stretch vs) ms (dN K kd) := by
  obtain ⟨n, l, rfl, kq⟩ := h
  (simp only [startD, List.map_cons, List.map_nil, List.length_cons, List.length_nil, List.cons_append, List.nil_append, List.replicate, Nat.reduceAdd, Nat.reduceSub]; with_reducible conv => whnf)
  refine vIf_dec (fun h => ?_) fun h => ?_
  · rw [if_pos h] at kq
    with_reducible conv => whnf
    exact ⟨lsz (by simp), _, MLe.refl _ _, kq⟩
  · rw [if_neg h] at kq
    exact ⟨_, MLe.refl _ _, kq⟩
/-- a seen cell -/
abbrev Cel := Int × Int × Int
@[reducible] def tr3 (t : Int × Int × Int) : D := .tup [.int t.1, .int t.2.1, .int t.2.2]
def badS (p : Int) (t : Int × Int × Int) : Bool := decide (t.1 < 0) || !(decide (0 ≤ t.2.2) && decide (t.2.2 < p))
def seenE (p : Int) (ks : List (Int × Int × Int)) : Option Nat := ks.findIdx? (badS p)
def spSeenC (q : Ad) : DSp := fun vs ms kd xk => ∃ p parts ks, vs = [ruleD q.rule p parts, .lst (ks.map tr3)] ∧ match seenE p ks with
  | some i => xk q.seen (.int (i : Int)) ms
  | none => kd .non ms
theorem walk_check_seen {q : Ad} {K : PySem.W.Frag} {vs : List D} {ms : MS} {kd : DK} {xk : Addr → D → MS → Prop} (h : spSeenC q vs ms kd xk) : vS [.pr q.rule "prime" (spPrime q), .er "InvalidSeen" q.seen] (dX K xk) ir_check_seen (startD nm_check_seen vs) ms (dN K kd) := by
  obtain ⟨p, parts, ks, rfl, kq⟩ := h
  (simp only [startD, List.map_cons, List.map_nil, List.length_cons, List.length_nil, List.cons_append, List.nil_append, List.replicate, Nat.reduceAdd, Nat.reduceSub]; with_reducible conv => whnf)
  rw [enumD_map]
  refine vForL_ix (f := fun p : (Int × Int × Int) × Nat => D.tup [.int (p.2 : Int), tr3 p.1]) ks.zipIdx (fun i ds' ms' => ds' = [some (ruleD q.rule p parts), none, none, none, none, none] ∧ ms' = ms ∧ ∀ j, j < i → ∀ t, ks[j]? = some t → badS p t = false) ⟨rfl, rfl, fun j h => absurd h (by omega)⟩ (fun ds' ms' h => ?_) (fun i x ds' ms' R hx hR h => ?_)
  · obtain ⟨rfl, rfl, hb⟩ := h
    rw [List.length_zipIdx] at hb
    have : seenE p ks = none := by
      unfold seenE
      rw [List.findIdx?_eq_none_iff]
      intro t ht
      obtain ⟨j, hj⟩ := List.mem_iff_getElem?.mp ht
      exact hb j (List.getElem?_eq_some_iff.mp hj).1 t hj
    rw [this] at kq
    exact ⟨trivial, _, MLe.refl _ _, kq⟩
  · obtain ⟨rfl, rfl, hb⟩ := h
    have hx' := zipIdx_at hx
    obtain ⟨⟨n, pl, v⟩, j⟩ := x
    obtain ⟨hx1, hx2⟩ := hx'
    have hx2 : j = i := hx2
    subst hx2
    have bad : badS p (n, pl, v) = true → xk q.seen (.int (j : Int)) ms' := fun hc => by
      have : seenE p ks = some j := by
        unfold seenE
        rw [List.findIdx?_eq_some_iff_getElem]
        have hi := (List.getElem?_eq_some_iff.mp hx1).1
        have hg := (List.getElem?_eq_some_iff.mp hx1).2
        refine ⟨hi, by rw [hg]; exact hc, fun k hk => ?_⟩
        have := hb k hk ks[k] (List.getElem?_eq_getElem _)
        rw [this]
        decide
      rw [this] at kq
      exact kq
    have good : badS p (n, pl, v) = false → ∀ k, k < j + 1 → ∀ t, ks[k]? = some t → badS p t = false := fun hc k hk t ht => by
      rcases (show k < j ∨ k = j by omega) with h | rfl
      · exact hb k h t ht
      · rw [hx1] at ht
        cases ht
        exact hc
    refine ⟨trivial, ?_⟩
    with_reducible conv => whnf
    refine vIf_dec (fun h1 => ?_) fun h1 => ?_
    · with_reducible conv => whnf
      exact ⟨_, MLe.refl _ _, bad (by unfold badS; rw [decide_eq_true (show n < 0 from h1)]; rfl)⟩
    with_reducible conv => whnf
    refine vIf_dec (fun h2 => ?_) fun h2 => ?_
    rotate_left
    · with_reducible conv => whnf
      exact ⟨_, MLe.refl _ _, bad (by unfold badS; rw [decide_eq_false (show ¬ 0 ≤ v from h2)]; simp)⟩
    with_reducible conv => whnf
    refine ⟨rfl, p, parts, rfl, ?_⟩
    with_reducible conv => whnf
    refine vIf_nec (fun h3 => ?_) fun h3 => ?_
    · with_reducible conv => whnf
      exact ⟨_, MLe.refl _ _, bad (by unfold badS; rw [decide_eq_false (show ¬ v < p from h3)]; simp)⟩
    · with_reducible conv => whnf
      exact hR _ _ ⟨rfl, rfl, good (by unfold badS; rw [decide_eq_false (show ¬ n < 0 from h1), decide_eq_true (show 0 ≤ v from h2), decide_eq_true (show v < p from h3)]; rfl)⟩
/-- what checking a stretch and seen cells raises -/
def knownE (q : Ad) (p low high : Int) (ks : List (Int × Int × Int)) : Option (Addr × D) := if high < low then some (q.stretch, .tup [.int low, .int high]) else (seenE p ks).map fun i : Nat => (q.seen, D.int (i : Int))
def spKnownC (q : Ad) : DSp := fun vs ms kd xk => ∃ p parts low high ks, vs = [ruleD q.rule p parts, .int low, .int high, .lst (ks.map tr3)] ∧ match knownE q p low high ks with
  | some e => xk e.1 e.2 ms
  | none => kd .non ms
theorem walk_check_known {q : Ad} {K : PySem.W.Frag} {vs : List D} {ms : MS} {kd : DK} {xk : Addr → D → MS → Prop} (h : spKnownC q vs ms kd xk) : vS [.fn "check_stretch" 2 (spStretchC q), .fn "check_seen" 2 (spSeenC q)] (dX K xk) ir_check_known (startD nm_check_known vs) ms (dN K kd) := by
  obtain ⟨p, parts, low, high, ks, rfl, kq⟩ := h
  unfold knownE at kq
  (simp only [startD, List.map_cons, List.map_nil, List.length_cons, List.length_nil, List.cons_append, List.nil_append, List.replicate, Nat.reduceAdd, Nat.reduceSub]; with_reducible conv => whnf)
  refine ⟨low, high, rfl, ?_⟩
  by_cases hs : high < low
  · rw [if_pos hs] at kq ⊢
    exact ⟨_, MLe.refl _ _, kq⟩
  · rw [if_neg hs] at kq ⊢
    with_reducible conv => whnf
    refine ⟨p, parts, ks, rfl, ?_⟩
    cases he : seenE p ks with
    | none =>
      rw [he] at kq
      exact ⟨_, MLe.refl _ _, kq⟩
    | some i =>
      rw [he] at kq
      exact ⟨_, MLe.refl _ _, kq⟩
end Lb

/-! LIBG: what powers hold. -/
namespace Lb
open PySem PySem.Spec PyProof.Rows L2 DL
theorem getI_putI (kv : List (Int × Int)) (k v k' : Int) : getI (putI kv k v) k' = if k' = k then v else getI kv k' := by
  unfold putI
  have hb : (kv.any fun q => decide (q.1 = k)) = true ↔ ∃ q ∈ kv, q.1 = k := by rw [List.any_eq_true]; simp
  by_cases h : (kv.any fun q => decide (q.1 = k)) = true
  · rw [if_pos h]
    unfold getI
    rw [List.find?_map]
    have e : ((fun q : Int × Int => decide (q.1 = k')) ∘ fun q : Int × Int => if q.1 = k then (q.1, v) else q) = fun q => decide (q.1 = k') := by
      funext q
      show decide ((if q.1 = k then (q.1, v) else q).1 = k') = _
      congr 2
      split <;> rfl
    rw [e]
    by_cases hk : k' = k
    · rw [if_pos hk]
      subst hk
      obtain ⟨q, hq, e⟩ := hb.mp h
      cases hf : kv.find? fun q => decide (q.1 = k') with
      | none =>
        have := List.find?_eq_none.mp hf q hq
        exact absurd e (by simpa using this)
      | some r =>
        have hr : r.1 = k' := by simpa using List.find?_some hf
        show (if r.1 = k' then (r.1, v) else r).2 = v
        rw [if_pos hr]
    · rw [if_neg hk]
      cases hf : kv.find? fun q => decide (q.1 = k') with
      | none => rfl
      | some r =>
        have hr : r.1 = k' := by simpa using List.find?_some hf
        show (if r.1 = k then (r.1, v) else r).2 = r.2
        rw [if_neg (by rw [hr]; exact hk)]
  · rw [if_neg h]
    unfold getI
    rw [List.find?_append]
    have hn : ∀ q ∈ kv, q.1 ≠ k := fun q hq e => h (hb.mpr ⟨q, hq, e⟩)
    by_cases hk : k' = k
    · rw [if_pos hk]
      subst hk
      have : kv.find? (fun q => decide (q.1 = k')) = none := by
        rw [List.find?_eq_none]
        exact fun q hq => by simpa using hn q hq
      rw [this]
      simp
    · rw [if_neg hk]
      cases hf : kv.find? fun q => decide (q.1 = k') with
      | none =>
        have : ([(k, v)] : List (Int × Int)).find? (fun q => decide (q.1 = k')) = none := by simp; exact fun e => hk e.symm
        rw [this]; rfl
      | some r => rfl
def cfs (a : Int × Int) (other : List (Int × Int)) (k : Int) : Int := (other.map fun b => if a.1 + b.1 = k then a.2 * b.2 else 0).sum
theorem getI_mulIn (a : Int × Int) (other : List (Int × Int)) (k : Int) : ∀ acc, getI (mulIn a acc other) k = getI acc k + cfs a other k := by
  unfold mulIn cfs
  induction other with
  | nil => intro acc; simp
  | cons b r ih =>
    intro acc
    rw [List.foldl_cons, ih, getI_putI, List.map_cons, List.sum_cons]
    by_cases h : k = a.1 + b.1
    · rw [if_pos h, if_pos h.symm, ← h]; omega
    · rw [if_neg h, if_neg (fun e => h e.symm)]; omega
theorem getI_mulF (one other : List (Int × Int)) (k : Int) : ∀ acc, getI (one.foldl (fun acc a => mulIn a acc other) acc) k = getI acc k + (one.map fun a => cfs a other k).sum := by
  induction one with
  | nil => intro acc; simp
  | cons a r ih =>
    intro acc
    rw [List.foldl_cons, ih, getI_mulIn, List.map_cons, List.sum_cons]
    omega
theorem getI_mulL (one other : List (Int × Int)) (k : Int) : getI (mulL one other) k = (one.map fun a => cfs a other k).sum := by
  unfold mulL
  rw [getI_mulF]
  show 0 + _ = _
  omega
theorem mulIn_keys {a : Int × Int} {other acc : List (Int × Int)} : ∀ t ∈ mulIn a acc other, t.1 ∈ acc.map (·.1) ∨ ∃ b ∈ other, t.1 = a.1 + b.1 := by
  unfold mulIn
  induction other generalizing acc with
  | nil => exact fun t h => .inl (List.mem_map_of_mem (f := (·.1)) h)
  | cons b r ih =>
    intro t h
    rcases ih t h with h | ⟨c, hc, e⟩
    · rw [putI_keys] at h
      split at h
      · exact .inl h
      · rcases List.mem_append.mp h with h | h
        · exact .inl h
        · exact .inr ⟨b, List.mem_cons_self, List.mem_singleton.mp h⟩
    · exact .inr ⟨c, List.mem_cons_of_mem _ hc, e⟩
theorem mulF_keys {one other acc : List (Int × Int)} : ∀ t ∈ one.foldl (fun acc a => mulIn a acc other) acc, t.1 ∈ acc.map (·.1) ∨ ∃ a ∈ one, ∃ b ∈ other, t.1 = a.1 + b.1 := by
  induction one generalizing acc with
  | nil => exact fun t h => .inl (List.mem_map_of_mem (f := (·.1)) h)
  | cons x r ih =>
    intro t h
    rcases ih t h with h | ⟨a, ha, b, hb, e⟩
    · obtain ⟨u, hu, e⟩ := List.mem_map.mp h
      have e : u.1 = t.1 := e
      rcases mulIn_keys u hu with h | ⟨b, hb, e2⟩
      · exact .inl (e ▸ h)
      · exact .inr ⟨x, List.mem_cons_self, b, hb, by rw [← e]; exact e2⟩
    · exact .inr ⟨a, List.mem_cons_of_mem _ ha, b, hb, e⟩
theorem mulL_keys {one other : List (Int × Int)} {t : Int × Int} (h : t ∈ mulL one other) : ∃ a ∈ one, ∃ b ∈ other, t.1 = a.1 + b.1 := by
  rcases mulF_keys t h with h | h
  · cases h
  · exact h
theorem sum_single {α : Type} {l : List α} {f : α → Int} {x : α} (hx : x ∈ l) (h : ∀ y ∈ l, y ≠ x → f y = 0) (nd : l.Nodup) : (l.map f).sum = f x := by
  induction l with
  | nil => cases hx
  | cons y r ih =>
    rw [List.nodup_cons] at nd
    rw [List.map_cons, List.sum_cons]
    rcases List.mem_cons.mp hx with rfl | hx
    · have : (r.map f).sum = 0 := by
        have : ∀ z ∈ r, f z = 0 := fun z hz => h z (List.mem_cons_of_mem _ hz) fun e => nd.1 (e ▸ hz)
        clear ih h hx nd
        induction r with
        | nil => rfl
        | cons z r ih => rw [List.map_cons, List.sum_cons, this z List.mem_cons_self, ih fun w hw => this w (List.mem_cons_of_mem _ hw)]; rfl
      rw [this]; omega
    · rw [h y List.mem_cons_self fun e => nd.1 (e ▸ hx), ih hx (fun z hz => h z (List.mem_cons_of_mem _ hz)) nd.2]; omega
theorem nd_list {kv : List (Int × Int)} (h : (kv.map (·.1)).Nodup) : kv.Nodup := by
  rw [List.Nodup, List.pairwise_map] at h
  exact h.imp fun {a b} h e => h (by rw [e])
theorem nd_key {kv : List (Int × Int)} (nd : (kv.map (·.1)).Nodup) {a b : Int × Int} (ha : a ∈ kv) (hb : b ∈ kv) (e : a.1 = b.1) : a = b := by
  induction kv with
  | nil => cases ha
  | cons c r ih =>
    rw [List.map_cons, List.nodup_cons] at nd
    rcases List.mem_cons.mp ha with ea | ha'
    · rcases List.mem_cons.mp hb with eb | hb'
      · rw [ea, eb]
      · exact absurd (by rw [← ea, e]; exact List.mem_map_of_mem (f := (·.1)) hb') nd.1
    · rcases List.mem_cons.mp hb with eb | hb'
      · exact absurd (by rw [← eb, ← e]; exact List.mem_map_of_mem (f := (·.1)) ha') nd.1
      · exact ih nd.2 ha' hb'
theorem getI_mem {kv : List (Int × Int)} {k : Int} (h : getI kv k ≠ 0) : (k, getI kv k) ∈ kv := by
  unfold getI at h ⊢
  cases hf : kv.find? fun q => decide (q.1 = k) with
  | none => rw [hf] at h; exact absurd rfl h
  | some r =>
    have hr : r.1 = k := by simpa using List.find?_some hf
    have := List.mem_of_find?_eq_some hf
    show (k, r.2) ∈ kv
    rw [← hr]
    exact this
theorem getI_of_mem {kv : List (Int × Int)} (nd : (kv.map (·.1)).Nodup) {q : Int × Int} (h : q ∈ kv) : getI kv q.1 = q.2 := by
  unfold getI
  cases hf : kv.find? fun r => decide (r.1 = q.1) with
  | none =>
    have := List.find?_eq_none.mp hf q h
    simp at this
  | some r =>
    have hr : r.1 = q.1 := by simpa using List.find?_some hf
    rw [nd_key nd (List.mem_of_find?_eq_some hf) h hr]
    rfl
theorem mod_mul {p a b : Int} (hp : p = 2 ∨ p = 3 ∨ p = 5) (a1 : 1 ≤ a) (a2 : a < p) (b1 : 1 ≤ b) (b2 : b < p) : a * b % p ≠ 0 := by
  have ha : a = 1 ∨ a = 2 ∨ a = 3 ∨ a = 4 := by omega
  have hb : b = 1 ∨ b = 2 ∨ b = 3 ∨ b = 4 := by omega
  rcases hp with rfl | rfl | rfl <;> rcases ha with rfl | rfl | rfl | rfl <;> rcases hb with rfl | rfl | rfl | rfl <;> first | omega | decide
/-- the greatest place -/
structure Top (p : Int) (kv : List (Int × Int)) (k v : Int) : Prop where
  m : (k, v) ∈ kv
  le : ∀ q ∈ kv, q.1 ≤ k
  v1 : 1 ≤ v
  v2 : v < p
theorem Top.mul {p : Int} {a b : List (Int × Int)} {ka va kb vb : Int} (hp : p = 2 ∨ p = 3 ∨ p = 5) (A : Top p a ka va) (B : Top p b kb vb) (na : (a.map (·.1)).Nodup) (nb : (b.map (·.1)).Nodup) : Top p (mulP a b p) (ka + kb) (va * vb % p) := by
  have hm : getI (mulL a b) (ka + kb) = va * vb := by
    rw [getI_mulL, sum_single A.m (fun x hx ne => ?_) (nd_list na)]
    · unfold cfs
      rw [sum_single B.m (fun y hy ne => ?_) (nd_list nb)]
      · rw [if_pos rfl]
      · have := B.le y hy
        rw [if_neg]
        intro e
        exact ne (nd_key nb hy B.m (by show y.1 = kb; have e : ka + y.1 = ka + kb := e; omega))
    · unfold cfs
      have hlt : x.1 < ka := by
        have := A.le x hx
        rcases Int.lt_or_eq_of_le this with h | h
        · exact h
        · exact absurd (nd_key na hx A.m h) ne
      have : ∀ y ∈ b, (if x.1 + y.1 = ka + kb then x.2 * y.2 else 0) = 0 := fun y hy => by
        have := B.le y hy
        rw [if_neg (by omega)]
      clear hx ne
      induction b with
      | nil => rfl
      | cons y r ih =>
        rw [List.map_cons, List.sum_cons, this y List.mem_cons_self]
        have hs : (r.map fun b => if x.1 + b.1 = ka + kb then x.2 * b.2 else 0).sum = 0 := by
          have h2 : ∀ z ∈ r, (if x.1 + z.1 = ka + kb then x.2 * z.2 else 0) = 0 := fun z hz => this z (List.mem_cons_of_mem _ hz)
          clear this ih B nb
          induction r with
          | nil => rfl
          | cons z r ih => rw [List.map_cons, List.sum_cons, h2 z List.mem_cons_self, ih fun w hw => h2 w (List.mem_cons_of_mem _ hw)]; rfl
        rw [hs]; rfl
  have hv := mod_mul hp A.v1 A.v2 B.v1 B.v2
  have hpp : 0 < p := by omega
  refine ⟨?_, fun q hq => ?_, ?_, Int.emod_lt_of_pos _ hpp⟩
  · have h0 : getI (mulL a b) (ka + kb) ≠ 0 := by
      rw [hm]
      intro e
      rw [e] at hv
      exact hv (by simp)
    have := getI_mem h0
    rw [hm] at this
    unfold mulP plainL
    exact List.mem_map.mpr ⟨_, List.mem_filter.mpr ⟨this, by simpa using hv⟩, rfl⟩
  · obtain ⟨h1, _, _⟩ := plainL_keys q hq
    obtain ⟨t, ht, e⟩ := List.mem_map.mp h1
    have e : t.1 = q.1 := e
    obtain ⟨x, hx, y, hy, e2⟩ := mulL_keys ht
    have := A.le x hx
    have := B.le y hy
    omega
  · have := Int.emod_nonneg (va * vb) (show p ≠ 0 by omega)
    omega
theorem plainL_val {kv : List (Int × Int)} {p : Int} (hp : 0 < p) : ∀ t ∈ plainL kv p, 1 ≤ t.2 ∧ t.2 < p := fun t h => by
  obtain ⟨_, h1, h2⟩ := plainL_keys t h
  have := Int.emod_nonneg t.2 (show p ≠ 0 by omega)
  have := Int.emod_lt_of_pos t.2 hp
  omega
theorem so_nd {kv : List (Int × Int)} (so : kv.Pairwise fun a b => a.1 < b.1) : (kv.map (·.1)).Nodup := by
  rw [List.Nodup, List.pairwise_map]
  exact so.imp fun {a b} h => by omega
theorem so_top {p : Int} {kv : List (Int × Int)} (so : kv.Pairwise fun a b => a.1 < b.1) (ne : kv ≠ []) (hv : ∀ t ∈ kv, 1 ≤ t.2 ∧ t.2 < p) : ∃ k v, Top p kv k v := by
  cases hl : kv.getLast? with
  | none => exact absurd (by simpa using hl) ne
  | some l =>
    have hm := List.mem_of_getLast? hl
    refine ⟨l.1, l.2, hm, fun q hq => ?_, (hv l hm).1, (hv l hm).2⟩
    obtain ⟨pre, e⟩ : ∃ pre, kv = pre ++ [l] := by
      rw [List.getLast?_eq_some_iff] at hl
      exact hl
    rw [e] at so hq
    rcases List.mem_append.mp hq with h | h
    · exact Int.le_of_lt ((List.pairwise_append.mp so).2.2 q h l (by simp))
    · rw [List.mem_singleton] at h
      rw [h]; exact Int.le_refl _
/-- what a power holds -/
structure PwOk (p lo hi : Int) (n : Nat) (kv : List (Int × Int)) : Prop where
  nd : (kv.map (·.1)).Nodup
  top : ∃ k v, Top p kv k v
  v : ∀ t ∈ kv, 1 ≤ t.2 ∧ t.2 < p
  o : ∀ t ∈ kv, n * lo ≤ t.1 ∧ t.1 ≤ n * hi
theorem powK_ok {p lo hi : Int} {parts : List (Int × Int)} (R : RuleOk p parts) (hw : ∀ t ∈ parts, lo ≤ t.1 ∧ t.1 ≤ hi) : ∀ n : Nat, PwOk p lo hi n (powK parts p n)
  | 0 => ⟨by simp [powK], ⟨0, 1, by simp [powK], by simp [powK], Int.le_refl _, by rcases R.pr with h | h | h <;> omega⟩, fun t ht => by
      have : t = (0, 1) := by simpa [powK] using ht
      subst this
      exact ⟨Int.le_refl _, by rcases R.pr with h | h | h <;> (show (1 : Int) < p; omega)⟩, fun t ht => by
      have : t = (0, 1) := by simpa [powK] using ht
      subst this
      exact ⟨by simp, by simp⟩⟩
  | n + 1 => by
    have P := powK_ok R hw n
    have hp : 0 < p := by rcases R.pr with h | h | h <;> omega
    obtain ⟨k, v, T⟩ := P.top
    obtain ⟨k2, v2, T2⟩ := so_top R.so R.ne R.v
    refine ⟨plainL_nd (mulF_nd List.nodup_nil), ⟨_, _, T.mul R.pr T2 P.nd (so_nd R.so)⟩, plainL_val hp, fun t ht => ?_⟩
    obtain ⟨h1, _, _⟩ := plainL_keys t ht
    obtain ⟨u, hu, e⟩ := List.mem_map.mp h1
    have e : u.1 = t.1 := e
    obtain ⟨x, hx, y, hy, e2⟩ := mulL_keys hu
    obtain ⟨a1, a2⟩ := P.o x hx
    obtain ⟨b1, b2⟩ := hw y hy
    have c1 : ((n + 1 : Nat) : Int) * lo = (n : Int) * lo + lo := by rw [Int.natCast_add, Int.add_mul]; simp
    have c2 : ((n + 1 : Nat) : Int) * hi = (n : Int) * hi + hi := by rw [Int.natCast_add, Int.add_mul]; simp
    omega
end Lb

/-! LIBH: what a 1 at place 0 makes. -/
namespace Lb
open PySem PySem.Spec PyProof.Rows L2 DL
abbrev ir_stretch_of_4 : ST := (.cons (.asg (.nm 9) (.repM (.lst false (.cons (.int 0) .nil)) (.bin .Add (.bin .Sub (.var 3) (.var 2)) (.int 1))))
 (.cons (.forS (.tup (.cons (.nm 10) (.cons (.nm 11) .nil))) (.itEn (.var 8)) [0, 1, 3, 7, 8, 10, 11, 12, 13, 14, 15]
 (.cons (.forS (.tup (.cons (.nm 12) (.cons (.nm 13) .nil))) (.itIt (.var 5)) [0, 1, 3, 7, 8, 12, 13, 14, 15]
 (.cons (.asg (.nm 14) (.bin .Sub (.bin .Add (.bin .Mult (.bin .Add (.var 6) (.var 10)) (.var 4)) (.var 12)) (.var 2)))
 (.cons (.ife (.chain .LtE .Lt (.int 0) (.var 14) (.bi .len (.cons (.var 9) .nil)))
 (.cons (.sub (.var 9) (.var 14) (.bin .Mod (.bin .Add (.ix (.var 9) (.var 14)) (.bin .Mult (.var 11) (.var 13))) (.var 4)))
 .nil)
 .nil)
 .nil)))
 .nil))
 (.cons (.frzv 9)
 (.cons (.ret (.var 9))
 .nil))))
abbrev ir_stretch_of : ST := (.cons (.ife (.cmp .Eq (.var 1) (.int 0))
 (.cons (.ret (.lc false (.bi .int_ (.cons (.cmp .Eq (.var 15) (.int 0)) .nil)) (.nm 15) (.itR2 (.var 2) (.bin .Add (.var 3) (.int 1))) .nil [("place", 15)]))
 .nil)
 .nil)
 (.cons (.par 4 5 (.prop 0 (.var 0)) (.ix (.attr 1 (.var 0)) (.bin .Mod (.var 1) (.prop 0 (.var 0)))))
 (.cons (.par 6 7 (.neg (.bin .FloorDiv (.bin .Sub (.bi .max (.cons (.var 5) .nil)) (.var 2)) (.var 4))) (.bin .FloorDiv (.bin .Sub (.var 3) (.bi .min (.cons (.var 5) .nil))) (.var 4)))
 (.cons (.asg (.nm 8) (.ite (.cmp .LtE (.var 6) (.var 7)) (.call 2 (.cons (.var 0) (.cons (.bin .FloorDiv (.var 1) (.var 4)) (.cons (.var 6) (.cons (.var 7) .nil))))) (.lst false .nil)))
 ir_stretch_of_4))))
abbrev gn_stretch_of : GN := [.pr "prime", .fl "powers", .fn "stretch_of" 4]
abbrev nm_stretch_of : List Str := ["rule", "number", "low", "high", "prime", "powers", "first", "last", "inner", "found", "spot", "value", "offset", "factor", "at", "place"]
abbrev ir_factors_of : ST := (.cons (.ret (.rev (.call 0 (.cons (.var 0) (.cons (.var 3) (.cons (.bin .Sub (.var 4) (.var 2)) (.cons (.bin .Sub (.var 4) (.var 1)) .nil)))))))
 .nil)
abbrev gn_factors_of : GN := [.fn "stretch_of" 4]
abbrev nm_factors_of : List Str := ["rule", "low", "high", "number", "place"]
abbrev inP (p : Int) (xs : List Int) : Prop := ∀ x ∈ xs, 0 ≤ x ∧ x < p
def spStr (q : Ad) : Nat → DSp
  | 0 => fun _ _ _ _ => False
  | d + 1 => fun vs ms kd _ => ∃ (p : Int) (parts : List (Int × Int)) (n low high : Int), vs = [ruleD q.rule p parts, .int n, .int low, .int high] ∧ RuleOk p parts ∧ 0 ≤ n ∧ n < 2 ^ d ∧ low ≤ high ∧ high - low ≤ 1000 ∧ -(16 * n + 2 ^ 40) ≤ low ∧ high ≤ 16 * n + 2 ^ 40 ∧
    ∀ xs : List Int, xs.length = (high - low + 1).toNat → inP p xs → kd (intsD xs) ms
theorem powsL_at {p : Int} {parts : List (Int × Int)} {n : Int} (hp : 0 < p) : atI (powsL parts p) (n % p) = some (.dic (DL.intD (powK parts p (n % p).toNat))) := by
  have h1 := Int.emod_nonneg n (show p ≠ 0 by omega)
  have h2 := Int.emod_lt_of_pos n hp
  unfold atI ixN powsL
  rw [if_pos h1, if_pos (by rw [List.length_map, List.length_range]; omega)]
  show (List.map _ _)[_]? = _
  rw [List.getElem?_map, List.getElem?_range (by omega)]
  rfl
theorem flat_rep {n : Nat} {x : Int} : (List.replicate n [D.int x]).flatten = (List.replicate n x).map D.int := by
  induction n with
  | zero => rfl
  | succ n ih => rw [List.replicate_succ, List.flatten_cons, ih, List.replicate_succ, List.map_cons]; rfl
theorem atI_int {xs : List Int} {i : Int} (h0 : 0 ≤ i) (h1 : i < xs.length) : ∃ x ∈ xs, atI (xs.map D.int) i = some (.int x) := by
  have hi : i.toNat < xs.length := by omega
  refine ⟨xs[i.toNat], List.getElem_mem _, ?_⟩
  unfold atI ixN
  rw [if_pos h0, if_pos (by rw [List.length_map]; exact h1)]
  show (List.map _ _)[_]? = _
  rw [List.getElem?_map, List.getElem?_eq_getElem hi]
  rfl
abbrev gStr (q : Ad) (d : Nat) : GE := [.pr q.rule "prime" (spPrime q), .fl q.rule "powers", .fn "stretch_of" 4 (spStr q d)]
theorem walk_stretch_of {q : Ad} {d : Nat} {K : PySem.W.Frag} {vs : List D} {ms : MS} {kd : DK} {xk : Addr → D → MS → Prop} (h : spStr q (d + 1) vs ms kd xk) : vS (gStr q d) (dX K xk) ir_stretch_of (startD nm_stretch_of vs) ms (dN K kd) := by
  obtain ⟨p, parts, n, low, high, rfl, R, n0, n1, lh, wide, lo1, hi1, kq⟩ := h
  have hp2 : 2 ≤ p ∧ p ≤ 5 := by rcases R.pr with h | h | h <;> omega
  simp only [ruleD]
  (simp only [startD, List.map_cons, List.map_nil, List.length_cons, List.length_nil, List.cons_append, List.nil_append, List.replicate, Nat.reduceAdd, Nat.reduceSub]; with_reducible conv => whnf)
  refine vIf_dec (fun h => ?_) fun h => ?_
  · subst h
    with_reducible conv => whnf
    refine ⟨by omega, ?_⟩
    with_reducible conv => whnf
    rw [rangeD_map]
    refine vLc_ix (f := fun i : Nat => D.int (low + (i : Int))) _ (fun i acc ms2 => ms2 = ms ∧ ∃ xs : List Int, acc = xs.map D.int ∧ xs.length = i ∧ inP p xs) ⟨rfl, [], rfl, rfl, fun x h => by cases h⟩ (fun acc ms2 h => ?_) (fun i x acc ms2 R' hx hR h => ?_)
    · obtain ⟨rfl, xs, rfl, hl, hin⟩ := h
      rw [List.length_range] at hl
      exact ⟨fun _ => trivial, _, MLe.refl _ _, kq xs (by rw [hl]; congr 1; omega) hin⟩
    · obtain ⟨rfl, xs, rfl, hl, hin⟩ := h
      obtain ⟨rfl, hi⟩ := range_ix hx
      refine ⟨fun _ => trivial, ?_⟩
      with_reducible conv => whnf
      intro L
      with_reducible conv => whnf
      refine ⟨len_lt (by rw [List.length_map]; omega), Off.z (hR _ _ ⟨rfl, xs ++ [if decide (low + (x : Int) = 0) = true then 1 else 0], ?_, ?_, ?_⟩)⟩
      · rw [List.map_append]; rfl
      · rw [List.length_append]; simp [hl]
      · intro y hy
        rcases List.mem_append.mp hy with hy | hy
        · exact hin y hy
        · rw [List.mem_singleton] at hy
          subst hy
          split <;> omega
  with_reducible conv => whnf
  refine ⟨rfl, p, parts, rfl, ?_⟩
  with_reducible conv => whnf
  refine ⟨rfl, _, rl_powers, ?_⟩
  with_reducible conv => whnf
  refine ⟨rfl, p, parts, rfl, ?_⟩
  with_reducible conv => whnf
  refine ⟨by omega, ?_⟩
  with_reducible conv => whnf
  refine ⟨_, powsL_at (by omega), ?_⟩
  with_reducible conv => whnf
  have P := powK_ok R (lo := -8) (hi := 8) R.o (n % p).toNat
  have hm0 := Int.emod_nonneg n (show p ≠ 0 by omega)
  have hm1 := Int.emod_lt_of_pos n (show 0 < p by omega)
  have pl : (powK parts p (n % p).toNat).length ≤ 4096 := by
    have h1 := powK_len parts p (n % p).toNat
    have h2 : parts.length ^ (n % p).toNat ≤ 8 ^ 4 := Nat.le_trans (Nat.pow_le_pow_left R.len _) (Nat.pow_le_pow_right (by decide) (by omega))
    exact Nat.le_trans h1 (Nat.le_trans h2 (by decide))
  obtain ⟨kt, vt, T⟩ := P.top
  have Po := P.o
  have Pv := P.v
  generalize powK parts p (n % p).toNat = pw at P pl T Po Pv ⊢
  have pne : pw ≠ [] := fun e => by have := T.m; rw [e] at this; cases this
  have hb : ∀ m ∈ pw.map (·.1), -32 ≤ m ∧ m ≤ 32 := fun m hm => by
    obtain ⟨t, ht, rfl⟩ := List.mem_map.mp hm
    have := Po t ht
    omega
  refine ⟨pw, rfl, pne, fun mx hmx hmx2 => ?_⟩
  obtain ⟨mx0, mx1⟩ := hb mx hmx
  with_reducible conv => whnf
  have hdw : ∀ i : Int, CDivW i p := fun i => by rcases R.pr with rfl | rfl | rfl <;> exact ⟨by decide, by decide +kernel⟩
  refine ⟨hdw _, ?_⟩
  with_reducible conv => whnf
  refine ⟨pw, rfl, pne, fun mn hmn hmn2 => ?_⟩
  obtain ⟨mn0, mn1⟩ := hb mn hmn
  with_reducible conv => whnf
  refine ⟨hdw _, ?_⟩
  have rest : ∀ ys : List Int, inP p ys → ys.length ≤ 1100 → vS (gStr q d) (dX K xk) ir_stretch_of_4 [some (ruleD q.rule p parts), some (.int n), some (.int low), some (.int high), some (.int p), some (.dic (DL.intD pw)), some (.int (-((mx - low) / p))), some (.int ((high - mn) / p)), some (intsD ys), none, none, none, none, none, none, none] ms (dN K kd) := fun ys hy hyl => by
    with_reducible conv => whnf
    refine ⟨lsz (by simp), ?_⟩
    with_reducible conv => whnf
    refine ⟨⟨by omega, by omega, Nat.le_trans (show 1 * (high - low + 1).toNat ≤ 1001 by omega) (by rw [sizeLine_eq]; decide)⟩, fun pf => ?_⟩
    with_reducible conv => whnf
    rw [flat_rep, enumD_map]
    generalize -((mx - low) / p) = first
    refine vForL_ix (f := fun z : Int × Nat => D.tup [.int (z.2 : Int), .int z.1]) ys.zipIdx (fun i ds' ms' => ∃ fs : List Int, ds' = [none, none, some (.int low), none, some (.int p), some (.dic (DL.intD pw)), some (.int first), none, none, some (.adr pf), none, none, none, none, none, none] ∧ ms' = (pf, .lst (fs.map D.int)) :: ms ∧ fs.length = (high - low + 1).toNat ∧ inP p fs) ⟨_, rfl, rfl, List.length_replicate, fun x h => by rw [(List.mem_replicate.mp h).2]; omega⟩ (fun ds' ms' h => ?_) (fun i x ds' ms' R1 hx hR1 h => ?_)
    · obtain ⟨fs, rfl, rfl, hfl, hfi⟩ := h
      refine ⟨trivial, ?_⟩
      with_reducible conv => whnf
      refine ⟨0, _, .z, ?_⟩
      with_reducible conv => whnf
      exact ⟨_, MLe.refl _ _, kq fs hfl hfi⟩
    · obtain ⟨fs, rfl, rfl, hfl, hfi⟩ := h
      have hx' := zipIdx_at hx
      obtain ⟨y, j⟩ := x
      have hyb := hy y (List.mem_of_getElem? hx'.1)
      refine ⟨trivial, ?_⟩
      with_reducible conv => whnf
      rw [pairD_int]
      refine vForL_ix (f := fun p : Int × Int => D.tup [.int p.1, .int p.2]) pw (fun k ds' ms' => ∃ fs : List Int, ds' = [none, none, some (.int low), none, some (.int p), some (.dic (DL.intD pw)), some (.int first), none, none, some (.adr pf), some (.int j), some (.int y), none, none, none, none] ∧ ms' = (pf, .lst (fs.map D.int)) :: ms ∧ fs.length = (high - low + 1).toNat ∧ inP p fs) ⟨fs, rfl, rfl, hfl, hfi⟩ (fun ds' ms' h => ?_) (fun k z ds' ms' R2 hz hR2 h => ?_)
      · obtain ⟨fs, rfl, rfl, hfl, hfi⟩ := h
        refine ⟨trivial, ?_⟩
        with_reducible conv => whnf
        exact hR1 _ _ ⟨fs, rfl, rfl, hfl, hfi⟩
      · obtain ⟨fs, rfl, rfl, hfl, hfi⟩ := h
        have hzb := Pv z (List.mem_of_getElem? hz)
        refine ⟨trivial, ?_⟩
        with_reducible conv => whnf
        refine ⟨.inl (.inr (by omega)), ?_⟩
        with_reducible conv => whnf
        generalize (first + (j : Int)) * p + z.1 - low = at_
        refine vIf_dec (fun h1 => ?_) fun h1 => ?_
        rotate_left
        · with_reducible conv => whnf
          exact hR2 _ _ ⟨fs, rfl, rfl, hfl, hfi⟩
        with_reducible conv => whnf
        refine ⟨0, _, .z, ?_⟩
        with_reducible conv => whnf
        refine vIf_dec (fun h2 => ?_) fun h2 => ?_
        rotate_left
        · with_reducible conv => whnf
          exact hR2 _ _ ⟨fs, rfl, rfl, hfl, hfi⟩
        rw [List.length_map] at h2
        with_reducible conv => whnf
        obtain ⟨old, hold, hat⟩ := atI_int h1 h2
        refine ⟨0, _, .z, _, hat, ?_⟩
        with_reducible conv => whnf
        refine ⟨.inl (.inr (by omega)), ?_⟩
        with_reducible conv => whnf
        refine ⟨by omega, ?_⟩
        with_reducible conv => whnf
        refine ⟨0, _, .z, at_.toNat, ?_, ?_⟩
        · unfold ixN
          rw [if_pos h1, if_pos (by rw [List.length_map]; exact h2)]
        with_reducible conv => whnf
        refine hR2 _ _ ⟨fs.set at_.toNat ((old + y * z.2) % p), rfl, ?_, by rw [List.length_set]; exact hfl, fun w hw => ?_⟩
        · rw [List.map_set]
        · rcases List.mem_or_eq_of_mem_set hw with hw | rfl
          · exact hfi w hw
          · exact ⟨Int.emod_nonneg _ (by omega), Int.emod_lt_of_pos _ (by omega)⟩
  with_reducible conv => whnf
  refine vIf_dec (fun hf => ?_) fun hf => ?_
  · with_reducible conv => whnf
    refine ⟨hdw _, ?_⟩
    cases d with
    | zero => exact absurd n1 (by omega)
    | succ e =>
      with_reducible conv => whnf
      have h2e : (2 : Int) ^ (e + 1) = 2 ^ e * 2 := Int.pow_succ ..
      refine ⟨p, parts, n / p, _, _, rfl, R, by rcases R.pr with rfl | rfl | rfl <;> omega, by rcases R.pr with rfl | rfl | rfl <;> omega, hf, by rcases R.pr with rfl | rfl | rfl <;> omega, by rcases R.pr with rfl | rfl | rfl <;> omega, by rcases R.pr with rfl | rfl | rfl <;> omega, fun xs hl hx => ?_⟩
      exact rest xs hx (by rw [hl]; rcases R.pr with rfl | rfl | rfl <;> omega)
  · with_reducible conv => whnf
    refine ⟨by decide, ?_⟩
    exact rest [] (fun x h => by cases h) (by decide)
end Lb

/-! LIBI: lines settled. -/
namespace Lb
open PySem PySem.Spec PyProof.Rows L2 DL
abbrev ir_settled : ST := (.cons (.asg (.tup (.cons (.nm 4) (.cons (.nm 5) (.cons (.nm 6) .nil)))) (.tup (.cons (.lst false .nil) (.cons (.prop 0 (.var 0)) (.cons (.bin .Add (.bin .Sub (.var 2) (.var 1)) (.int 1)) .nil)))))
 (.cons (.forS (.tup (.cons (.nm 7) (.cons (.nm 8) (.cons (.nm 9) .nil)))) (.itE (.var 3)) [3, 7, 8, 9, 10, 11, 13, 14]
 (.cons (.asg (.nm 10) (.lst false (.star (.call 1 (.cons (.var 0) (.cons (.var 1) (.cons (.var 2) (.cons (.var 7) (.cons (.var 8) .nil)))))) (.cons (.var 9) .nil))))
 (.cons (.forS (.tup (.cons (.nm 11) (.cons (.nm 12) .nil))) (.itE (.var 4)) [3, 7, 8, 9, 11, 13, 14]
 (.cons (.asg (.nm 10) (.call 2 (.cons (.var 10) (.cons (.var 12) (.cons (.ix (.var 10) (.var 11)) (.cons (.var 5) .nil))))))
 .nil))
 (.cons (.asg (.nm 13) (.lc false (.var 15) (.nm 15) (.itR1 (.var 6)) (.cons (.cmp .NotEq (.ix (.var 10) (.var 15)) (.int 0)) .nil) [("spot", 15)]))
 (.cons (.ife (.and (.cons (.cmp .Eq (.var 13) (.lst false .nil)) (.cons (.cmp .NotEq (.ix (.var 10) (.var 6)) (.int 0)) .nil)))
 (.cons (.ret .non)
 .nil)
 .nil)
 (.cons (.ife (.cmp .NotEq (.var 13) (.lst false .nil))
 (.cons (.asg (.nm 11) (.ix (.var 13) (.neg (.int 1))))
 (.cons (.asg (.nm 14) (.ix (.lc false (.var 16) (.nm 16) (.itR2 (.int 1) (.var 5)) (.cons (.cmp .Eq (.bin .Mod (.bin .Mult (.var 16) (.ix (.var 10) (.var 11))) (.var 5)) (.int 1)) .nil) [("factor", 16)]) (.int 0)))
 (.cons (.asg (.nm 10) (.lc false (.bin .Mod (.bin .Mult (.var 14) (.var 16)) (.var 5)) (.nm 16) (.itE (.var 10)) .nil [("factor", 16)]))
 (.cons (.asg (.nm 4) (.bin .Add (.lc false (.tup (.cons (.var 15) (.cons (.call 2 (.cons (.var 12) (.cons (.var 10) (.cons (.ix (.var 12) (.var 11)) (.cons (.var 5) .nil))))) .nil))) (.tup (.cons (.nm 15) (.cons (.nm 12) .nil))) (.itE (.var 4)) .nil [("spot", 15), ("other", 12)]) (.lst false (.cons (.tup (.cons (.var 11) (.cons (.var 10) .nil))) .nil))))
 .nil))))
 .nil)
 .nil))))))
 (.cons (.ret (.var 4))
 .nil)))
abbrev gn_settled : GN := [.pr "prime", .fn "factors_of" 5, .fn "lessened" 4]
abbrev nm_settled : List Str := ["rule", "low", "high", "seen_cells", "found", "prime", "many", "number", "place", "value", "line", "last", "other", "spots", "share", "spot", "factor"]
structure CellB (d : Nat) (low high number place : Int) : Prop where
  n0 : 0 ≤ number
  n1 : number < 2 ^ d
  b0 : -(16 * number + 2 ^ 40) ≤ place - high
  b1 : place - low ≤ 16 * number + 2 ^ 40
structure StrB (low high : Int) : Prop where
  le : low ≤ high
  w : high - low ≤ 1000
def spFac (q : Ad) (d : Nat) : DSp := fun vs ms kd _ => ∃ (p : Int) (parts : List (Int × Int)) (low high number place : Int), vs = [ruleD q.rule p parts, .int low, .int high, .int number, .int place] ∧ RuleOk p parts ∧ StrB low high ∧ CellB d low high number place ∧
    ∀ xs : List Int, xs.length = (high - low + 1).toNat → inP p xs → kd (intsD xs) ms
theorem walk_factors_of {q : Ad} {d : Nat} {K : PySem.W.Frag} {vs : List D} {ms : MS} {kd : DK} {xk : Addr → D → MS → Prop} (h : spFac q d vs ms kd xk) : vS [.fn "stretch_of" 4 (spStr q (d + 1))] (dX K xk) ir_factors_of (startD nm_factors_of vs) ms (dN K kd) := by
  obtain ⟨p, parts, low, high, number, place, rfl, R, B, C, kq⟩ := h
  have := B.le; have := B.w; have := C.n0; have := C.n1; have := C.b0; have := C.b1
  (simp only [startD, List.map_cons, List.map_nil, List.length_cons, List.length_nil, List.cons_append, List.nil_append, List.replicate, Nat.reduceAdd, Nat.reduceSub]; with_reducible conv => whnf)
  refine ⟨p, parts, number, _, _, rfl, R, by omega, by omega, by omega, by omega, by omega, by omega, fun xs hl hx => ?_⟩
  with_reducible conv => whnf
  refine ⟨_, MLe.refl _ _, ?_⟩
  rw [← List.map_reverse]
  exact kq xs.reverse (by rw [List.length_reverse, hl]; congr 1; omega) fun x h => hx x (List.mem_reverse.mp h)
@[reducible] def lineD (l : Int × List Int) : D := .tup [.int l.1, intsD l.2]
structure LineOk (p many : Int) (l : Int × List Int) : Prop where
  l0 : 0 ≤ l.1
  l1 : l.1 < many
  n : l.2.length = (many + 1).toNat
  i : inP p l.2
def spSet (q : Ad) (d : Nat) : DSp := fun vs ms kd _ => ∃ (p : Int) (parts : List (Int × Int)) (low high : Int) (ks : List (Int × Int × Int)), vs = [ruleD q.rule p parts, .int low, .int high, .lst (ks.map tr3)] ∧ RuleOk p parts ∧ StrB low high ∧ ks.length ≤ 1000 ∧
    (∀ t ∈ ks, CellB d low high t.1 t.2.1 ∧ 0 ≤ t.2.2 ∧ t.2.2 < p) ∧ kd .non ms ∧ ∀ lines : List (Int × List Int), lines.length ≤ ks.length → (∀ l ∈ lines, LineOk p (high - low + 1) l) → kd (.lst (lines.map lineD)) ms
theorem lessL_ok {p : Int} (hp : 0 < p) {xs ys : List Int} {f : Int} (h : xs.length = ys.length) : (lessL xs ys f p).length = xs.length ∧ inP p (lessL xs ys f p) := by
  unfold lessL
  refine ⟨by rw [List.length_zipWith, h, Nat.min_self], fun x hx => ?_⟩
  obtain ⟨i, hi⟩ := List.mem_iff_getElem?.mp hx
  rw [List.getElem?_zipWith] at hi
  split at hi
  · cases hi
    exact ⟨Int.emod_nonneg _ (by omega), Int.emod_lt_of_pos _ hp⟩
  · cases hi
theorem atI_get {xs : List Int} {s : Nat} (h : s < xs.length) : atI (xs.map D.int) (0 + (s : Int)) = some (.int (xs.getD s 0)) := by
  unfold atI ixN
  rw [if_pos (by omega), if_pos (by rw [List.length_map]; omega)]
  show (List.map _ _)[_]? = _
  rw [show (0 + (s : Int)).toNat = s by omega, List.getElem?_map, List.getElem?_eq_getElem h, List.getD_eq_getElem?_getD, List.getElem?_eq_getElem h]
  rfl
theorem atI_getI {xs : List Int} {s : Int} (h0 : 0 ≤ s) (h : s < xs.length) : atI (xs.map D.int) s = some (.int (xs.getD s.toNat 0)) := by
  have := atI_get (xs := xs) (s := s.toNat) (by omega)
  rwa [show 0 + ((s.toNat : Nat) : Int) = s by omega] at this
theorem getD_in {p : Int} {xs : List Int} (h : inP p xs) {s : Nat} (hs : s < xs.length) : 0 ≤ xs.getD s 0 ∧ xs.getD s 0 < p := by
  rw [List.getD_eq_getElem?_getD, List.getElem?_eq_getElem hs]
  exact h _ (List.getElem_mem _)
theorem atI_lastD {xs : List D} (h : xs ≠ []) : ∃ d ∈ xs, atI xs (-1) = some d := by
  have hl : 0 < xs.length := List.length_pos_iff.mpr h
  refine ⟨xs[xs.length - 1], List.getElem_mem _, ?_⟩
  unfold atI ixN
  rw [if_neg (by decide), if_pos (by omega)]
  show xs[_]? = _
  rw [show (-1 + (xs.length : Int)).toNat = xs.length - 1 by omega, List.getElem?_eq_getElem]
theorem flatMap_one {α β : Type} (f : α → β) (l : List α) : l.flatMap (fun x => [f x]) = l.map f := by
  induction l with
  | nil => rfl
  | cons a r ih => rw [List.flatMap_cons, ih]; rfl
def invL (p v : Int) : List Int := (List.range (p - 1).toNat).flatMap fun i : Nat => if (1 + (i : Int)) * v % p = 1 then [1 + (i : Int)] else []
theorem invL_D (p v : Int) : ((List.range (p - 1).toNat).flatMap fun i : Nat => if (1 + (i : Int)) * v % p = 1 then [D.int (1 + (i : Int))] else []) = (invL p v).map D.int := by
  unfold invL
  rw [List.map_flatMap]
  congr 1
  funext i
  split <;> rfl
theorem invL_ok {p v : Int} (hp : p = 2 ∨ p = 3 ∨ p = 5) (h0 : 1 ≤ v) (h1 : v < p) : ∃ s r, invL p v = s :: r ∧ 1 ≤ s ∧ s < p := by
  have hv : v = 1 ∨ v = 2 ∨ v = 3 ∨ v = 4 := by omega
  rcases hp with rfl | rfl | rfl <;> rcases hv with rfl | rfl | rfl | rfl <;> first | omega | exact ⟨1, [], by decide, by decide, by decide⟩ | exact ⟨2, [], by decide, by decide, by decide⟩ | exact ⟨3, [], by decide, by decide, by decide⟩ | exact ⟨4, [], by decide, by decide, by decide⟩
abbrev gSet (q : Ad) (d : Nat) : GE := [.pr q.rule "prime" (spPrime q), .fn "factors_of" 5 (spFac q d), .fn "lessened" 4 spLess]
theorem walk_settled {q : Ad} {d : Nat} {K : PySem.W.Frag} {vs : List D} {ms : MS} {kd : DK} {xk : Addr → D → MS → Prop} (h : spSet q d vs ms kd xk) : vS (gSet q d) (dX K xk) ir_settled (startD nm_settled vs) ms (dN K kd) := by
  obtain ⟨p, parts, low, high, ks, rfl, R, B, hkl, hks, kn, kq⟩ := h
  have hle := B.le; have hw := B.w
  have hp2 : 2 ≤ p ∧ p ≤ 5 := by rcases R.pr with h | h | h <;> omega
  generalize hmany : high - low + 1 = many at kq
  simp only [ruleD]
  (simp only [startD, List.map_cons, List.map_nil, List.length_cons, List.length_nil, List.cons_append, List.nil_append, List.replicate, Nat.reduceAdd, Nat.reduceSub]; with_reducible conv => whnf)
  refine ⟨by decide, rfl, p, parts, rfl, ?_⟩
  with_reducible conv => whnf
  refine ⟨lsz (by simp), ?_⟩
  with_reducible conv => whnf
  rw [hmany]
  refine vForL_ix (f := tr3) ks (fun i ds' ms' => ∃ (lines : List (Int × List Int)) (o12 : Option D), ds' = [some (ruleD q.rule p parts), some (.int low), some (.int high), none, some (.lst (lines.map lineD)), some (.int p), some (.int many), none, none, none, none, none, o12, none, none, none, none] ∧ ms' = ms ∧ lines.length ≤ i ∧ (∀ l ∈ lines, LineOk p many l)) ⟨[], _, rfl, rfl, Nat.le_refl _, fun l h => by cases h⟩ (fun ds' ms' h => ?_) (fun i x ds' ms' R1 hx hR1 h => ?_)
  · obtain ⟨lines, o12, rfl, rfl, hl, hok⟩ := h
    exact ⟨trivial, _, MLe.refl _ _, kq lines hl hok⟩
  · obtain ⟨lines, o12, rfl, rfl, hl, hok⟩ := h
    have hi := (List.getElem?_eq_some_iff.mp hx).1
    obtain ⟨C, v0, v1⟩ := hks x (List.mem_of_getElem? hx)
    obtain ⟨num, plc, val⟩ := x
    refine ⟨trivial, ?_⟩
    with_reducible conv => whnf
    refine ⟨p, parts, low, high, num, plc, rfl, R, B, C, fun fs hfl hfi => ?_⟩
    with_reducible conv => whnf
    have hfn : fs.length = many.toNat := by rw [hfl, hmany]
    refine ⟨lsz (by rw [List.length_append, List.length_map]; simp; omega), ?_⟩
    rw [show fs.map D.int ++ [D.int val] = (fs ++ [val]).map D.int by rw [List.map_append]; rfl]
    with_reducible conv => whnf
    refine vForL_ix (f := lineD) lines (fun j dsA msA => ∃ (ln : List Int) (o : Option D), dsA = [some (ruleD q.rule p parts), some (.int low), some (.int high), none, some (.lst (lines.map lineD)), some (.int p), some (.int many), none, none, none, some (intsD ln), none, o, none, none, none, none] ∧ msA = ms' ∧ ln.length = (many + 1).toNat ∧ inP p ln) ⟨fs ++ [val], _, rfl, rfl, by rw [List.length_append]; simp; omega, fun y hy => ?_⟩ (fun ds' ms' h => ?_) (fun j l ds' ms' R2 hl2 hR2 h => ?_)
    · rcases List.mem_append.mp hy with hy | hy
      · exact hfi y hy
      · rw [List.mem_singleton] at hy
        subst hy
        exact ⟨v0, v1⟩
    rotate_left
    · obtain ⟨ln, o, rfl, rfl, hln, hli⟩ := h
      have L := hok l (List.mem_of_getElem? hl2)
      have hlt : l.1 < ln.length := by have := L.l1; rw [hln]; omega
      have g := getD_in hli (s := l.1.toNat) (by have := L.l0; omega)
      refine ⟨trivial, ?_⟩
      with_reducible conv => whnf
      refine ⟨_, atI_getI L.l0 hlt, ?_⟩
      with_reducible conv => whnf
      refine ⟨ln, l.2, _, p, rfl, by omega, by omega, by rw [hln]; omega, ?_⟩
      obtain ⟨k1, k2⟩ := lessL_ok (p := p) (by omega) (xs := ln) (ys := l.2) (f := ln.getD l.1.toNat 0) (by rw [hln, L.n])
      with_reducible conv => whnf
      exact hR2 _ _ ⟨_, _, rfl, rfl, by rw [k1, hln], k2⟩
    obtain ⟨ln, o, rfl, rfl, hln, hli⟩ := h
    refine ⟨trivial, ?_⟩
    with_reducible conv => whnf
    refine ⟨by omega, ?_⟩
    with_reducible conv => whnf
    rw [rangeD_map]
    refine vLc_map (f := fun i : Nat => D.int (0 + (i : Int))) (fun s : Nat => if ln.getD s 0 = 0 then [] else [D.int (0 + (s : Int))]) (List.range many.toNat) (fun s => by split <;> simp) (by rw [List.length_range]; omega) (fun _ _ => trivial) ?_ (fun s hs acc R' hacc hR' => ?_)
    rotate_left
    · rw [List.mem_range] at hs
      with_reducible conv => whnf
      intro L
      with_reducible conv => whnf
      refine ⟨_, atI_get (by omega), ?_⟩
      with_reducible conv => whnf
      refine vIf_nec (fun h => ?_) fun h => ?_
      · with_reducible conv => whnf
        refine ⟨hacc, Off.z ?_⟩
        rw [if_neg h] at hR'
        exact hR'
      · rw [if_pos h, List.append_nil] at hR'
        exact Off.z hR'
    have hsp : ∀ d ∈ (List.range many.toNat).flatMap (fun s : Nat => if ln.getD s 0 = 0 then [] else [D.int (0 + (s : Int))]), ∃ s : Nat, s < many.toNat ∧ d = .int (0 + (s : Int)) ∧ ln.getD s 0 ≠ 0 := fun d hd => by
      obtain ⟨s, hs, h⟩ := List.mem_flatMap.mp hd
      split at h
      · cases h
      · rename_i hne
        exact ⟨s, List.mem_range.mp hs, List.mem_singleton.mp h, hne⟩
    generalize (List.range many.toNat).flatMap (fun s : Nat => if ln.getD s 0 = 0 then [] else [D.int (0 + (s : Int))]) = sp at hsp
    with_reducible conv => whnf
    refine ⟨by decide, vEqX_nil ?_⟩
    cases sp with
    | nil =>
      with_reducible conv => whnf
      refine ⟨_, atI_getI (by omega) (by omega), ?_⟩
      with_reducible conv => whnf
      refine vIf_nec (fun h => ?_) fun h => ?_
      · with_reducible conv => whnf
        exact ⟨_, MLe.refl _ _, kn⟩
      · with_reducible conv => whnf
        refine ⟨by decide, vEqX_nil ?_⟩
        with_reducible conv => whnf
        exact hR1 _ _ ⟨lines, _, rfl, rfl, by omega, hok⟩
    | cons d0 dr =>
      with_reducible conv => whnf
      refine ⟨by decide, vEqX_nil ?_⟩
      with_reducible conv => whnf
      obtain ⟨dl, hdl, hat⟩ := atI_lastD (xs := d0 :: dr) (by simp)
      obtain ⟨s, hs, rfl, hne⟩ := hsp dl hdl
      refine ⟨_, hat, ?_⟩
      with_reducible conv => whnf
      refine ⟨by omega, ?_⟩
      with_reducible conv => whnf
      rw [rangeD_map]
      have hsl : s < ln.length := by omega
      have vb := getD_in hli hsl
      have hs0 : (0 + (s : Int)).toNat = s := by omega
      refine vLc_map (f := fun i : Nat => D.int (1 + (i : Int))) (fun i : Nat => if (1 + (i : Int)) * ln.getD s 0 % p = 1 then [D.int (1 + (i : Int))] else []) (List.range (p - 1).toNat) (fun s => by split <;> simp) (by rw [List.length_range]; omega) (fun _ _ => trivial) ?_ (fun i2 hi2 acc R' hacc hR' => ?_)
      rotate_left
      · with_reducible conv => whnf
        intro L
        with_reducible conv => whnf
        refine ⟨_, atI_get hsl, ?_⟩
        with_reducible conv => whnf
        refine ⟨.inl (.inr (by omega)), ?_⟩
        with_reducible conv => whnf
        refine ⟨by omega, ?_⟩
        with_reducible conv => whnf
        refine vIf_dec (fun h => ?_) fun h => ?_
        · with_reducible conv => whnf
          refine ⟨hacc, Off.z ?_⟩
          rw [if_pos h] at hR'
          exact hR'
        · rw [if_neg h, List.append_nil] at hR'
          exact Off.z hR'
      rw [invL_D]
      obtain ⟨sh, shr, hinv, sh0, sh1⟩ := invL_ok R.pr (v := ln.getD s 0) (by omega) vb.2
      rw [hinv, List.map_cons]
      with_reducible conv => whnf
      refine ⟨_, atI_head, ?_⟩
      with_reducible conv => whnf
      refine vLc_map (f := D.int) (fun x : Int => [D.int (sh * x % p)]) ln (fun s => by simp) (by rw [hln]; omega) (fun _ _ => trivial) ?_ (fun x2 hx2 acc R' hacc hR' => ?_)
      rotate_left
      · with_reducible conv => whnf
        intro L
        with_reducible conv => whnf
        refine ⟨.inl (.inl (by omega)), ?_⟩
        with_reducible conv => whnf
        refine ⟨by omega, ?_⟩
        with_reducible conv => whnf
        exact ⟨hacc, Off.z hR'⟩
      rw [flatMap_one, show (ln.map fun x => D.int (sh * x % p)) = (ln.map fun x => sh * x % p).map D.int by rw [List.map_map]; rfl]
      have ln2 : (ln.map fun x => sh * x % p).length = (many + 1).toNat := by rw [List.length_map, hln]
      have li2 : inP p (ln.map fun x => sh * x % p) := fun y hy => by
        obtain ⟨z, _, rfl⟩ := List.mem_map.mp hy
        exact ⟨Int.emod_nonneg _ (by omega), Int.emod_lt_of_pos _ (by omega)⟩
      generalize (ln.map fun x => sh * x % p) = lx at ln2 li2
      with_reducible conv => whnf
      refine vLc_map (f := lineD) (fun l : Int × List Int => [lineD (l.1, lessL l.2 lx (l.2.getD s 0) p)]) lines (fun s => by simp) (by omega) (fun _ _ => trivial) ?_ (fun l hl2 acc R' hacc hR' => ?_)
      rotate_left
      · have L := hok l hl2
        have hsl2 : s < l.2.length := by rw [L.n]; omega
        have g := getD_in L.i hsl2
        with_reducible conv => whnf
        intro L'
        with_reducible conv => whnf
        refine ⟨_, atI_get hsl2, ?_⟩
        with_reducible conv => whnf
        refine ⟨l.2, lx, _, p, rfl, by omega, by omega, by rw [L.n]; omega, ?_⟩
        with_reducible conv => whnf
        refine ⟨lsz (by simp), ?_⟩
        exact ⟨hacc, Off.z hR'⟩
      rw [flatMap_one]
      with_reducible conv => whnf
      refine ⟨lsz (by simp), lsz (by simp), ?_⟩
      with_reducible conv => whnf
      refine ⟨Nat.le_trans (show _ ≤ 2000 by rw [List.length_map]; simp; omega) (by rw [sizeLine_eq]; decide), ?_⟩
      with_reducible conv => whnf
      refine hR1 _ _ ⟨(lines.map fun l => (l.1, lessL l.2 lx (l.2.getD s 0) p)) ++ [((0 + (s : Int)), lx)], o, ?_, rfl, by rw [List.length_append, List.length_map]; simp; omega, fun l hl3 => ?_⟩
      · rw [List.map_append, List.map_map]
        rfl
      · rcases List.mem_append.mp hl3 with h | h
        · obtain ⟨l2, hl4, rfl⟩ := List.mem_map.mp h
          have L := hok l2 hl4
          obtain ⟨k1, k2⟩ := lessL_ok (p := p) (by omega) (xs := l2.2) (ys := lx) (f := l2.2.getD s 0) (by rw [ln2, L.n])
          exact ⟨L.l0, L.l1, by rw [k1, L.n], k2⟩
        · rw [List.mem_singleton] at h
          subst h
          exact ⟨by show 0 ≤ 0 + (s : Int); omega, by show 0 + (s : Int) < many; omega, ln2, li2⟩
end Lb

/-! LIBJ: what is told of begins. -/
namespace Lb
open PySem PySem.Spec PyProof.Rows L2 DL
abbrev ir_count_begins : ST := (.cons (.ex (.call 0 (.cons (.var 0) (.cons (.var 1) (.cons (.var 2) (.cons (.var 3) .nil))))))
 (.cons (.par 4 5 (.call 1 (.cons (.var 0) (.cons (.var 1) (.cons (.var 2) (.cons (.var 3) .nil))))) (.int 1))
 (.cons (.ife (.cmp .Is (.var 4) .non)
 (.cons (.ret (.int 0))
 .nil)
 .nil)
 (.cons (.forS (.nm 6) (.itR1 (.bin .Sub (.bin .Add (.bin .Sub (.var 2) (.var 1)) (.int 1)) (.bi .len (.cons (.var 4) .nil)))) [1, 2, 3, 4, 6]
 (.cons (.asg (.nm 5) (.bin .Mult (.var 5) (.prop 2 (.var 0))))
 .nil))
 (.cons (.ret (.var 5))
 .nil)))))
abbrev gn_count_begins : GN := [.fn "check_known" 4, .fn "settled" 4, .pr "prime"]
abbrev nm_count_begins : List Str := ["rule", "low", "high", "seen_cells", "lines", "found", "turn"]
abbrev ir_first_begin : ST := (.cons (.ex (.call 0 (.cons (.var 0) (.cons (.var 1) (.cons (.var 2) (.cons (.var 3) .nil))))))
 (.cons (.asg (.nm 4) (.call 1 (.cons (.var 0) (.cons (.var 1) (.cons (.var 2) (.cons (.var 3) .nil))))))
 (.cons (.ife (.cmp .Is (.var 4) .non)
 (.cons (.ret .non)
 .nil)
 .nil)
 (.cons (.asg (.nm 5) (.repM (.lst false (.cons (.int 0) .nil)) (.bin .Add (.bin .Sub (.var 2) (.var 1)) (.int 1))))
 (.cons (.forS (.tup (.cons (.nm 6) (.cons (.nm 7) .nil))) (.itE (.var 4)) [0, 1, 2, 3, 4, 6, 7]
 (.cons (.sub (.var 5) (.var 6) (.ix (.var 7) (.neg (.int 1))))
 .nil))
 (.cons (.frzv 5)
 (.cons (.ret (.var 5))
 .nil)))))))
abbrev gn_first_begin : GN := [.fn "check_known" 4, .fn "settled" 4]
abbrev nm_first_begin : List Str := ["rule", "low", "high", "seen_cells", "lines", "found", "last", "line"]
abbrev ir_sure_value : ST := (.cons (.ex (.call 0 (.cons (.var 0) (.cons (.var 1) (.cons (.var 2) (.cons (.var 3) .nil))))))
 (.cons (.ex (.call 1 (.cons (.var 4) (.cons (.int 0) .nil))))
 (.cons (.asg (.nm 6) (.call 2 (.cons (.var 0) (.cons (.var 1) (.cons (.var 2) (.cons (.var 3) .nil))))))
 (.cons (.ife (.cmp .Is (.var 6) .non)
 (.cons (.ret .non)
 .nil)
 .nil)
 (.cons (.asg (.nm 7) (.lst false (.star (.call 3 (.cons (.var 0) (.cons (.var 1) (.cons (.var 2) (.cons (.var 4) (.cons (.var 5) .nil)))))) (.cons (.int 0) .nil))))
 (.cons (.forS (.tup (.cons (.nm 8) (.cons (.nm 9) .nil))) (.itE (.var 6)) [1, 2, 3, 4, 5, 6, 8, 9]
 (.cons (.asg (.nm 7) (.call 4 (.cons (.var 7) (.cons (.var 9) (.cons (.ix (.var 7) (.var 8)) (.cons (.prop 5 (.var 0)) .nil))))))
 .nil))
 (.cons (.ret (.ite (.tru (.bi .any (.cons (.sl (.var 7) .nil (.cons (.neg (.int 1)) .nil)) .nil))) .non (.bin .Mod (.neg (.ix (.var 7) (.neg (.int 1)))) (.prop 5 (.var 0)))))
 .nil)))))))
abbrev gn_sure_value : GN := [.fn "check_known" 4, .fn "check_number" 2, .fn "settled" 4, .fn "factors_of" 5, .fn "lessened" 4, .pr "prime"]
abbrev nm_sure_value : List Str := ["rule", "low", "high", "seen_cells", "number", "place", "lines", "wanted", "last", "line"]
abbrev ir_looks_missing : ST := (.cons (.ex (.call 0 (.cons (.var 0) (.cons (.var 1) (.cons (.var 2) (.cons (.var 3) .nil))))))
 (.cons (.asg (.nm 4) (.call 1 (.cons (.var 0) (.cons (.var 1) (.cons (.var 2) (.cons (.var 3) .nil))))))
 (.cons (.ret (.ite (.cmp .Is (.var 4) .non) .non (.bin .Sub (.bin .Add (.bin .Sub (.var 2) (.var 1)) (.int 1)) (.bi .len (.cons (.var 4) .nil)))))
 .nil)))
abbrev gn_looks_missing : GN := [.fn "check_known" 4, .fn "settled" 4]
abbrev nm_looks_missing : List Str := ["rule", "low", "high", "seen_cells", "lines"]
theorem atI_last_int {xs : List Int} (h : 0 < xs.length) : ∃ x ∈ xs, atI (xs.map D.int) (-1) = some (.int x) := by
  have hi : xs.length - 1 < xs.length := by omega
  refine ⟨xs[xs.length - 1], List.getElem_mem _, ?_⟩
  unfold atI ixN
  rw [if_neg (by decide), if_pos (by rw [List.length_map]; omega)]
  show (List.map _ _)[_]? = _
  rw [List.length_map, show (-1 + (xs.length : Int)).toNat = xs.length - 1 by omega, List.getElem?_map, List.getElem?_eq_getElem hi]
  rfl
/-- what asks of a rule, a stretch and seen cells -/
structure AskOk (d : Nat) (p low high : Int) (parts : List (Int × Int)) (ks : List (Int × Int × Int)) : Prop where
  R : RuleOk p parts
  w : high - low ≤ 1000
  n : ks.length ≤ 1000
  c : ∀ t ∈ ks, CellB d low high t.1 t.2.1
theorem known_none {q : Ad} {p low high : Int} {ks : List (Int × Int × Int)} (h : knownE q p low high ks = none) : low ≤ high ∧ ∀ t ∈ ks, 0 ≤ t.1 ∧ 0 ≤ t.2.2 ∧ t.2.2 < p := by
  unfold knownE at h
  split at h
  · cases h
  · rename_i hs
    refine ⟨by omega, fun t ht => ?_⟩
    have h1 : seenE p ks = none := by
      cases he : seenE p ks with
      | none => rfl
      | some i => rw [he] at h; cases h
    unfold seenE at h1
    rw [List.findIdx?_eq_none_iff] at h1
    have := h1 t ht
    unfold badS at this
    simp only [Bool.or_eq_false_iff, decide_eq_false_iff_not, Bool.not_eq_false', Bool.and_eq_true, decide_eq_true_eq] at this
    omega
theorem ask_set {q : Ad} {d : Nat} {p low high : Int} {parts : List (Int × Int)} {ks : List (Int × Int × Int)} {ms : MS} {kd : DK} {xk : Addr → D → MS → Prop} (A : AskOk d p low high parts ks) (h : knownE q p low high ks = none) (k1 : kd .non ms)
    (k2 : ∀ lines : List (Int × List Int), lines.length ≤ ks.length → (∀ l ∈ lines, LineOk p (high - low + 1) l) → kd (.lst (lines.map lineD)) ms) : spSet q d [ruleD q.rule p parts, .int low, .int high, .lst (ks.map tr3)] ms kd xk := by
  obtain ⟨h1, h2⟩ := known_none h
  exact ⟨p, parts, low, high, ks, rfl, A.R, ⟨h1, A.w⟩, A.n, fun t ht => ⟨A.c t ht, (h2 t ht).2⟩, k1, k2⟩
abbrev gKn (q : Ad) : Ent := .fn "check_known" 4 (spKnownC q)
abbrev gSe (q : Ad) (d : Nat) : Ent := .fn "settled" 4 (spSet q d)
def spAsk (q : Ad) (d : Nat) (R : Int → Int → Int → D → Prop) : DSp := fun vs ms kd xk => ∃ (p : Int) (parts : List (Int × Int)) (low high : Int) (ks : List (Int × Int × Int)), vs = [ruleD q.rule p parts, .int low, .int high, .lst (ks.map tr3)] ∧ match knownE q p low high ks with
  | some e => xk e.1 e.2 ms
  | none => AskOk d p low high parts ks ∧ ∀ r, R p low high r → kd r ms
def rCount (_ _ _ : Int) (r : D) : Prop := ∃ n : Int, r = .int n
def rFirst (p low high : Int) (r : D) : Prop := r = .non ∨ ∃ xs : List Int, r = intsD xs ∧ xs.length = (high - low + 1).toNat ∧ inP p xs
def rLooks (_ low high : Int) (r : D) : Prop := r = .non ∨ ∃ n : Int, r = .int n ∧ n ≤ high - low + 1
theorem walk_count_begins {q : Ad} {d : Nat} {K : PySem.W.Frag} {vs : List D} {ms : MS} {kd : DK} {xk : Addr → D → MS → Prop} (h : spAsk q d rCount vs ms kd xk) : vS [gKn q, gSe q d, .pr q.rule "prime" (spPrime q)] (dX K xk) ir_count_begins (startD nm_count_begins vs) ms (dN K kd) := by
  obtain ⟨p, parts, low, high, ks, rfl, kq⟩ := h
  simp only [ruleD]
  (simp only [startD, List.map_cons, List.map_nil, List.length_cons, List.length_nil, List.cons_append, List.nil_append, List.replicate, Nat.reduceAdd, Nat.reduceSub]; with_reducible conv => whnf)
  refine ⟨p, parts, low, high, ks, rfl, ?_⟩
  cases he : knownE q p low high ks with
  | some e => rw [he] at kq; exact ⟨_, MLe.refl _ _, kq⟩
  | none =>
    rw [he] at kq
    obtain ⟨A, kq⟩ := kq
    with_reducible conv => whnf
    refine ask_set A he ?_ fun lines hll hlo => ?_
    · with_reducible conv => whnf
      exact ⟨_, MLe.refl _ _, kq _ ⟨_, rfl⟩⟩
    · with_reducible conv => whnf
      have hw := A.w
      have hle := (known_none he).1
      have hn := A.n
      refine ⟨by rw [List.length_map]; omega, ?_⟩
      with_reducible conv => whnf
      rw [rangeD_map, List.length_map]
      refine vForL_ix (f := fun i : Nat => D.int (0 + (i : Int))) _ (fun i dsA msA => ∃ n : Int, dsA = [some (ruleD q.rule p parts), none, none, none, none, some (.int n), none] ∧ msA = ms) ⟨1, rfl, rfl⟩ (fun dsA msA h => ?_) (fun i x dsA msA R hx hR h => ?_)
      · obtain ⟨n, rfl, rfl⟩ := h
        exact ⟨trivial, _, MLe.refl _ _, kq _ ⟨n, rfl⟩⟩
      · obtain ⟨n, rfl, rfl⟩ := h
        refine ⟨trivial, ?_⟩
        with_reducible conv => whnf
        refine ⟨rfl, p, parts, rfl, ?_⟩
        with_reducible conv => whnf
        have hp := A.R.pr
        refine ⟨.inl (.inr (by omega)), ?_⟩
        with_reducible conv => whnf
        exact hR _ _ ⟨_, rfl, rfl⟩
theorem walk_looks_missing {q : Ad} {d : Nat} {K : PySem.W.Frag} {vs : List D} {ms : MS} {kd : DK} {xk : Addr → D → MS → Prop} (h : spAsk q d rLooks vs ms kd xk) : vS [gKn q, gSe q d] (dX K xk) ir_looks_missing (startD nm_looks_missing vs) ms (dN K kd) := by
  obtain ⟨p, parts, low, high, ks, rfl, kq⟩ := h
  simp only [ruleD]
  (simp only [startD, List.map_cons, List.map_nil, List.length_cons, List.length_nil, List.cons_append, List.nil_append, List.replicate, Nat.reduceAdd, Nat.reduceSub]; with_reducible conv => whnf)
  refine ⟨p, parts, low, high, ks, rfl, ?_⟩
  cases he : knownE q p low high ks with
  | some e => rw [he] at kq; exact ⟨_, MLe.refl _ _, kq⟩
  | none =>
    rw [he] at kq
    obtain ⟨A, kq⟩ := kq
    with_reducible conv => whnf
    refine ask_set A he ?_ fun lines hll hlo => ?_
    · with_reducible conv => whnf
      exact ⟨_, MLe.refl _ _, kq _ (.inl rfl)⟩
    · with_reducible conv => whnf
      exact ⟨_, MLe.refl _ _, kq _ (.inr ⟨_, rfl, by omega⟩)⟩
theorem walk_first_begin {q : Ad} {d : Nat} {K : PySem.W.Frag} {vs : List D} {ms : MS} {kd : DK} {xk : Addr → D → MS → Prop} (h : spAsk q d rFirst vs ms kd xk) : vS [gKn q, gSe q d] (dX K xk) ir_first_begin (startD nm_first_begin vs) ms (dN K kd) := by
  obtain ⟨p, parts, low, high, ks, rfl, kq⟩ := h
  simp only [ruleD]
  (simp only [startD, List.map_cons, List.map_nil, List.length_cons, List.length_nil, List.cons_append, List.nil_append, List.replicate, Nat.reduceAdd, Nat.reduceSub]; with_reducible conv => whnf)
  refine ⟨p, parts, low, high, ks, rfl, ?_⟩
  cases he : knownE q p low high ks with
  | some e => rw [he] at kq; exact ⟨_, MLe.refl _ _, kq⟩
  | none =>
    rw [he] at kq
    obtain ⟨A, kq⟩ := kq
    have hw := A.w
    have hle := (known_none he).1
    have hp := A.R.pr
    with_reducible conv => whnf
    refine ask_set A he ?_ fun lines hll hlo => ?_
    · with_reducible conv => whnf
      exact ⟨_, MLe.refl _ _, kq _ (.inl rfl)⟩
    · with_reducible conv => whnf
      refine ⟨lsz (by simp), ?_⟩
      with_reducible conv => whnf
      refine ⟨⟨by omega, by omega, Nat.le_trans (show 1 * (high - low + 1).toNat ≤ 1001 by omega) (by rw [sizeLine_eq]; decide)⟩, fun pf => ?_⟩
      with_reducible conv => whnf
      rw [flat_rep]
      refine vForL_ix (f := lineD) lines (fun i dsA msA => ∃ fs : List Int, dsA = [none, none, none, none, none, some (.adr pf), none, none] ∧ msA = (pf, .lst (fs.map D.int)) :: ms ∧ fs.length = (high - low + 1).toNat ∧ inP p fs) ⟨_, rfl, rfl, List.length_replicate, fun x h => by rw [(List.mem_replicate.mp h).2]; omega⟩ (fun dsA msA h => ?_) (fun i l dsA msA R hl hR h => ?_)
      · obtain ⟨fs, rfl, rfl, hfl, hfi⟩ := h
        refine ⟨trivial, ?_⟩
        with_reducible conv => whnf
        refine ⟨0, _, .z, ?_⟩
        with_reducible conv => whnf
        exact ⟨_, MLe.refl _ _, kq _ (.inr ⟨fs, rfl, hfl, hfi⟩)⟩
      · obtain ⟨fs, rfl, rfl, hfl, hfi⟩ := h
        have L := hlo l (List.mem_of_getElem? hl)
        refine ⟨trivial, ?_⟩
        with_reducible conv => whnf
        obtain ⟨y, hy, hat⟩ := atI_last_int (xs := l.2) (by rw [L.n]; omega)
        refine ⟨_, hat, ?_⟩
        with_reducible conv => whnf
        have l0 := L.l0; have l1 := L.l1
        refine ⟨0, _, .z, l.1.toNat, ?_, ?_⟩
        · unfold ixN
          rw [if_pos l0, if_pos (by rw [List.length_map, hfl]; omega)]
        with_reducible conv => whnf
        refine hR _ _ ⟨fs.set l.1.toNat y, rfl, ?_, by rw [List.length_set]; exact hfl, fun w hw => ?_⟩
        · rw [List.map_set]
        · rcases List.mem_or_eq_of_mem_set hw with hw | rfl
          · exact hfi w hw
          · exact L.i _ hy
theorem cutD_int (xs : List Int) (lo hi : Option Int) : DL.cutD (xs.map D.int) lo hi = ((xs.drop (HT.sIx xs.length 0 lo)).take (HT.sIx xs.length xs.length hi - HT.sIx xs.length 0 lo)).map D.int := by
  unfold DL.cutD
  rw [List.length_map, ← List.map_drop, ← List.map_take]
def rSure (p : Int) (r : D) : Prop := r = .non ∨ ∃ n : Int, r = .int n ∧ 0 ≤ n ∧ n < p
def spSure (q : Ad) (d : Nat) : DSp := fun vs ms kd xk => ∃ (p : Int) (parts : List (Int × Int)) (low high : Int) (ks : List (Int × Int × Int)) (number place : Int), vs = [ruleD q.rule p parts, .int low, .int high, .lst (ks.map tr3), .int number, .int place] ∧ match knownE q p low high ks with
  | some e => xk e.1 e.2 ms
  | none => if number < 0 then xk q.number (.int number) ms else AskOk d p low high parts ks ∧ CellB d low high number place ∧ ∀ r, rSure p r → kd r ms
theorem walk_sure_value {q : Ad} {d : Nat} {K : PySem.W.Frag} {vs : List D} {ms : MS} {kd : DK} {xk : Addr → D → MS → Prop} (h : spSure q d vs ms kd xk) : vS [gKn q, .fn "check_number" 2 (spNumber q), gSe q d, .fn "factors_of" 5 (spFac q d), .fn "lessened" 4 spLess, .pr q.rule "prime" (spPrime q)] (dX K xk) ir_sure_value (startD nm_sure_value vs) ms (dN K kd) := by
  obtain ⟨p, parts, low, high, ks, number, place, rfl, kq⟩ := h
  simp only [ruleD]
  (simp only [startD, List.map_cons, List.map_nil, List.length_cons, List.length_nil, List.cons_append, List.nil_append, List.replicate, Nat.reduceAdd, Nat.reduceSub]; with_reducible conv => whnf)
  refine ⟨p, parts, low, high, ks, rfl, ?_⟩
  cases he : knownE q p low high ks with
  | some e => rw [he] at kq; exact ⟨_, MLe.refl _ _, kq⟩
  | none =>
    rw [he] at kq
    with_reducible conv => whnf
    refine ⟨number, 0, rfl, ?_⟩
    by_cases hn : number < 0
    · have kq : (if number < 0 then xk q.number (.int number) ms else _) := kq
      rw [if_pos hn] at kq ⊢
      exact ⟨_, MLe.refl _ _, kq⟩
    have kq : (if number < 0 then xk q.number (.int number) ms else AskOk d p low high parts ks ∧ CellB d low high number place ∧ ∀ r, rSure p r → kd r ms) := kq
    rw [if_neg hn] at kq ⊢
    obtain ⟨A, C, kq⟩ := kq
    have hw := A.w
    have hle := (known_none he).1
    have hp := A.R.pr
    with_reducible conv => whnf
    refine ask_set A he ?_ fun lines hll hlo => ?_
    · with_reducible conv => whnf
      exact ⟨_, MLe.refl _ _, kq _ (.inl rfl)⟩
    · with_reducible conv => whnf
      refine ⟨p, parts, low, high, number, place, rfl, A.R, ⟨hle, hw⟩, C, fun fs hfl hfi => ?_⟩
      with_reducible conv => whnf
      refine ⟨lsz (by rw [List.length_append, List.length_map]; simp; omega), ?_⟩
      rw [show fs.map D.int ++ [D.int 0] = (fs ++ [0]).map D.int by rw [List.map_append]; rfl]
      with_reducible conv => whnf
      refine vForL_ix (f := lineD) lines (fun j dsA msA => ∃ (ln : List Int), dsA = [some (ruleD q.rule p parts), none, none, none, none, none, none, some (intsD ln), none, none] ∧ msA = ms ∧ ln.length = (high - low + 1 + 1).toNat ∧ inP p ln) ⟨fs ++ [0], rfl, rfl, by rw [List.length_append]; simp; omega, fun y hy => ?_⟩ (fun dsA msA h => ?_) (fun j l dsA msA R2 hl2 hR2 h => ?_)
      · rcases List.mem_append.mp hy with hy | hy
        · exact hfi y hy
        · rw [List.mem_singleton] at hy
          subst hy
          omega
      · obtain ⟨ln, rfl, rfl, hln, hli⟩ := h
        refine ⟨trivial, ?_⟩
        with_reducible conv => whnf
        rw [cutD_int]
        refine .inr ⟨_, rfl, ?_⟩
        with_reducible conv => whnf
        refine vIf_bl (fun hb => ?_) fun hb => ?_
        · with_reducible conv => whnf
          exact ⟨_, MLe.refl _ _, kq _ (.inl rfl)⟩
        · with_reducible conv => whnf
          obtain ⟨y, hy, hat⟩ := atI_last_int (xs := ln) (by rw [hln]; omega)
          refine ⟨_, hat, ?_⟩
          with_reducible conv => whnf
          refine ⟨rfl, p, parts, rfl, ?_⟩
          with_reducible conv => whnf
          refine ⟨by omega, ?_⟩
          with_reducible conv => whnf
          exact ⟨_, MLe.refl _ _, kq _ (.inr ⟨_, rfl, Int.emod_nonneg _ (by omega), Int.emod_lt_of_pos _ (by omega)⟩)⟩
      · obtain ⟨ln, rfl, rfl, hln, hli⟩ := h
        have L := hlo l (List.mem_of_getElem? hl2)
        have hlt : l.1 < ln.length := by have := L.l1; rw [hln]; omega
        have g := getD_in hli (s := l.1.toNat) (by have := L.l0; omega)
        refine ⟨trivial, ?_⟩
        with_reducible conv => whnf
        refine ⟨_, atI_getI L.l0 hlt, ?_⟩
        with_reducible conv => whnf
        refine ⟨rfl, p, parts, rfl, ?_⟩
        with_reducible conv => whnf
        refine ⟨ln, l.2, _, p, rfl, by omega, by omega, by rw [hln]; omega, ?_⟩
        obtain ⟨k1, k2⟩ := lessL_ok (p := p) (by omega) (xs := ln) (ys := l.2) (f := ln.getD l.1.toNat 0) (by rw [hln, L.n])
        with_reducible conv => whnf
        exact hR2 _ _ ⟨_, rfl, rfl, by rw [k1, hln], k2⟩
end Lb

/-! LIBK: k56, the law itself. -/
namespace Lb
open PySem PySem.Spec PyProof.Rows L2 DL
abbrev ir__law_made : ST := (.cons (.ret (.frzI (.make 0 (.cons (.ix (.var 0) (.int 0)) (.cons (.frz (.bi .list_ (.cons (.ix (.var 0) (.int 1)) .nil))) .nil)))))
 .nil)
abbrev gn__law_made : GN := [.cls "Rule" 2]
abbrev nm__law_made : List Str := ["kind"]
abbrev ir__law_flagged : ST := (.cons (.ret (.lst false (.cons (.lc false (.cmp .Eq (.var 0) (.var 2)) (.nm 2) (.itR1 (.int 5)) .nil [("other", 2)]) (.cons (.bl false) (.cons (.var 1) .nil)))))
 .nil)
abbrev gn__law_flagged : GN := []
abbrev nm__law_flagged : List Str := ["spot", "thing", "other"]
abbrev ir__law_right_r : ST := (.cons (.ife (.cmp .NotEq (.bi .repr (.cons (.call 3 (.cons (.var 11) (.cons (.call 4 (.cons (.var 1) .nil)) (.cons (.var 4) (.cons (.var 3) (.cons (.var 9) .nil)))))) .nil)) (.bi .repr (.cons (.var 12) .nil)))
 (.cons (.ret (.bl false))
 .nil)
 .nil)
 .nil)
abbrev ir__law_right : ST := (.cons (.asg (.nm 1) (.call 0 (.cons (.var 0) .nil)))
 (.cons (.par 2 3 (.bin .Sub (.call 1 (.cons (.var 0) (.cons (.bin .Pow (.int 10) (.int 20)) .nil))) (.bin .Pow (.int 10) (.int 19))) (.lst true .nil))
 (.cons (.asg (.nm 4) (.tup (.cons (.var 2) (.cons (.bin .Add (.var 2) (.ix (.lst false (.cons (.int 0) (.cons (.int 5) (.cons (.int 23) (.cons (.neg (.int 1)) (.cons (.bin .Sub (.int 0) (.bin .Pow (.int 10) (.int 20))) .nil)))))) (.call 1 (.cons (.var 0) (.cons (.int 5) .nil))))) .nil))))
 (.cons (.forS (.nm 5) (.itR1 (.call 1 (.cons (.var 0) (.cons (.int 5) .nil)))) [5, 6, 7, 8, 9, 10, 11, 12]
 (.cons (.asg (.nm 6) (.ix (.lst false (.cons (.int 0) (.cons (.int 3) (.cons (.call 1 (.cons (.var 0) (.cons (.bin .Pow (.int 10) (.int 20)) .nil))) (.cons (.neg (.int 1)) (.cons (.bin .Sub (.int 0) (.bin .Pow (.int 10) (.int 30))) .nil)))))) (.ix (.lst false (.cons (.int 0) (.cons (.int 1) (.cons (.int 2) (.cons (.int 0) (.cons (.int 1) (.cons (.int 2) (.cons (.int 3) (.cons (.int 4) .nil))))))))) (.call 1 (.cons (.var 0) (.cons (.int 8) .nil))))))
 (.cons (.asg (.nm 7) (.ix (.lst false (.cons (.int 0) (.cons (.bin .Sub (.ix (.var 1) (.int 0)) (.int 1)) (.cons (.int 0) (.cons (.ix (.var 1) (.int 0)) (.cons (.neg (.int 1)) (.cons (.bin .Pow (.int 10) (.int 30)) .nil))))))) (.ix (.lst false (.cons (.int 0) (.cons (.int 1) (.cons (.int 0) (.cons (.int 1) (.cons (.int 2) (.cons (.int 3) (.cons (.int 4) (.cons (.int 5) .nil))))))))) (.call 1 (.cons (.var 0) (.cons (.int 8) .nil))))))
 (.cons (.ex (.mth .append (.var 3) (.cons (.tup (.cons (.var 6) (.cons (.bin .Sub (.bin .Add (.var 2) (.call 1 (.cons (.var 0) (.cons (.int 9) .nil)))) (.int 4)) (.cons (.var 7) .nil)))) .nil)))
 .nil))))
 (.cons (.frzv 3)
 (.cons (.asg (.nm 8) (.lc false (.var 13) (.tup (.cons (.nm 13) (.cons (.nm 14) .nil))) (.itEn (.var 3)) (.cons (.or (.cons (.cmp .Lt (.ix (.var 14) (.int 0)) (.int 0)) (.cons (.not (.chain .LtE .Lt (.int 0) (.ix (.var 14) (.int 2)) (.ix (.var 1) (.int 0)))) .nil))) .nil) [("at", 13), ("one", 14)]))
 (.cons (.par 9 10 (.tup (.cons (.ix (.lst false (.cons (.int 0) (.cons (.int 4) (.cons (.neg (.int 1)) (.cons (.bin .Sub (.int 0) (.bin .Pow (.int 10) (.int 30))) .nil))))) (.call 1 (.cons (.var 0) (.cons (.int 4) .nil)))) (.cons (.var 2) .nil))) (.bi .repr (.cons (.var 3) .nil)))
 (.cons (.forS (.nm 11) (.itR1 (.int 5)) [0, 2, 5, 6, 7, 11, 12, 13, 14]
 (.cons (.asg (.nm 12) .non)
 (.cons (.ife (.cmp .Gt (.ix (.var 4) (.int 0)) (.ix (.var 4) (.int 1)))
 (.cons (.asg (.nm 12) (.call 2 (.cons (.int 3) (.cons (.var 4) .nil))))
 .nil)
 (.cons (.ife (.cmp .NotEq (.var 8) (.lst false .nil))
 (.cons (.asg (.nm 12) (.call 2 (.cons (.int 4) (.cons (.ix (.var 8) (.int 0)) .nil))))
 .nil)
 (.cons (.ife (.and (.cons (.cmp .Gt (.var 11) (.int 2)) (.cons (.cmp .Lt (.ix (.var 9) (.int 0)) (.int 0)) .nil)))
 (.cons (.asg (.nm 12) (.call 2 (.cons (.int 1) (.cons (.ix (.var 9) (.int 0)) .nil))))
 .nil)
 .nil)
 .nil))
 .nil))
 ir__law_right_r)))
 (.cons (.ret (.cmp .Eq (.bi .repr (.cons (.var 3) .nil)) (.var 10)))
 .nil)))))))))
abbrev gn__law_right : GN := [.fn "_law_kind" 1, .fn "_law_draw" 2, .fn "_law_flagged" 2, .fn "_law_caught" 5, .fn "_law_made" 1]
abbrev nm__law_right : List Str := ["pool", "kind", "low_here", "known", "ends_here", "turn", "turn_here", "size", "faults", "cell", "kept", "way", "due", "at", "one"]
theorem repl_ints (xs : List Int) : (xs.map D.int) = xs.map D.int := rfl
@[reducible] def rMadeK (q : Ad) : DSp := fun vs ms kd _ => ∃ p ts, vs = [.tup [.int p, .lst (ts.map tupI)]] ∧ KindOk p ts ∧ ∀ parts, RuleOk p parts → parts.Perm (ts.map swp) → kd (ruleD q.rule p parts) ms
theorem walk__law_made {q : Ad} {K : PySem.W.Frag} {vs : List D} {ms : MS} {kd : DK} {xk : Addr → D → MS → Prop} (h : rMadeK q vs ms kd xk) : vS [.cls "Rule" q.rule 2 (spRuleInit q)] (dX K xk) ir__law_made (startD nm__law_made vs) ms (dN K kd) := by
  obtain ⟨p, ts, rfl, k, kq⟩ := h
  (simp only [startD, List.map_cons, List.map_nil, List.length_cons, List.length_nil, List.cons_append, List.nil_append, List.replicate, Nat.reduceAdd, Nat.reduceSub]; with_reducible conv => whnf)
  refine ⟨_, atI_head, ?_⟩
  with_reducible conv => whnf
  refine ⟨_, rfl, ?_⟩
  with_reducible conv => whnf
  intro pl
  with_reducible conv => whnf
  refine ⟨0, _, .z, ?_⟩
  with_reducible conv => whnf
  intro a
  refine ⟨a, p, ts, ms, rfl, rfl, k.len, ?_⟩
  rw [kind_make k]
  intro parts pm so
  refine ⟨rfl, ?_⟩
  with_reducible conv => whnf
  refine ⟨0, _, _, .z, ?_⟩
  with_reducible conv => whnf
  exact ⟨_, MLe.refl _ _, kq parts (kind_parts k pm so k.len) pm⟩
def flagsD (i : Int) (d : D) : D := .lst [.lst ((List.range 5).map fun j : Nat => D.bl (decide (i = 0 + (j : Int)))), .bl false, d]
def spFlagged : DSp := fun vs ms kd _ => ∃ i d, vs = [.int i, d] ∧ kd (flagsD i d) ms
theorem walk__law_flagged {K : PySem.W.Frag} {vs : List D} {ms : MS} {kd : DK} {xk : Addr → D → MS → Prop} (h : spFlagged vs ms kd xk) : vS [] (dX K xk) ir__law_flagged (startD nm__law_flagged vs) ms (dN K kd) := by
  obtain ⟨i, d, rfl, kq⟩ := h
  (simp only [startD, List.map_cons, List.map_nil, List.length_cons, List.length_nil, List.cons_append, List.nil_append, List.replicate, Nat.reduceAdd, Nat.reduceSub]; with_reducible conv => whnf)
  refine ⟨by decide, ?_⟩
  rw [rangeD_map]
  refine vLc_map (f := fun i : Nat => D.int (0 + (i : Int))) (fun j : Nat => [D.bl (decide (i = 0 + (j : Int)))]) (List.range 5) (fun s => by simp) (by decide) (fun _ _ => trivial) ?_ (fun s hs acc R' hacc hR' => ?_)
  rotate_left
  · with_reducible conv => whnf
    intro L
    with_reducible conv => whnf
    exact ⟨hacc, Off.z hR'⟩
  rw [flatMap_one]
  with_reducible conv => whnf
  exact ⟨lsz (by simp), _, MLe.refl _ _, kq⟩
theorem pw10 (n : Int) (h0 : 0 ≤ n) (h1 : n ≤ 40) : CPowW 10 n := powW_of (a := 4) h0 (by decide) (by decide) (by omega)
/-- which error, and its value -/
def errK (p low high : Int) (ks : List (Int × Int × Int)) (way cn : Int) : Option (Int × D) :=
  if high < low then some (3, .tup [.int low, .int high]) else match seenE p ks with
    | some i => some (4, .int (i : Int))
    | none => if 2 < way ∧ cn < 0 then some (1, .int cn) else none
def errD : Option (Int × D) → D
  | none => .non
  | some (i, d) => flagsD i d
def spCaught (q : Ad) (d : Nat) : DSp := fun vs ms kd _ => ∃ (way p : Int) (parts : List (Int × Int)) (low high : Int) (ks : List (Int × Int × Int)) (cn cp : Int), vs = [.int way, ruleD q.rule p parts, .tup [.int low, .int high], .lst (ks.map tr3), .tup [.int cn, .int cp]] ∧ 0 ≤ way ∧ way < 5 ∧
    (low ≤ high → (∀ t ∈ ks, 0 ≤ t.1) → AskOk d p low high parts ks ∧ (0 ≤ cn → CellB d low high cn cp)) ∧ kd (errD (errK p low high ks way cn)) ms
/-- a cell that the law builds -/
structure CelOk (low : Int) (t : Int × Int × Int) : Prop where
  n0 : -(10 ^ 30) ≤ t.1
  n1 : t.1 ≤ 10 ^ 20
  p0 : low - 4 ≤ t.2.1
  p1 : t.2.1 ≤ low + 4
  v0 : -1 ≤ t.2.2
  v1 : t.2.2 ≤ 10 ^ 30
theorem _root_.DL.Shw.bl (b : Bool) : Shw (.bl b) 0 5 := ⟨rfl, rfl, rfl, Nat.le_refl _, by cases b <;> decide +kernel⟩
theorem _root_.DL.Shw.non : Shw .non 0 5 := ⟨rfl, rfl, rfl, Nat.le_refl _, by decide +kernel⟩
theorem p1920 : (10 : Nat) ^ 35 ≤ 2 ^ 1920 := Nat.le_trans (show 10 ^ 35 ≤ 2 ^ 200 by decide) (Nat.pow_le_pow_right (by decide) (by decide))
theorem shw_i {i : Int} (h : -(10 ^ 32) ≤ i ∧ i ≤ 10 ^ 32) : Shw (.int i) 0 36 := Shw.int (k := 35) (by decide) (by omega) p1920
theorem _root_.DL.Shw.up {d : D} {n m n' m' : Nat} (h : Shw d n m) (h1 : n ≤ n') (h2 : m ≤ m') : Shw d n' m' := ⟨h.pl, h.sh, h.hd, Nat.le_trans h.dp h1, Nat.le_trans h.ln h2⟩
theorem flags_shw {i : Int} {d : D} (h : Shw d 1 200) : Shw (flagsD i d) 2 800 := by
  have h1 : Shw (.lst ((List.range 5).map fun j : Nat => D.bl (decide (i = 0 + (j : Int))))) 1 37 := Shw.lst (n := 0) (m := 5) (fun x hx => by
    obtain ⟨j, _, rfl⟩ := List.mem_map.mp hx
    exact Shw.bl _) (l := 5) (by simp)
  exact Shw.lst (n := 1) (m := 200) (fun x hx => by
    rcases List.mem_cons.mp hx with rfl | hx
    · exact h1.up (by decide) (by decide)
    · rcases List.mem_cons.mp hx with rfl | hx
      · exact (Shw.bl _).up (by decide) (by decide)
      · rw [List.mem_singleton] at hx
        subst hx
        exact h) (l := 3) (by simp) |>.up (by decide) (by decide)
theorem err_shw {p low high : Int} {ks : List (Int × Int × Int)} {way cn : Int} (h1 : -(10 ^ 32) ≤ low ∧ low ≤ 10 ^ 32) (h2 : -(10 ^ 32) ≤ high ∧ high ≤ 10 ^ 32) (h3 : ks.length ≤ 1000) (h4 : -(10 ^ 32) ≤ cn ∧ cn ≤ 10 ^ 32) : Shw (errD (errK p low high ks way cn)) 2 800 := by
  unfold errK
  split
  · refine flags_shw ((Shw.tup (n := 0) (m := 36) (fun x hx => ?_) (l := 2) (by simp)).up (by decide) (by decide))
    rcases List.mem_cons.mp hx with rfl | hx
    · exact shw_i h1
    · rw [List.mem_singleton] at hx
      subst hx
      exact shw_i h2
  · cases hs : seenE p ks with
    | some i =>
      have hi : i < ks.length := by
        unfold seenE at hs
        rw [List.findIdx?_eq_some_iff_getElem] at hs
        exact hs.1
      exact flags_shw ((shw_i (by omega)).up (by decide) (by decide))
    | none =>
      show Shw (errD (if 2 < way ∧ cn < 0 then some (1, .int cn) else none)) 2 800
      split
      · exact flags_shw ((shw_i h4).up (by decide) (by decide))
      · exact Shw.non.up (by decide) (by decide)
theorem known_shw {low : Int} {ks : List (Int × Int × Int)} (hl : -(10 ^ 19) ≤ low ∧ low ≤ 10 ^ 20) (hk : ks.length ≤ 10) (hok : ∀ t ∈ ks, CelOk low t) : Shw (.lst (ks.map tr3)) 2 2000 := by
  refine (Shw.lst (n := 1) (m := 117) (fun x hx => ?_) (l := 10) (by rw [List.length_map]; exact hk)).up (by decide) (by decide)
  obtain ⟨t, ht, rfl⟩ := List.mem_map.mp hx
  obtain ⟨a1, a2, a3, a4, a5, a6⟩ := hok t ht
  refine Shw.tup (n := 0) (m := 36) (fun x hx => ?_) (l := 3) (by simp)
  rcases List.mem_cons.mp hx with rfl | hx
  · exact shw_i (by omega)
  · rcases List.mem_cons.mp hx with rfl | hx
    · exact shw_i (by omega)
    · rw [List.mem_singleton] at hx
      subst hx
      exact shw_i (by omega)
def fltG (p : Int) (z : (Int × Int × Int) × Nat) : List D := if badS p z.1 = true then [D.int (z.2 : Int)] else []
theorem flt_seen {p : Int} : ∀ {ks : List (Int × Int × Int)} {k : Nat}, match ks.findIdx? (badS p) with
    | none => (ks.zipIdx k).flatMap (fltG p) = []
    | some i => ∃ r, (ks.zipIdx k).flatMap (fltG p) = .int ((i + k : Nat) : Int) :: r
  | [], k => rfl
  | t :: r, k => by
    have ih := flt_seen (p := p) (ks := r) (k := k + 1)
    rw [List.findIdx?_cons, List.zipIdx_cons, List.flatMap_cons]
    by_cases h : badS p t = true
    · rw [if_pos h]
      refine ⟨(r.zipIdx (k + 1)).flatMap (fltG p), ?_⟩
      unfold fltG
      rw [if_pos h]
      simp
    · rw [if_neg h]
      have e : fltG p (t, k) = [] := by unfold fltG; rw [if_neg h]
      rw [e, List.nil_append]
      cases hf : r.findIdx? (badS p) with
      | none => rw [hf] at ih; exact ih
      | some i =>
        rw [hf] at ih
        obtain ⟨rr, ih⟩ := ih
        exact ⟨rr, by rw [ih]; congr 3; show i + (k + 1) = i + 1 + k; omega⟩
abbrev gRight56 (q : Ad) : GE := [.fn "_law_kind" 1 (spV 20 rKind), gDraw, .fn "_law_flagged" 2 spFlagged, .fn "_law_caught" 5 (spCaught q 70), .fn "_law_made" 1 (rMadeK q)]
theorem walk__law_right_r {q : Ad} {xw : DX} {E : DEnds} {ms : MS} {pr low high cn way : Int} {ts : List (Int × Int)} {ks : List (Int × Int × Int)} {flt kept due : D} (hk : KindOk pr ts) (w0 : 0 ≤ way) (w1 : way < 5) (hlow : -(10 ^ 19) ≤ low ∧ low ≤ 10 ^ 20) (hh : high ≤ low + 23 ∧ low - 10 ^ 20 ≤ high) (hl : ks.length ≤ 10) (hok : ∀ t ∈ ks, CelOk low t) (hcn : -(10 ^ 30) ≤ cn ∧ cn ≤ 4)
    (hd : due = errD (errK pr low high ks way cn)) (hnx : E.nx [none, some (.tup [.int pr, .lst (ts.map tupI)]), none, some (.lst (ks.map tr3)), some (.tup [.int low, .int high]), none, none, none, some flt, some (.tup [.int cn, .int low]), some kept, some (.int way), some due, none, none] ms) :
    vS (gRight56 q) xw ir__law_right_r [none, some (.tup [.int pr, .lst (ts.map tupI)]), none, some (.lst (ks.map tr3)), some (.tup [.int low, .int high]), none, none, none, some flt, some (.tup [.int cn, .int low]), some kept, some (.int way), some due, none, none] ms E := by
  subst hd
  with_reducible conv => whnf
  refine ⟨pr, ts, rfl, hk, fun parts R pm => ?_⟩
  with_reducible conv => whnf
  have hs := err_shw (p := pr) (low := low) (high := high) (ks := ks) (way := way) (cn := cn) (by omega) (by omega) (by omega) (by omega)
  have hz : 800 ≤ sizeLine := by rw [sizeLine_eq]; decide
  refine ⟨way, pr, parts, low, high, ks, cn, low, rfl, w0, w1, fun hle hnn => ⟨⟨R, by omega, by omega, fun t ht => ?_⟩, fun hc => ⟨hc, by omega, by omega, by omega⟩⟩, ?_⟩
  · have T := hok t ht
    have := T.n1; have := T.p0; have := T.p1; have := hnn t ht
    exact ⟨this, by omega, by omega, by omega⟩
  with_reducible conv => whnf
  refine ⟨⟨2, 800, hs, by decide, hz⟩, ?_⟩
  with_reducible conv => whnf
  refine ⟨⟨2, 800, hs, by decide, hz⟩, ?_⟩
  with_reducible conv => whnf
  refine vIf_nec (fun h => absurd rfl h) fun _ => ?_
  with_reducible conv => whnf
  exact hnx
theorem walk__law_right {q : Ad} {K : PySem.W.Frag} {vs : List D} {ms : MS} {kd : DK} {xk : Addr → D → MS → Prop} (h : spF 60 (fun as k => as = [] ∧ k (.bl true)) vs ms kd xk) :
    vS [.fn "_law_kind" 1 (spV 20 rKind), gDraw, .fn "_law_flagged" 2 spFlagged, .fn "_law_caught" 5 (spCaught q 70), .fn "_law_made" 1 (rMadeK q)] (dX K xk) ir__law_right (startD nm__law_right vs) ms (dN K kd) := by
  obtain ⟨p, as, n, ms0, rfl, rfl, hn, rfl, kq⟩ := h
  (simp only [startD, List.map_cons, List.map_nil, List.length_cons, List.length_nil, List.cons_append, List.nil_append, List.replicate, Nat.reduceAdd, Nat.reduceSub]; with_reducible conv => whnf)
  refine ⟨p, _, n, 0, rfl, .z, by omega, rfl, fun pr ts hk => ?_⟩
  with_reducible conv => whnf
  refine ⟨pw10 20 (by decide) (by decide), ?_⟩
  with_reducible conv => whnf
  refine ⟨p, _, _, 0, rfl, .z, by omega, _, rfl, by decide, by decide, fun r r0 r1 => ?_⟩
  with_reducible conv => whnf
  refine ⟨pw10 19 (by decide) (by decide), ?_⟩
  with_reducible conv => whnf
  generalize hlow : r - (10 : Int) ^ (19 : Int).toNat = low
  have hlow0 : -(10 ^ 19) ≤ low ∧ low ≤ 10 ^ 20 := by
    have e1 : (10 : Int) ^ (20 : Int).toNat = 10 ^ 20 := rfl
    have e2 : (10 : Int) ^ (19 : Int).toNat = 10 ^ 19 := rfl
    rw [e1] at r1
    rw [e2] at hlow
    omega
  refine ⟨by decide, fun pk => ?_⟩
  with_reducible conv => whnf
  refine ⟨pw10 20 (by decide) (by decide), ?_⟩
  with_reducible conv => whnf
  refine ⟨by decide, p, _, _, 1, rfl, .s .z, by omega, _, rfl, by decide, by decide, fun r2 r20 r21 => ?_⟩
  with_reducible conv => whnf
  have he : ∃ wd : Int, atI [D.int 0, .int 5, .int 23, .int (-1), .int (0 - (10 : Int) ^ (20 : Int).toNat)] r2 = some (.int wd) ∧ wd ≤ 23 ∧ -(10 ^ 20) ≤ wd := by
    rcases (show r2 = 0 ∨ r2 = 1 ∨ r2 = 2 ∨ r2 = 3 ∨ r2 = 4 by omega) with rfl | rfl | rfl | rfl | rfl
    · exact ⟨_, rfl, by decide, by decide⟩
    · exact ⟨_, rfl, by decide, by decide⟩
    · exact ⟨_, rfl, by decide, by decide⟩
    · exact ⟨_, rfl, by decide, by decide⟩
    · exact ⟨_, rfl, by decide, by decide⟩
  obtain ⟨wd, hat, wd0, wd1⟩ := he
  refine ⟨_, hat, ?_⟩
  with_reducible conv => whnf
  refine ⟨lsz (by simp), ?_⟩
  with_reducible conv => whnf
  generalize hhigh : low + wd = high
  refine ⟨p, _, _, 1, rfl, .s .z, by omega, _, rfl, by decide, by decide, fun many m0 m1 => ?_⟩
  with_reducible conv => whnf
  refine ⟨by omega, ?_⟩
  with_reducible conv => whnf
  rw [rangeD_map]
  have hpr := hk.pr
  refine vForL_ix (f := fun i : Nat => D.int (0 + (i : Int))) _ (fun i dsA msA => ∃ (ks : List (Int × Int × Int)) (m : Nat), dsA = [some (.adr p), some (.tup [.int pr, .lst (ts.map tupI)]), some (.int low), some (.adr pk), some (.tup [.int low, .int high]), none, none, none, none, none, none, none, none, none, none] ∧ msA = (pk, .lst (ks.map tr3)) :: (p, poolM (n + m)) :: ms0 ∧ m ≤ 23 + 4 * i ∧ ks.length = i ∧ ∀ t ∈ ks, CelOk low t) ⟨[], 23, rfl, rfl, Nat.le_refl _, rfl, fun t h => by cases h⟩ (fun dsA msA h => ?_) (fun i x dsA msA R hx hR h => ?_)
  rotate_left
  · obtain ⟨ks, m, rfl, rfl, hm, hl, hok⟩ := h
    obtain ⟨rfl, hi⟩ := range_ix hx
    refine ⟨trivial, ?_⟩
    with_reducible conv => whnf
    refine ⟨pw10 20 (by decide) (by decide), ?_⟩
    with_reducible conv => whnf
    refine ⟨p, _, _, 1, rfl, .s .z, by omega, _, rfl, by decide, by decide, fun a a0 a1 => ?_⟩
    with_reducible conv => whnf
    refine ⟨pw10 30 (by decide) (by decide), ?_⟩
    with_reducible conv => whnf
    refine ⟨lsz (by simp), lsz (by simp), p, _, _, 1, rfl, .s .z, by omega, _, rfl, by decide, by decide, fun b b0 b1 => ?_⟩
    with_reducible conv => whnf
    have e20 : (10 : Int) ^ (20 : Int).toNat = 10 ^ 20 := rfl
    have e30 : (10 : Int) ^ (30 : Int).toNat = 10 ^ 30 := rfl
    have h1 : ∃ j : Int, atI [D.int 0, .int 1, .int 2, .int 0, .int 1, .int 2, .int 3, .int 4] b = some (.int j) ∧ 0 ≤ j ∧ j < 5 := by
      rcases (show b = 0 ∨ b = 1 ∨ b = 2 ∨ b = 3 ∨ b = 4 ∨ b = 5 ∨ b = 6 ∨ b = 7 by omega) with rfl | rfl | rfl | rfl | rfl | rfl | rfl | rfl <;> exact ⟨_, rfl, by decide, by decide⟩
    obtain ⟨j, hj, j0, j1⟩ := h1
    refine ⟨_, hj, ?_⟩
    with_reducible conv => whnf
    have h2 : ∃ v : Int, atI [D.int 0, .int 3, .int a, .int (-1), .int (0 - (10 : Int) ^ (30 : Int).toNat)] j = some (.int v) ∧ -(10 ^ 30) ≤ v ∧ v ≤ 10 ^ 20 := by
      rw [e20] at a1
      rcases (show j = 0 ∨ j = 1 ∨ j = 2 ∨ j = 3 ∨ j = 4 by omega) with rfl | rfl | rfl | rfl | rfl
      · exact ⟨_, rfl, by decide, by decide⟩
      · exact ⟨_, rfl, by decide, by decide⟩
      · exact ⟨_, rfl, by omega, by omega⟩
      · exact ⟨_, rfl, by decide, by decide⟩
      · exact ⟨_, rfl, by decide, by decide⟩
    obtain ⟨v, hv, v0, v1⟩ := h2
    refine ⟨_, hv, ?_⟩
    with_reducible conv => whnf
    refine ⟨_, atI_head, ?_⟩
    with_reducible conv => whnf
    refine ⟨_, atI_head, ?_⟩
    with_reducible conv => whnf
    refine ⟨pw10 30 (by decide) (by decide), ?_⟩
    with_reducible conv => whnf
    refine ⟨lsz (by simp), lsz (by simp), p, _, _, 1, rfl, .s .z, by omega, _, rfl, by decide, by decide, fun c c0 c1 => ?_⟩
    with_reducible conv => whnf
    have h3 : ∃ j : Int, atI [D.int 0, .int 1, .int 0, .int 1, .int 2, .int 3, .int 4, .int 5] c = some (.int j) ∧ 0 ≤ j ∧ j < 6 := by
      rcases (show c = 0 ∨ c = 1 ∨ c = 2 ∨ c = 3 ∨ c = 4 ∨ c = 5 ∨ c = 6 ∨ c = 7 by omega) with rfl | rfl | rfl | rfl | rfl | rfl | rfl | rfl <;> exact ⟨_, rfl, by decide, by decide⟩
    obtain ⟨j2, hj2, j20, j21⟩ := h3
    refine ⟨_, hj2, ?_⟩
    with_reducible conv => whnf
    have h4 : ∃ v : Int, atI [D.int 0, .int (pr - 1), .int 0, .int pr, .int (-1), .int ((10 : Int) ^ (30 : Int).toNat)] j2 = some (.int v) ∧ -1 ≤ v ∧ v ≤ 10 ^ 30 := by
      rcases (show j2 = 0 ∨ j2 = 1 ∨ j2 = 2 ∨ j2 = 3 ∨ j2 = 4 ∨ j2 = 5 by omega) with rfl | rfl | rfl | rfl | rfl | rfl
      · exact ⟨_, rfl, by decide, by decide⟩
      · exact ⟨_, rfl, by omega, by omega⟩
      · exact ⟨_, rfl, by decide, by decide⟩
      · exact ⟨_, rfl, by omega, by omega⟩
      · exact ⟨_, rfl, by decide, by decide⟩
      · exact ⟨_, rfl, by decide, by decide⟩
    obtain ⟨sz, hsz, sz0, sz1⟩ := h4
    refine ⟨_, hsz, ?_⟩
    with_reducible conv => whnf
    refine ⟨⟨_, .m .z⟩, ?_⟩
    with_reducible conv => whnf
    refine ⟨p, _, _, 1, rfl, .s .z, by omega, _, rfl, by decide, by decide, fun o o0 o1 => ?_⟩
    with_reducible conv => whnf
    refine ⟨lsz (by simp), ?_⟩
    with_reducible conv => whnf
    refine ⟨0, _, .z, len_lt (by rw [List.length_map]; omega), ?_⟩
    with_reducible conv => whnf
    refine hR _ _ ⟨ks ++ [(v, low + o - 4, sz)], m + 4, rfl, ?_, by omega, by rw [List.length_append, hl]; rfl, fun t ht => ?_⟩
    · rw [List.map_append]; rfl
    · rcases List.mem_append.mp ht with ht | ht
      · exact hok t ht
      · rw [List.mem_singleton] at ht
        subst ht
        exact ⟨v0, v1, by show low - 4 ≤ low + o - 4; omega, by show low + o - 4 ≤ low + 4; omega, sz0, sz1⟩
  obtain ⟨ks, m, rfl, rfl, hm, hl, hok⟩ := h
  rw [List.length_range] at hm hl
  refine ⟨trivial, ?_⟩
  with_reducible conv => whnf
  refine ⟨0, _, .z, ?_⟩
  with_reducible conv => whnf
  rw [enumD_map]
  refine vLc_map (f := fun z : (Int × Int × Int) × Nat => D.tup [.int (z.2 : Int), tr3 z.1]) (fltG pr) ks.zipIdx (fun s => by unfold fltG; split <;> simp) (by rw [List.length_zipIdx]; omega) (fun _ _ => trivial) ?_ (fun s hs acc R' hacc hR' => ?_)
  rotate_left
  · obtain ⟨⟨tn, tp, tv⟩, tj⟩ := s
    have yes : badS pr (tn, tp, tv) = true → R' (acc ++ [D.int (tj : Int)]) ((p, poolM (n + m)) :: ms0) := fun hb => by
      unfold fltG at hR'
      rw [if_pos hb] at hR'
      exact hR'
    have no : badS pr (tn, tp, tv) = false → R' acc ((p, poolM (n + m)) :: ms0) := fun hb => by
      unfold fltG at hR'
      rw [if_neg (by rw [hb]; decide), List.append_nil] at hR'
      exact hR'
    with_reducible conv => whnf
    intro L
    with_reducible conv => whnf
    refine ⟨_, atI_head, ?_⟩
    with_reducible conv => whnf
    refine vIf_dec (fun h1 => ?_) fun h1 => ?_
    · with_reducible conv => whnf
      exact ⟨hacc, Off.z (yes (by unfold badS; rw [decide_eq_true (show tn < 0 from h1)]; rfl))⟩
    with_reducible conv => whnf
    refine ⟨_, rfl, ?_⟩
    with_reducible conv => whnf
    refine vIf_dec (fun h2 => ?_) fun h2 => ?_
    rotate_left
    · with_reducible conv => whnf
      exact ⟨hacc, Off.z (yes (by unfold badS; rw [decide_eq_false (show ¬ 0 ≤ tv from h2)]; simp))⟩
    with_reducible conv => whnf
    refine ⟨_, atI_head, ?_⟩
    with_reducible conv => whnf
    refine vIf_nec (fun h3 => ?_) fun h3 => ?_
    · with_reducible conv => whnf
      exact ⟨hacc, Off.z (yes (by unfold badS; rw [decide_eq_false (show ¬ tv < pr from h3)]; simp))⟩
    · with_reducible conv => whnf
      exact Off.z (no (by unfold badS; rw [decide_eq_false (show ¬ tn < 0 from h1), decide_eq_true (show 0 ≤ tv from h2), decide_eq_true (show tv < pr from h3)]; rfl))
  have hflt := flt_seen (p := pr) (ks := ks) (k := 0)
  generalize ks.zipIdx.flatMap (fltG pr) = flt at hflt
  with_reducible conv => whnf
  refine ⟨pw10 30 (by decide) (by decide), ?_⟩
  with_reducible conv => whnf
  refine ⟨lsz (by simp), p, _, _, 0, rfl, .z, by omega, _, rfl, by decide, by decide, fun a a0 a1 => ?_⟩
  with_reducible conv => whnf
  have h5 : ∃ cn : Int, atI [D.int 0, .int 4, .int (-1), .int (0 - (10 : Int) ^ (30 : Int).toNat)] a = some (.int cn) ∧ -(10 ^ 30) ≤ cn ∧ cn ≤ 4 := by
    rcases (show a = 0 ∨ a = 1 ∨ a = 2 ∨ a = 3 by omega) with rfl | rfl | rfl | rfl <;> exact ⟨_, rfl, by decide, by decide⟩
  obtain ⟨cn, hcn, hcn0, hcn1⟩ := h5
  refine ⟨_, hcn, ?_⟩
  with_reducible conv => whnf
  refine ⟨lsz (by simp), ?_⟩
  with_reducible conv => whnf
  have hks := known_shw hlow0 (by omega) hok
  have hz : 2000 ≤ sizeLine := by rw [sizeLine_eq]; decide
  refine ⟨⟨2, 2000, hks, by decide, hz⟩, ?_⟩
  with_reducible conv => whnf
  refine ⟨by decide, ?_⟩
  with_reducible conv => whnf
  rw [rangeD_map]
  refine vForL_ix (f := fun i : Nat => D.int (0 + (i : Int))) _ (fun i dsA msA => dsA = [none, some (.tup [.int pr, .lst (ts.map tupI)]), none, some (.lst (ks.map tr3)), some (.tup [.int low, .int high]), none, none, none, some (.lst flt), some (.tup [.int cn, .int low]), some (.str (pd (.lst (ks.map tr3))).shown), none, none, none, none] ∧ msA = (p, poolM (n + m + 1)) :: ms0) ⟨rfl, rfl⟩ (fun dsA msA h => ?_) (fun i x dsA msA R hx hR h => ?_)
  · obtain ⟨rfl, rfl⟩ := h
    refine ⟨trivial, ?_⟩
    with_reducible conv => whnf
    refine ⟨⟨2, 2000, hks, by decide, hz⟩, ?_⟩
    with_reducible conv => whnf
    refine ⟨(p, poolM (n + 60)) :: ms0, mle_more (by omega), ?_⟩
    rw [decide_eq_true rfl]
    exact kq
  · obtain ⟨rfl, rfl⟩ := h
    obtain ⟨rfl, hi⟩ := range_ix hx
    have hi5 : x < 5 := hi
    refine ⟨trivial, ?_⟩
    with_reducible conv => whnf
    refine ⟨_, atI_head, ?_⟩
    with_reducible conv => whnf
    refine ⟨_, rfl, ?_⟩
    with_reducible conv => whnf
    refine vIf_dec (fun h1 => ?_) fun h1 => ?_
    · with_reducible conv => whnf
      refine ⟨3, _, rfl, ?_⟩
      with_reducible conv => whnf
      exact walk__law_right_r hk (by omega) (by omega) hlow0 (by omega) (by omega) hok ⟨hcn0, hcn1⟩ (by unfold errK; rw [if_pos h1]; rfl) (hR _ _ ⟨rfl, rfl⟩)
    with_reducible conv => whnf
    refine ⟨by decide, vEqX_nil ?_⟩
    cases hs : seenE pr ks with
    | some i =>
      have hflt : match seenE pr ks with
        | none => flt = []
        | some i => ∃ r, flt = .int ((i + 0 : Nat) : Int) :: r := hflt
      rw [hs] at hflt
      obtain ⟨fr, rfl⟩ := hflt
      with_reducible conv => whnf
      refine ⟨_, atI_head, ?_⟩
      with_reducible conv => whnf
      refine ⟨4, _, rfl, ?_⟩
      with_reducible conv => whnf
      exact walk__law_right_r hk (by omega) (by omega) hlow0 (by omega) (by omega) hok ⟨hcn0, hcn1⟩ (by unfold errK; rw [if_neg h1, hs]; rfl) (hR _ _ ⟨rfl, rfl⟩)
    | none =>
      have hflt : match seenE pr ks with
        | none => flt = []
        | some i => ∃ r, flt = .int ((i + 0 : Nat) : Int) :: r := hflt
      rw [hs] at hflt
      subst hflt
      with_reducible conv => whnf
      refine vIf_dec (fun h2 => ?_) fun h2 => ?_
      · with_reducible conv => whnf
        refine ⟨_, atI_head, ?_⟩
        with_reducible conv => whnf
        refine vIf_dec (fun h3 => ?_) fun h3 => ?_
        · with_reducible conv => whnf
          refine ⟨_, atI_head, ?_⟩
          with_reducible conv => whnf
          refine ⟨1, _, rfl, ?_⟩
          with_reducible conv => whnf
          exact walk__law_right_r hk (by omega) (by omega) hlow0 (by omega) (by omega) hok ⟨hcn0, hcn1⟩ (by unfold errK; rw [if_neg h1, hs]; show _ = errD (if _ then _ else _); rw [if_pos ⟨by omega, h3⟩]; rfl) (hR _ _ ⟨rfl, rfl⟩)
        · with_reducible conv => whnf
          exact walk__law_right_r hk (by omega) (by omega) hlow0 (by omega) (by omega) hok ⟨hcn0, hcn1⟩ (by unfold errK; rw [if_neg h1, hs]; show _ = errD (if _ then _ else _); rw [if_neg (fun h => h3 h.2)]; rfl) (hR _ _ ⟨rfl, rfl⟩)
      · with_reducible conv => whnf
        exact walk__law_right_r hk (by omega) (by omega) hlow0 (by omega) (by omega) hok ⟨hcn0, hcn1⟩ (by unfold errK; rw [if_neg h1, hs]; show _ = errD (if _ then _ else _); rw [if_neg (fun h => h2 (by omega))]; rfl) (hR _ _ ⟨rfl, rfl⟩)
end Lb

/-! LIBL: what is tried. -/
namespace Lb
open PySem PySem.Spec PyProof.Rows L2 DL
abbrev ir__law_caught_try : ST := (.cons (.ife (.cmp .Eq (.var 0) (.int 0))
 (.cons (.ex (.call 0 (.cons (.var 1) (.cons (.var 6) (.cons (.var 7) (.cons (.var 3) .nil))))))
 .nil)
 (.cons (.ife (.cmp .Eq (.var 0) (.int 1))
 (.cons (.ex (.callK 1 .nil (.cons (.var 3) (.cons (.var 7) (.cons (.var 6) (.cons (.var 1) .nil))))))
 .nil)
 (.cons (.ife (.cmp .Eq (.var 0) (.int 2))
 (.cons (.ex (.call 2 (.cons (.var 1) (.cons (.var 6) (.cons (.var 7) (.cons (.var 3) .nil))))))
 .nil)
 (.cons (.ife (.cmp .Eq (.var 0) (.int 3))
 (.cons (.ex (.call 3 (.cons (.var 1) (.cons (.var 6) (.cons (.var 7) (.cons (.var 3) (.cons (.ix (.var 4) (.int 0)) (.cons (.ix (.var 4) (.int 1)) .nil))))))))
 .nil)
 (.cons (.ex (.callK 4 .nil (.cons (.ix (.var 4) (.int 1)) (.cons (.ix (.var 4) (.int 0)) (.cons (.var 3) (.cons (.var 7) (.cons (.var 6) (.cons (.var 1) .nil))))))))
 .nil))
 .nil))
 .nil))
 .nil))
 .nil)
abbrev gn__law_caught_try : GN := [.fn "count_begins" 4, .fk "first_begin" 0 ["seen_cells", "high", "low", "rule"], .fn "looks_missing" 4, .fn "sure_value" 6, .fk "sure_value" 0 ["place", "number", "seen_cells", "high", "low", "rule"]]
abbrev nm__law_caught : List Str := ["way", "made", "ends_here", "known", "cell", "caught", "one", "two", "e"]
/-- the class of an error by its place -/
def errC (q : Ad) (i : Int) : Addr := if i = 3 then q.stretch else if i = 4 then q.seen else q.number
abbrev gTry (q : Ad) (d : Nat) : GE := [.fn "count_begins" 4 (spAsk q d rCount), .fk "first_begin" 0 ["seen_cells", "high", "low", "rule"] (fun vs ms kd xk => vs.length = 4 ∧ spAsk q d rFirst (re [3, 2, 1, 0] vs) ms kd xk), .fn "looks_missing" 4 (spAsk q d rLooks), .fn "sure_value" 6 (spSure q d),
  .fk "sure_value" 0 ["place", "number", "seen_cells", "high", "low", "rule"] (fun vs ms kd xk => vs.length = 6 ∧ spSure q d (re [5, 4, 3, 2, 1, 0] vs) ms kd xk)]
theorem known_err {q : Ad} {p low high : Int} {ks : List (Int × Int × Int)} {way cn : Int} {e : Addr × D} (h : knownE q p low high ks = some e) : ∃ i, errK p low high ks way cn = some (i, e.2) ∧ errC q i = e.1 := by
  unfold knownE at h
  unfold errK
  split at h
  · rename_i hs
    cases h
    exact ⟨3, by rw [if_pos hs], rfl⟩
  · rename_i hs
    rw [if_neg hs]
    cases hk : seenE p ks with
    | none => rw [hk] at h; cases h
    | some i => rw [hk] at h; cases h; exact ⟨4, rfl, rfl⟩
theorem known_no {q : Ad} {p low high : Int} {ks : List (Int × Int × Int)} {way cn : Int} (h : knownE q p low high ks = none) : errK p low high ks way cn = if 2 < way ∧ cn < 0 then some (1, .int cn) else none := by
  unfold knownE at h
  unfold errK
  split at h
  · cases h
  · rename_i hs
    rw [if_neg hs]
    cases hk : seenE p ks with
    | none => rfl
    | some i => rw [hk] at h; cases h
theorem walk__law_caught_try {q : Ad} {d : Nat} {xw : DX} {E : DEnds} {ms : MS} {way p low high cn cp : Int} {parts : List (Int × Int)} {ks : List (Int × Int × Int)} (w0 : 0 ≤ way) (w1 : way < 5)
    (hok : low ≤ high → (∀ t ∈ ks, 0 ≤ t.1) → AskOk d p low high parts ks ∧ (0 ≤ cn → CellB d low high cn cp))
    (hE : errK p low high ks way cn = none → E.nx [some (.int way), some (ruleD q.rule p parts), some (.tup [.int low, .int high]), some (.lst (ks.map tr3)), some (.tup [.int cn, .int cp]), some .non, some (.int low), some (.int high), none] ms)
    (hX : ∀ i dv, errK p low high ks way cn = some (i, dv) → xw (errC q i) dv [some (.int way), some (ruleD q.rule p parts), some (.tup [.int low, .int high]), some (.lst (ks.map tr3)), some (.tup [.int cn, .int cp]), some .non, some (.int low), some (.int high), none] ms) :
    vS (gTry q d) xw ir__law_caught_try [some (.int way), some (ruleD q.rule p parts), some (.tup [.int low, .int high]), some (.lst (ks.map tr3)), some (.tup [.int cn, .int cp]), some .non, some (.int low), some (.int high), none] ms E := by
  have ask : ∀ {R : Int → Int → Int → D → Prop} {kd : DK} {xk : Addr → D → MS → Prop}, way ≤ 2 → (∀ r, errK p low high ks way cn = none → kd r ms) → (∀ C dv, (∃ i, errK p low high ks way cn = some (i, dv) ∧ errC q i = C) → xk C dv ms) → spAsk q d R [ruleD q.rule p parts, .int low, .int high, .lst (ks.map tr3)] ms kd xk := fun {R kd xk} hw h1 h2 => by
    refine ⟨p, parts, low, high, ks, rfl, ?_⟩
    cases he : knownE q p low high ks with
    | some e => exact h2 _ _ (known_err he)
    | none =>
      obtain ⟨k1, k2⟩ := known_none he
      exact ⟨(hok k1 fun t ht => (k2 t ht).1).1, fun r _ => h1 r (by rw [known_no he, if_neg (by omega)])⟩
  have sure : ∀ {kd : DK} {xk : Addr → D → MS → Prop}, 2 < way → (∀ r, errK p low high ks way cn = none → kd r ms) → (∀ C dv, (∃ i, errK p low high ks way cn = some (i, dv) ∧ errC q i = C) → xk C dv ms) → spSure q d [ruleD q.rule p parts, .int low, .int high, .lst (ks.map tr3), .int cn, .int cp] ms kd xk := fun {kd xk} hw h1 h2 => by
    refine ⟨p, parts, low, high, ks, cn, cp, rfl, ?_⟩
    cases he : knownE q p low high ks with
    | some e => exact h2 _ _ (known_err he)
    | none =>
      obtain ⟨k1, k2⟩ := known_none he
      have hh := hok k1 fun t ht => (k2 t ht).1
      show if cn < 0 then _ else _
      by_cases hc : cn < 0
      · rw [if_pos hc]
        exact h2 _ _ ⟨1, by rw [known_no he, if_pos ⟨hw, hc⟩], rfl⟩
      · rw [if_neg hc]
        exact ⟨hh.1, hh.2 (by omega), fun r _ => h1 r (by rw [known_no he, if_neg (by omega)])⟩
  have fx : ∀ C dv, (∃ i, errK p low high ks way cn = some (i, dv) ∧ errC q i = C) → xw C dv [some (.int way), some (ruleD q.rule p parts), some (.tup [.int low, .int high]), some (.lst (ks.map tr3)), some (.tup [.int cn, .int cp]), some .non, some (.int low), some (.int high), none] ms := fun C dv ⟨i, h1, h2⟩ => h2 ▸ hX i dv h1
  with_reducible conv => whnf
  refine vIf_dec (fun h1 => ?_) fun h1 => ?_
  · with_reducible conv => whnf
    exact ask (by omega) (fun r h => hE h) fx
  with_reducible conv => whnf
  refine vIf_dec (fun h2 => ?_) fun h2 => ?_
  · with_reducible conv => whnf
    exact ⟨rfl, ask (by omega) (fun r h => hE h) fx⟩
  with_reducible conv => whnf
  refine vIf_dec (fun h3 => ?_) fun h3 => ?_
  · with_reducible conv => whnf
    exact ask (by omega) (fun r h => hE h) fx
  with_reducible conv => whnf
  refine vIf_dec (fun h4 => ?_) fun h4 => ?_
  · with_reducible conv => whnf
    refine ⟨_, atI_head, ?_⟩
    with_reducible conv => whnf
    refine ⟨_, rfl, ?_⟩
    with_reducible conv => whnf
    exact sure (by omega) (fun r h => hE h) fx
  · with_reducible conv => whnf
    refine ⟨_, rfl, ?_⟩
    with_reducible conv => whnf
    refine ⟨_, atI_head, ?_⟩
    with_reducible conv => whnf
    exact ⟨rfl, sure (by omega) (fun r h => hE h) fx⟩
end Lb

/-! M1: numbers in texts. -/
namespace Tx
open PySem PySem.Spec PyProof.Rows L2 DL PySem.NumText
abbrev tl (z : Str) : List Nat := z.cps.toList
theorem tl_len (z : Str) : z.length = (tl z).length := by simp [tl, Str.length]
theorem tl_ext {x y : Str} (h : tl x = tl y) : x = y := TL.ext_tl h
theorem tl_iff {x y : Str} : x = y ↔ tl x = tl y := ⟨fun h => by rw [h], tl_ext⟩
theorem tl_cut1 (z : Str) : tl (cutS z (some 1) none) = (tl z).drop 1 := by
  show ((List.take _ (List.drop _ _)).toArray).toList = _
  rw [List.toList_toArray]
  have h1 : HT.sIx z.length 0 (some 1) = min 1 z.length := HT.sIx_nat z.length 0 1
  have h2 : HT.sIx z.length z.length none = z.length := HT.sIx_none _ _
  rw [h1, h2, tl_len]
  cases h : tl z with
  | nil => simp
  | cons c r =>
    have h' : z.cps.toList = c :: r := h
    rw [h']
    simp
theorem tl_cutTo1 (z : Str) : tl (cutS z none (some 1)) = (tl z).take 1 := by
  show ((List.take _ (List.drop _ _)).toArray).toList = _
  rw [List.toList_toArray]
  have h1 : HT.sIx z.length z.length (some 1) = min 1 z.length := HT.sIx_nat z.length _ 1
  have h2 : HT.sIx z.length 0 none = 0 := HT.sIx_none _ _
  rw [h1, h2, tl_len]
  cases h : tl z with
  | nil =>
    have h' : z.cps.toList = [] := h
    rw [h']
    simp
  | cons c r =>
    have h' : z.cps.toList = c :: r := h
    rw [h']
    simp
def dig (c : Nat) : Bool := decide (48 ≤ c) && decide (c ≤ 57)
theorem all_dig {l : List Nat} : l.all dig = true ↔ AllDigits l := by
  unfold AllDigits
  rw [List.all_eq_true]
  constructor
  · intro h c hc
    have := h c hc
    unfold dig at this
    simpa using this
  · intro h c hc
    have := h c hc
    unfold dig
    simpa using this
/-- the integer of a text, if any -/
def numL (l : List Nat) : Option Int :=
  if l.take 1 = [45] then
    if 1 ≤ (l.drop 1).length ∧ (l.drop 1).length ≤ 40 ∧ (l.drop 1).all dig = true ∧ ¬ (l.drop 1).head? = some 48 then some (-((digitsVal (l.drop 1) : Nat) : Int)) else none
  else if 1 ≤ l.length ∧ l.length ≤ 40 ∧ l.all dig = true ∧ (l.head? = some 48 → l = [48]) then some ((digitsVal l : Nat) : Int) else none
/-- what stands behind a minus sign, or the text -/
def body (l : List Nat) : List Nat := if l.take 1 = [45] then l.drop 1 else l
theorem numL_none1 {l : List Nat} (h : ¬ (1 ≤ (body l).length ∧ (body l).length ≤ 40)) : numL l = none := by
  unfold numL
  unfold body at h
  split at h
  · rw [if_pos ‹_›, if_neg (fun q => h ⟨q.1, q.2.1⟩)]
  · rw [if_neg ‹_›, if_neg (fun q => h ⟨q.1, q.2.1⟩)]
theorem numL_none2 {l : List Nat} (h : ¬ (body l).all dig = true) : numL l = none := by
  unfold numL
  unfold body at h
  split at h
  · rw [if_pos ‹_›, if_neg (fun q => h q.2.2.1)]
  · rw [if_neg ‹_›, if_neg (fun q => h q.2.2.1)]
theorem numL_none3 {l : List Nat} (h : (body l).head? = some 48) (h2 : l ≠ [48]) : numL l = none := by
  unfold numL
  unfold body at h
  split at h
  · rw [if_pos ‹_›, if_neg (fun q => q.2.2.2 h)]
  · rw [if_neg ‹_›, if_neg (fun q => h2 (q.2.2.2 h))]
theorem numL_some {z : Str} (h1 : 1 ≤ (body (tl z)).length ∧ (body (tl z)).length ≤ 40) (h2 : (body (tl z)).all dig = true) (h3 : ¬ ((body (tl z)).head? = some 48 ∧ tl z ≠ [48])) :
    ∃ n, numL (tl z) = some n ∧ PySem.intText? z = some n ∧ z.length ≤ 640 := by
  unfold numL
  by_cases hm : (tl z).take 1 = [45]
  · have hb : body (tl z) = (tl z).drop 1 := by unfold body; rw [if_pos hm]
    rw [hb] at h1 h2 h3
    have hz : tl z = 45 :: (tl z).drop 1 := by
      have := List.take_append_drop 1 (tl z)
      rw [hm] at this
      exact this.symm
    have h48 : tl z ≠ [48] := fun e => by rw [e] at hm; simp at hm
    have hl : z.length ≤ 640 := by rw [tl_len, hz, List.length_cons]; omega
    rw [if_pos hm, if_pos ⟨h1.1, h1.2, h2, fun q => h3 ⟨q, h48⟩⟩]
    exact ⟨_, rfl, intText_neg hz (all_dig.mp h2) (fun e => by rw [e] at h1; simp at h1) (by omega), hl⟩
  · have hb : body (tl z) = tl z := by unfold body; rw [if_neg hm]
    rw [hb] at h1 h2 h3
    have hl : z.length ≤ 640 := by rw [tl_len]; omega
    rw [if_neg hm, if_pos ⟨h1.1, h1.2, h2, fun q => Classical.byContradiction fun r => h3 ⟨q, r⟩⟩]
    exact ⟨_, rfl, intText_digits (all_dig.mp h2) (fun e => by rw [show tl z = [] from e] at h1; simp at h1) (by omega), hl⟩
theorem tl_minus : tl "-" = [45] := by decide +kernel
theorem tl_zero : tl "0" = [48] := by decide +kernel
theorem tl_digits : tl "0123456789" = [48, 49, 50, 51, 52, 53, 54, 55, 56, 57] := by decide +kernel
theorem mem_digits (c : Nat) : decide (c ∈ tl "0123456789") = dig c := by
  rw [tl_digits]
  unfold dig
  rw [Bool.eq_iff_iff]
  simp
  omega
/-- as data -/
def optI : Option Int → D
  | none => .non
  | some n => .int n
def optL : Option Int → List D
  | none => []
  | some n => [.int n]
theorem optL_len (o : Option Int) : (optL o).length ≤ 1 := by cases o <;> simp [optL]
def spNum : DSp := fun vs ms kd _ => ∃ z, vs = [.str z] ∧ z.length ≤ 100000 ∧ kd (optI (numL (tl z))) ms
def spInteger : DSp := fun vs ms kd _ => ∃ z, vs = [.str z] ∧ z.length ≤ 100000 ∧ kd (.lst (optL (numL (tl z)))) ms
end Tx

/-! M2: texts cut at a sign. -/
namespace Tx
open PySem PySem.Spec PyProof.Rows L2 DL PySem.NumText
/-- cut at each c -/
def splitL (c : Nat) : List Nat → List (List Nat)
  | [] => [[]]
  | a :: r => if a = c then [] :: splitL c r else match splitL c r with
    | p :: q => (a :: p) :: q
    | [] => [[a]]
/-- cut at the first c -/
def breakL (c : Nat) : List Nat → Option (List Nat × List Nat)
  | [] => none
  | a :: r => if a = c then some ([], r) else (breakL c r).map fun p => (a :: p.1, p.2)
def joinL (c : Nat) : List (List Nat) → List Nat
  | [] => []
  | [p] => p
  | p :: q :: r => p ++ c :: joinL c (q :: r)
theorem splitL_free {c : Nat} : ∀ {l : List Nat}, c ∉ l → splitL c l = [l]
  | [], _ => rfl
  | a :: r, h => by
    have h1 : a ≠ c := fun e => h (by rw [e]; exact List.mem_cons_self)
    rw [splitL, if_neg h1, splitL_free fun z => h (List.mem_cons_of_mem _ z)]
theorem splitL_app {c : Nat} : ∀ {p r : List Nat}, c ∉ p → splitL c (p ++ c :: r) = p :: splitL c r
  | [], r, _ => by rw [List.nil_append, splitL, if_pos rfl]
  | a :: p, r, h => by
    have h1 : a ≠ c := fun e => h (by rw [e]; exact List.mem_cons_self)
    rw [List.cons_append, splitL, if_neg h1, splitL_app fun z => h (List.mem_cons_of_mem _ z)]
theorem splitL_join {c : Nat} : ∀ {ps : List (List Nat)}, ps ≠ [] → (∀ p ∈ ps, c ∉ p) → splitL c (joinL c ps) = ps
  | [], h, _ => absurd rfl h
  | [p], _, h => splitL_free (h p List.mem_cons_self)
  | p :: q :: r, _, h => by
    rw [joinL, splitL_app (h p List.mem_cons_self), splitL_join (by simp) fun x hx => h x (List.mem_cons_of_mem _ hx)]
theorem joinL_splitL {c : Nat} : ∀ {l : List Nat}, joinL c (splitL c l) = l ∧ splitL c l ≠ []
  | [] => ⟨rfl, by simp [splitL]⟩
  | a :: r => by
    obtain ⟨h1, h2⟩ := joinL_splitL (c := c) (l := r)
    rw [splitL]
    by_cases e : a = c
    · rw [if_pos e]
      refine ⟨?_, by simp⟩
      cases hs : splitL c r with
      | nil => exact absurd hs h2
      | cons p q => rw [joinL, ← hs, h1, e]; rfl
    · rw [if_neg e]
      cases hs : splitL c r with
      | nil => exact absurd hs h2
      | cons p q =>
        refine ⟨?_, by simp⟩
        rw [hs] at h1
        show joinL c ((a :: p) :: q) = _
        cases q with
        | nil => show a :: p = _; rw [← h1]; rfl
        | cons q q' => show (a :: p) ++ c :: _ = _; rw [← h1]; rfl
theorem splitL_mem {c : Nat} : ∀ {l p : List Nat}, p ∈ splitL c l → c ∉ p ∧ ∀ x ∈ p, x ∈ l
  | [], p, h => by rw [splitL, List.mem_singleton] at h; subst h; simp
  | a :: r, p, h => by
    rw [splitL] at h
    by_cases e : a = c
    · rw [if_pos e] at h
      rcases List.mem_cons.mp h with rfl | h
      · simp
      · obtain ⟨h1, h2⟩ := splitL_mem h
        exact ⟨h1, fun x hx => List.mem_cons_of_mem _ (h2 x hx)⟩
    · rw [if_neg e] at h
      cases hs : splitL c r with
      | nil => exact absurd hs joinL_splitL.2
      | cons q q' =>
        rw [hs] at h
        have h : p ∈ (a :: q) :: q' := h
        rcases List.mem_cons.mp h with rfl | h
        · obtain ⟨h1, h2⟩ := splitL_mem (c := c) (l := r) (p := q) (by rw [hs]; exact List.mem_cons_self)
          refine ⟨fun z => ?_, fun x hx => ?_⟩
          · rcases List.mem_cons.mp z with z | z
            · exact e z.symm
            · exact h1 z
          · rcases List.mem_cons.mp hx with z | z
            · rw [z]; exact List.mem_cons_self
            · exact List.mem_cons_of_mem _ (h2 x z)
        · obtain ⟨h1, h2⟩ := splitL_mem (c := c) (l := r) (p := p) (by rw [hs]; exact List.mem_cons_of_mem _ h)
          exact ⟨h1, fun x hx => List.mem_cons_of_mem _ (h2 x hx)⟩
theorem tl_app (x y : Str) : tl (x ++ y) = tl x ++ tl y := by
  show (x.cps ++ y.cps).toList = _
  simp [tl]
theorem tl_one (c : Nat) : tl ⟨#[c]⟩ = [c] := rfl
theorem tl_join (c : Nat) : ∀ ps : List Str, tl (Str.join ⟨#[c]⟩ ps) = joinL c (ps.map tl)
  | [] => rfl
  | [p] => rfl
  | p :: q :: r => by
    show tl (p ++ ⟨#[c]⟩ ++ Str.join ⟨#[c]⟩ (q :: r)) = _
    rw [tl_app, tl_app, tl_join c (q :: r), tl_one, List.append_assoc]
    rfl
theorem split_eq (x : Str) (c : Nat) : (Txt.split x ⟨#[c]⟩).map tl = splitL c (tl x) := by
  have h1 := StrLaws.join_split x ⟨#[c]⟩
  have h2 := StrLaws.split_free x c
  have h3 := split_pos x ⟨#[c]⟩
  have e : tl x = joinL c ((Txt.split x ⟨#[c]⟩).map tl) := by rw [← tl_join, h1]
  rw [e, splitL_join]
  · intro z
    have := congrArg List.length z
    simp at this
    rw [this] at h3
    exact absurd h3 (by decide)
  · intro p hp
    obtain ⟨q, hq, rfl⟩ := List.mem_map.mp hp
    exact h2 q hq
theorem breakL_none {c : Nat} : ∀ {l : List Nat}, c ∉ l → breakL c l = none
  | [], _ => rfl
  | a :: r, h => by
    have h1 : a ≠ c := fun e => h (by rw [e]; exact List.mem_cons_self)
    rw [breakL, if_neg h1, breakL_none fun z => h (List.mem_cons_of_mem _ z)]
    rfl
theorem breakL_app {c : Nat} : ∀ {p r : List Nat}, c ∉ p → breakL c (p ++ c :: r) = some (p, r)
  | [], r, _ => by rw [List.nil_append, breakL, if_pos rfl]
  | a :: p, r, h => by
    have h1 : a ≠ c := fun e => h (by rw [e]; exact List.mem_cons_self)
    rw [List.cons_append, breakL, if_neg h1, breakL_app fun z => h (List.mem_cons_of_mem _ z)]
    rfl
theorem breakL_some {c : Nat} : ∀ {l p r : List Nat}, breakL c l = some (p, r) → l = p ++ c :: r ∧ c ∉ p
  | [], _, _, h => by cases h
  | a :: l, p, r, h => by
    rw [breakL] at h
    by_cases e : a = c
    · rw [if_pos e] at h
      cases h
      exact ⟨by rw [e]; rfl, by simp⟩
    · rw [if_neg e] at h
      cases hb : breakL c l with
      | none => rw [hb] at h; cases h
      | some q =>
        obtain ⟨p', r'⟩ := q
        rw [hb] at h
        cases h
        obtain ⟨h1, h2⟩ := breakL_some hb
        refine ⟨by rw [h1]; rfl, fun z => ?_⟩
        rcases List.mem_cons.mp z with z | z
        · exact e z.symm
        · exact h2 z
theorem at_one {x : Str} {c i : Nat} : StrLaws.At x ⟨#[c]⟩ x.length i ↔ (tl x)[i]? = some c := by
  rw [← atS_iff]
  unfold atS
  constructor
  · intro h
    obtain ⟨h1, h2⟩ := Bool.and_eq_true_iff.mp h
    have h1' : ¬ ((x.length : Int) < (i : Int) + ((⟨#[c]⟩ : Str).length : Int)) := by simpa using h1
    have h3 : (⟨(((x.cps.toList).drop (i : Int).toNat).take ((i : Int) + ((⟨#[c]⟩ : Str).length : Int) - (i : Int)).toNat).toArray⟩ : Str) = ⟨#[c]⟩ := eq_of_beq h2
    have h4 := congrArg tl h3
    have hl : ((⟨#[c]⟩ : Str).length : Int) = 1 := rfl
    rw [hl] at h4 h1'
    have ei : ((i : Int) + 1 - (i : Int)).toNat = 1 := by omega
    rw [ei] at h4
    have h5 : ((tl x).drop i).take 1 = [c] := by simpa [tl] using h4
    have hi : i < (tl x).length := by rw [← tl_len]; omega
    rw [List.drop_eq_getElem_cons hi] at h5
    rw [List.getElem?_eq_getElem hi]
    rw [List.take_succ_cons, List.take_zero] at h5
    injection h5 with h6
    rw [h6]
  · intro h
    have hi : i < (tl x).length := (List.getElem?_eq_some_iff.mp h).1
    have hg : (tl x)[i] = c := (List.getElem?_eq_some_iff.mp h).2
    refine Bool.and_eq_true_iff.mpr ⟨?_, ?_⟩
    · have hl : ((⟨#[c]⟩ : Str).length : Int) = 1 := rfl
      rw [hl]
      rw [← tl_len] at hi
      simp
      omega
    · have hl : ((⟨#[c]⟩ : Str).length : Int) = 1 := rfl
      rw [hl]
      have ei : ((i : Int) + 1 - (i : Int)).toNat = 1 := by omega
      rw [ei]
      refine beq_iff_eq.mpr (tl_ext ?_)
      show (((tl x).drop i).take 1).toArray.toList = [c]
      rw [List.toList_toArray, List.drop_eq_getElem_cons hi, hg]
      rfl
theorem tl_sub (x : Str) (a b : Nat) : tl (Builtin.Str.strSub x a b) = ((tl x).drop a).take (b - a) := StrLaws.strSub_toList x a b
theorem part_eq (x : Str) (c : Nat) : (breakL c (tl x) = none ∧ Txt.partition x ⟨#[c]⟩ = (x, Str.empty, Str.empty)) ∨
    ∃ p q, breakL c (tl x) = some (tl p, tl q) ∧ Txt.partition x ⟨#[c]⟩ = (p, ⟨#[c]⟩, q) := by
  unfold Txt.partition
  rcases StrLaws.occ_head x ⟨#[c]⟩ 1 (Nat.le_refl 1) with ⟨h0, hn⟩ | ⟨i, r, h0, hi, hn⟩
  · rw [h0]
    refine .inl ⟨breakL_none fun z => ?_, rfl⟩
    obtain ⟨i, hi⟩ := List.mem_iff_getElem?.mp z
    exact hn i (at_one.mpr hi)
  · rw [h0]
    refine .inr ⟨_, _, ?_, rfl⟩
    rw [at_one] at hi
    have hlt : i < (tl x).length := (List.getElem?_eq_some_iff.mp hi).1
    have hg : (tl x)[i] = c := (List.getElem?_eq_some_iff.mp hi).2
    rw [tl_sub, tl_sub]
    have e : tl x = (tl x).take i ++ c :: (tl x).drop (i + 1) := by
      rw [← hg, List.getElem_cons_drop, List.take_append_drop]
    have e2 : breakL c (tl x) = some ((tl x).take i, (tl x).drop (i + 1)) := by
      rw [e]
      have hf : c ∉ (tl x).take i := fun z => by
        obtain ⟨k, hk⟩ := List.mem_iff_getElem?.mp z
        rw [List.getElem?_take] at hk
        split at hk
        · exact hn k ‹_› (at_one.mpr hk)
        · cases hk
      rw [← e]
      exact (congrArg _ e).trans (breakL_app hf)
    rw [e2]
    have hl : (⟨#[c]⟩ : Str).length = 1 := rfl
    rw [hl, List.drop_zero, Nat.sub_zero, List.take_of_length_le (l := (tl x).drop (i + 1)) (by rw [List.length_drop, ← tl_len]; exact Nat.le_refl _)]
theorem starts_one (x : Str) (c : Nat) : Txt.startswith x ⟨#[c]⟩ = decide ((tl x).take 1 = [c]) := by
  rw [Bool.eq_iff_iff, decide_eq_true_iff]
  have h : Txt.startswith x ⟨#[c]⟩ = true ↔ StrLaws.At x ⟨#[c]⟩ x.length 0 := by
    unfold Txt.startswith StrLaws.At
    rw [Bool.and_eq_true, decide_eq_true_iff]
  rw [h, at_one]
  cases tl x with
  | nil => simp
  | cons a r => simp
theorem str_minus : ("-" : Str) = ⟨#[45]⟩ := by decide +kernel
theorem partL {z : Str} {c : Nat} : (Txt.partition z ⟨#[c]⟩).1.length ≤ z.length ∧ (Txt.partition z ⟨#[c]⟩).2.2.length ≤ z.length := by
  rcases part_eq z c with ⟨_, h⟩ | ⟨p, q, h1, h⟩
  · rw [h]; exact ⟨Nat.le_refl _, Nat.zero_le _⟩
  · rw [h]
    have e := (breakL_some h1).1
    have := congrArg List.length e
    rw [List.length_append, List.length_cons] at this
    show p.length ≤ z.length ∧ q.length ≤ z.length
    rw [tl_len, tl_len, tl_len, this]
    omega
theorem str_space : (" " : Str) = ⟨#[32]⟩ := by decide +kernel
theorem str_comma : ("," : Str) = ⟨#[44]⟩ := by decide +kernel
theorem str_is : ("=" : Str) = ⟨#[61]⟩ := by decide +kernel
/-- two integers around the first c -/
def pairB (c : Nat) (l : List Nat) : Option (Int × Int) := match breakL c l with
  | none => none
  | some (p, q) => match numL p, numL q with
    | some a, some b => some (a, b)
    | _, _ => none
def pairO : Option (Int × Int) → D
  | none => .non
  | some (a, b) => .tup [.int a, .int b]
def spPair : DSp := fun vs ms kd _ => ∃ z c, vs = [.str z, .str ⟨#[c]⟩] ∧ z.length ≤ 100000 ∧ kd (pairO (pairB c (tl z))) ms
/-- two integers, one c between them -/
def twoL (c : Nat) (l : List Nat) : Option (Int × Int) := match splitL c l with
  | [p, q] => match numL p, numL q with
    | some a, some b => some (a, b)
    | _, _ => none
  | _ => none
def twoO : Option (Int × Int) → List D
  | none => []
  | some (a, b) => [.int a, .int b]
theorem twoO_len (o : Option (Int × Int)) : (twoO o).length ≤ 2 := by rcases o with _ | ⟨a, b⟩ <;> simp [twoO]
def spTwo : DSp := fun vs ms kd _ => ∃ z c, vs = [.str z, .str ⟨#[c]⟩] ∧ z.length ≤ 90000 ∧ kd (.lst (twoO (twoL c (tl z)))) ms
theorem split_two {z : Str} {c : Nat} (h : (Txt.split z ⟨#[c]⟩).length = 2) : ∃ p q, Txt.split z ⟨#[c]⟩ = [p, q] ∧ splitL c (tl z) = [tl p, tl q] := by
  match e : Txt.split z ⟨#[c]⟩, h with
  | [p, q], _ => exact ⟨p, q, rfl, by rw [← split_eq, e]; rfl⟩
theorem split_nottwo {z : Str} {c : Nat} (h : ¬ (Txt.split z ⟨#[c]⟩).length = 2) : ∀ p q, splitL c (tl z) ≠ [p, q] := fun p q e => by
  rw [← split_eq] at e
  have := congrArg List.length e
  rw [List.length_map] at this
  exact h this
theorem split_len2 {z p : Str} {c : Nat} (h : p ∈ Txt.split z ⟨#[c]⟩) : p.length ≤ z.length := by
  have h1 := split_weight z ⟨#[c]⟩ (Nat.le_refl 1)
  have h2 : ∀ (l : List Str), p ∈ l → p.length + l.length ≤ (l.map (·.length)).sum + l.length := by
    intro l
    induction l with
    | nil => intro h; cases h
    | cons a r ih =>
      intro h
      rw [List.map_cons, List.sum_cons, List.length_cons]
      rcases List.mem_cons.mp h with rfl | h
      · omega
      · have := ih h; omega
  have h3 := h2 _ h
  have h4 := split_pos z ⟨#[c]⟩
  omega
/-- a word: number , pair -/
def wordS (l : List Nat) : Option (Int × Int × Int) := match splitL 44 l with
  | [p, q] => match numL p, twoL 61 q with
    | some a, some (b, c) => if a < 0 ∨ c < 0 then none else some (a, b, c)
    | _, _ => none
  | _ => none
def dueL (l : List Nat) : Option (List (Int × Int × Int)) := if l = [45] then some [] else (splitL 32 l).mapM wordS
def tri (t : Int × Int × Int) : D := .tup [.int t.1, .int t.2.1, .int t.2.2]
def dueD : Option (List (Int × Int × Int)) → D
  | none => .lst []
  | some r => .lst [.lst (r.map tri)]
def spDue : DSp := fun vs ms kd _ => ∃ z, vs = [.str z] ∧ z.length ≤ 80000 ∧ kd (dueD (dueL (tl z))) ms
theorem mapM_snoc {α β : Type} (f : α → Option β) : ∀ (l : List α) (a : α), (l ++ [a]).mapM f = (l.mapM f).bind fun r => (f a).map fun b => r ++ [b]
  | [], a => by
    rw [List.nil_append, List.mapM_cons, List.mapM_nil]
    cases f a <;> rfl
  | x :: l, a => by
    rw [List.cons_append, List.mapM_cons, List.mapM_cons, mapM_snoc f l a]
    cases f x with
    | none => rfl
    | some y =>
      cases l.mapM f with
      | none => rfl
      | some r => cases f a <;> rfl
theorem mapM_take {α β : Type} {f : α → Option β} {l : List α} {i : Nat} {a : α} {r : List β} {b : β} (h : l[i]? = some a) (hr : (l.take i).mapM f = some r) (hb : f a = some b) : (l.take (i + 1)).mapM f = some (r ++ [b]) := by
  rw [List.take_add_one, h]
  show List.mapM f (List.take i l ++ [a]) = _
  rw [mapM_snoc, hr, hb]; rfl
theorem mapM_none {α β : Type} {f : α → Option β} {l : List α} {a : α} (h : a ∈ l) (hb : f a = none) : l.mapM f = none := by
  induction l with
  | nil => cases h
  | cons x r ih =>
    rw [List.mapM_cons]
    rcases List.mem_cons.mp h with rfl | h
    · rw [hb]; rfl
    · rw [ih h]
      cases f x <;> rfl
theorem numL_mem {l : List Nat} {n : Int} (h : numL l = some n) : ∀ x ∈ l, dig x = true ∨ x = 45 := by
  unfold numL at h
  by_cases hm : l.take 1 = [45]
  · rw [if_pos hm] at h
    split at h
    · rename_i h2
      intro x hx
      have e : l = 45 :: l.drop 1 := by
        have := List.take_append_drop 1 l
        rw [hm] at this
        exact this.symm
      rw [e] at hx
      rcases List.mem_cons.mp hx with rfl | hx
      · exact .inr rfl
      · exact .inl (List.all_eq_true.mp h2.2.2.1 x hx)
    · cases h
  · rw [if_neg hm] at h
    split at h
    · rename_i h2
      exact fun x hx => .inl (List.all_eq_true.mp h2.2.2.1 x hx)
    · cases h
theorem breakL_no {c : Nat} : ∀ {l : List Nat}, breakL c l = none → c ∉ l
  | [], _ => by simp
  | a :: r, h => by
    rw [breakL] at h
    by_cases e : a = c
    · rw [if_pos e] at h; cases h
    · rw [if_neg e] at h
      cases hb : breakL c r with
      | none =>
        have := breakL_no hb
        intro z
        rcases List.mem_cons.mp z with z | z
        · exact e z.symm
        · exact this z
      | some q => rw [hb] at h; cases h
theorem splitL_more {c : Nat} {l : List Nat} (h : c ∈ l) : ∃ a b r, splitL c l = a :: b :: r := by
  cases hb : breakL c l with
  | none => exact absurd h (breakL_no hb)
  | some q =>
    obtain ⟨p, q⟩ := q
    obtain ⟨e, f⟩ := breakL_some hb
    rw [e, splitL_app f]
    cases hs : splitL c q with
    | nil => exact absurd hs joinL_splitL.2
    | cons b r => exact ⟨p, b, r, rfl⟩
theorem pairB_mem {c : Nat} {l : List Nat} {a b : Int} (h : pairB c l = some (a, b)) : ∀ x ∈ l, dig x = true ∨ x = 45 ∨ x = c := by
  unfold pairB at h
  cases hb : breakL c l with
  | none => rw [hb] at h; cases h
  | some q =>
    obtain ⟨p, q⟩ := q
    obtain ⟨e, f⟩ := breakL_some hb
    rw [hb] at h
    cases hp : numL p with
    | none => simp only [hp] at h; cases h
    | some n =>
      cases hq : numL q with
      | none => simp only [hp, hq] at h; cases h
      | some m =>
        intro x hx
        rw [e, List.mem_append, List.mem_cons] at hx
        rcases hx with hx | rfl | hx
        · exact (numL_mem hp x hx).imp id .inl
        · exact .inr (.inr rfl)
        · exact (numL_mem hq x hx).imp id .inl
theorem pairB_two {c : Nat} (h1 : dig c = false) (h2 : c ≠ 45) (l : List Nat) : pairB c l = twoL c l := by
  unfold pairB twoL
  cases hb : breakL c l with
  | none => rw [splitL_free (breakL_no hb)]
  | some q =>
    obtain ⟨p, q⟩ := q
    obtain ⟨e, f⟩ := breakL_some hb
    by_cases hc : c ∈ q
    · have hq : numL q = none := by
        cases hq : numL q with
        | none => rfl
        | some m =>
          rcases numL_mem hq c hc with z | z
          · rw [h1] at z; cases z
          · exact absurd z h2
      obtain ⟨a, b, r, hs⟩ := splitL_more hc
      rw [e, splitL_app f, hs]
      simp only [hq]
      cases numL p <;> rfl
    · rw [e, splitL_app f, splitL_free hc]
def wordB (l : List Nat) : Option (Int × Int × Int) := match breakL 44 l with
  | none => none
  | some (p, q) => match numL p, pairB 61 q with
    | some a, some (b, c) => if a < 0 ∨ c < 0 then none else some (a, b, c)
    | _, _ => none
theorem wordB_eq (l : List Nat) : wordB l = wordS l := by
  unfold wordB wordS
  cases hb : breakL 44 l with
  | none => rw [splitL_free (breakL_no hb)]
  | some q =>
    obtain ⟨p, q⟩ := q
    obtain ⟨e, f⟩ := breakL_some hb
    by_cases hc : 44 ∈ q
    · have hq : pairB 61 q = none := by
        cases hq : pairB 61 q with
        | none => rfl
        | some m =>
          obtain ⟨a, b⟩ := m
          rcases pairB_mem hq 44 hc with z | z | z
          · exact absurd z (by decide)
          · exact absurd z (by decide)
          · exact absurd z (by decide)
      obtain ⟨a, b, r, hs⟩ := splitL_more hc
      rw [e, splitL_app f, hs]
      simp only [hq]
      cases numL p <;> rfl
    · rw [e, splitL_app f, splitL_free hc]
      simp only [pairB_two (c := 61) (by decide) (by decide) q]
def spTold : DSp := fun vs ms kd _ => ∃ z, vs = [.str z] ∧ z.length ≤ 80000 ∧ kd (dueD (dueL (tl z))) ms
def spRead (Cu : Addr) : DSp := fun vs ms kd xk => ∃ z, vs = [.str z] ∧ z.length ≤ 80000 ∧ (∀ r, dueL (tl z) = some r → ∀ p, kd (.adr p) ((p, .lst (r.map tri)) :: ms)) ∧ (dueL (tl z) = none → xk Cu (.str z) ms)
end Tx

/-! M3: numbers written and read back. -/
namespace Tx
open PySem PySem.Spec PyProof.Rows L2 DL PySem.NumText
/-- the signs of a natural number -/
def dgs (m : Nat) : List Nat := (Nat.toDigits 10 m).map Char.toNat
theorem dgs_low {m : Nat} (h : m < 10) : dgs m = [48 + m] := by
  unfold dgs
  rw [Nat.toDigits_of_lt_base h]
  have : ∀ d : Nat, d < 10 → [Nat.digitChar d].map Char.toNat = [48 + d] := by decide
  exact this m h
theorem dgs_high {m : Nat} (h : 10 ≤ m) : dgs m = dgs (m / 10) ++ [48 + m % 10] := by
  have hm : m % 10 < 10 := Nat.mod_lt m (by decide)
  have t : Nat.toDigits 10 (m / 10) ++ Nat.toDigits 10 (m % 10) = Nat.toDigits 10 (10 * (m / 10) + m % 10) := Nat.toDigits_append_toDigits (by decide) (by omega) hm
  rw [Nat.div_add_mod] at t
  rw [← dgs_low hm]
  unfold dgs
  rw [← t, List.map_append]
theorem dgs_all (m : Nat) : (dgs m).all dig = true := by
  induction m using Nat.strongRecOn with
  | _ m ih =>
    by_cases h : m < 10
    · rw [dgs_low h]
      unfold dig
      simp
      omega
    · rw [dgs_high (by omega), List.all_append, ih (m / 10) (by omega)]
      have hm : m % 10 < 10 := Nat.mod_lt m (by decide)
      unfold dig
      simp
      omega
theorem dgs_head (m : Nat) : ∃ c r, dgs m = c :: r ∧ (c = 48 → m = 0 ∧ r = []) := by
  induction m using Nat.strongRecOn with
  | _ m ih =>
    by_cases h : m < 10
    · exact ⟨_, _, dgs_low h, fun e => ⟨by omega, rfl⟩⟩
    · obtain ⟨c, r, e, z⟩ := ih (m / 10) (by omega)
      rw [dgs_high (by omega), e]
      exact ⟨c, _, rfl, fun q => by have := (z q).1; omega⟩
theorem dgs_len {m k : Nat} (hk : 0 < k) (h : m < 10 ^ k) : (dgs m).length ≤ k := by
  have := (Nat.length_repr_le_iff (n := m) hk).mpr h
  unfold dgs
  rw [List.length_map, ← Nat.toList_repr]
  exact this
theorem dgs_val (m : Nat) : digitsVal (dgs m) = m := PySem.W.KIN.val_back m
/-- the signs of an integer -/
def sgn : Int → List Nat
  | .ofNat m => dgs m
  | .negSucc m => 45 :: dgs (m + 1)
theorem tl_ofString (s : String) : tl (Str.ofString s) = s.toList.map Char.toNat := by
  rw [Str.ofString_eq_toList]
theorem tl_int (n : Int) : tl (Str.ofString (toString n)) = sgn n := by
  rw [tl_ofString]
  cases n with
  | ofNat m =>
    show (Nat.repr m).toList.map Char.toNat = dgs m
    unfold dgs
    rw [Nat.toList_repr]
  | negSucc m =>
    show ("-" ++ Nat.repr (m + 1)).toList.map Char.toNat = 45 :: dgs (m + 1)
    unfold dgs
    rw [String.toList_append, List.map_append, Nat.toList_repr]
    rfl
theorem sgn_mem {n : Int} {c : Nat} (h : c ∈ sgn n) : dig c = true ∨ c = 45 := by
  cases n with
  | ofNat m => exact .inl (List.all_eq_true.mp (dgs_all m) c h)
  | negSucc m =>
    rcases List.mem_cons.mp h with rfl | h
    · exact .inr rfl
    · exact .inl (List.all_eq_true.mp (dgs_all _) c h)
theorem sgn_len {n : Int} {k : Nat} (hk : 0 < k) (h : n.natAbs < 10 ^ k) : (sgn n).length ≤ k + 1 := by
  cases n with
  | ofNat m => exact Nat.le_succ_of_le (dgs_len hk h)
  | negSucc m => exact Nat.succ_le_succ (dgs_len hk h)
theorem numL_sgn {n : Int} (h : n.natAbs < 10 ^ 40) : numL (sgn n) = some n := by
  cases n with
  | ofNat m =>
    show numL (dgs m) = _
    obtain ⟨c, r, e, z⟩ := dgs_head m
    have ha := dgs_all m
    have hl := dgs_len (by decide) (show m < 10 ^ 40 from h)
    have hc : c ≠ 45 := by
      rintro rfl
      rw [e] at ha
      rw [List.all_cons] at ha
      exact absurd ha (by simp [dig])
    have hz : (dgs m).head? = some 48 → dgs m = [48] := fun q => by
      rw [e] at q
      have q2 : c = 48 := by simpa using q
      obtain ⟨_, rfl⟩ := z q2
      rw [e, q2]
    unfold numL
    rw [if_neg (by rw [e]; simp; exact hc), if_pos ⟨by rw [e]; simp, hl, ha, hz⟩, dgs_val]
    rfl
  | negSucc m =>
    show numL (45 :: dgs (m + 1)) = _
    obtain ⟨c, r, e, z⟩ := dgs_head (m + 1)
    have ha := dgs_all (m + 1)
    have hl := dgs_len (by decide) (show m + 1 < 10 ^ 40 from h)
    have h1 : 1 ≤ (dgs (m + 1)).length := by
      rw [e]
      exact Nat.succ_le_succ (Nat.zero_le _)
    have h4 : ¬ (dgs (m + 1)).head? = some 48 := by
      rw [e]
      intro q
      have q2 : c = 48 := by simpa using q
      have := (z q2).1
      omega
    unfold numL
    rw [if_pos (show List.take 1 (45 :: dgs (m + 1)) = [45] from rfl), if_pos ⟨h1, hl, ha, h4⟩]
    · show some (-((digitsVal (dgs (m + 1)) : Nat) : Int)) = _
      rw [dgs_val]
      exact rfl
/-- a word for a triple -/
def wordT (t : Int × Int × Int) : List Nat := sgn t.1 ++ 44 :: (sgn t.2.1 ++ 61 :: sgn t.2.2)
/-- may be written and read back -/
structure Fit (t : Int × Int × Int) : Prop where
  a0 : 0 ≤ t.1
  c0 : 0 ≤ t.2.2
  a1 : t.1.natAbs < 10 ^ 40
  b1 : t.2.1.natAbs < 10 ^ 40
  c1 : t.2.2.natAbs < 10 ^ 40
theorem no_sgn {n : Int} {c : Nat} (h1 : dig c = false) (h2 : c ≠ 45) : c ∉ sgn n := fun h => by
  rcases sgn_mem h with z | z
  · rw [h1] at z; cases z
  · exact h2 z
theorem wordS_T {t : Int × Int × Int} (f : Fit t) : wordS (wordT t) = some t := by
  have e2 : twoL 61 (sgn t.2.1 ++ 61 :: sgn t.2.2) = some (t.2.1, t.2.2) := by
    unfold twoL
    rw [splitL_app (no_sgn (by decide) (by decide)), splitL_free (no_sgn (by decide) (by decide))]
    simp only [numL_sgn f.b1, numL_sgn f.c1]
  have hc : 44 ∉ sgn t.2.1 ++ 61 :: sgn t.2.2 := by
    rw [List.mem_append, List.mem_cons]
    rintro (h | h | h)
    · exact no_sgn (by decide) (by decide) h
    · exact absurd h (by decide)
    · exact no_sgn (by decide) (by decide) h
  unfold wordS wordT
  rw [splitL_app (no_sgn (by decide) (by decide)), splitL_free hc]
  simp only [numL_sgn f.a1, e2]
  rw [if_neg (by have := f.a0; have := f.c0; omega)]
theorem wordT_no {t : Int × Int × Int} : 32 ∉ wordT t := by
  unfold wordT
  simp only [List.mem_append, List.mem_cons]
  rintro (h | h | h | h | h)
  · exact no_sgn (by decide) (by decide) h
  · exact absurd h (by decide)
  · exact no_sgn (by decide) (by decide) h
  · exact absurd h (by decide)
  · exact no_sgn (by decide) (by decide) h
theorem mapM_all {α β : Type} {f : α → Option β} {g : β → α} {l : List β} (h : ∀ b ∈ l, f (g b) = some b) : (l.map g).mapM f = some l := by
  induction l with
  | nil => rfl
  | cons b r ih =>
    rw [List.map_cons, List.mapM_cons, h b List.mem_cons_self, ih fun c hc => h c (List.mem_cons_of_mem _ hc)]
    rfl
/-- the text of the rows -/
def textL (rows : List (Int × Int × Int)) : List Nat := if rows.isEmpty then [45] else joinL 32 (rows.map wordT)
theorem due_text {rows : List (Int × Int × Int)} (f : ∀ t ∈ rows, Fit t) : dueL (textL rows) = some rows := by
  unfold textL
  cases rows with
  | nil => rfl
  | cons t r =>
    rw [if_neg (by simp)]
    have hs : splitL 32 (joinL 32 ((t :: r).map wordT)) = (t :: r).map wordT := splitL_join (by simp) fun p hp => by
      obtain ⟨u, _, rfl⟩ := List.mem_map.mp hp
      exact wordT_no
    unfold dueL
    rw [if_neg, hs, mapM_all fun b hb => wordS_T (f b hb)]
    intro e
    rw [e] at hs
    have h44 : (44 : Nat) ∈ wordT t := by unfold wordT; simp
    have : wordT t ∈ splitL 32 [45] := by rw [hs]; simp
    have h45 : (44 : Nat) ∈ ([45] : List Nat) := (splitL_mem this).2 44 h44
    exact absurd h45 (by decide)
theorem len_z {z : Str} {l : List Nat} (h : tl z = l) : z.length = l.length := by rw [tl_len, h]
theorem len_int {n : Int} (h : n.natAbs < 10 ^ 40) : (Str.ofString (toString n)).length ≤ 41 := by
  rw [tl_len, tl_int]
  exact sgn_len (by decide) h
theorem fit_log {n : Int} (h : n.natAbs < 10 ^ 40) : n.natAbs.log2 < 1920 := by
  by_cases h0 : n.natAbs = 0
  · rw [h0]; decide
  · exact (Nat.log2_lt h0).mpr (Nat.lt_of_lt_of_le h (Nat.le_trans (show 10 ^ 40 ≤ 2 ^ 200 by decide) (Nat.pow_le_pow_right (by decide) (by decide))))
theorem tl_comma : tl "," = [44] := by decide +kernel
theorem tl_is : tl "=" = [61] := by decide +kernel
theorem tl_empty : tl Str.empty = [] := rfl
def spShow : DSp := fun vs ms kd _ => ∃ d rows, vs = [d] ∧ LsOf ms d (rows.map tri) ∧ rows.length ≤ 600 ∧ (∀ t ∈ rows, Fit t) ∧ ∀ z, tl z = textL rows → kd (.str z) ms
theorem word_len {t : Int × Int × Int} (f : Fit t) : (wordT t).length ≤ 125 := by
  unfold wordT
  have h1 := sgn_len (k := 40) (by decide) f.a1
  have h2 := sgn_len (k := 40) (by decide) f.b1
  have h3 := sgn_len (k := 40) (by decide) f.c1
  simp only [List.length_append, List.length_cons]
  omega
/-- the rows' words as texts -/
structure Wds (rows : List (Int × Int × Int)) (ws : List Str) : Prop where
  tl : ws.map tl = rows.map wordT
  fit : ∀ t ∈ rows, Fit t
theorem wds_sum {rows : List (Int × Int × Int)} {ws : List Str} (h : Wds rows ws) : (ws.map (·.length)).sum ≤ rows.length * 125 ∧ ws.length = rows.length := by
  obtain ⟨h1, h2⟩ := h
  induction rows generalizing ws with
  | nil =>
    cases ws with
    | nil => exact ⟨Nat.le_refl _, rfl⟩
    | cons w r => cases h1
  | cons t r ih =>
    cases ws with
    | nil => cases h1
    | cons w ws =>
      rw [List.map_cons, List.map_cons] at h1
      injection h1 with e1 e2
      obtain ⟨i1, i2⟩ := ih e2 fun x hx => h2 x (List.mem_cons_of_mem _ hx)
      refine ⟨?_, by rw [List.length_cons, List.length_cons, i2]⟩
      rw [List.map_cons, List.sum_cons, List.length_cons, Nat.succ_mul]
      have h3 : w.length ≤ 125 := by rw [tl_len, e1]; exact word_len (h2 t List.mem_cons_self)
      omega
theorem wds_join {rows : List (Int × Int × Int)} {ws : List Str} (h : Wds rows ws) : Tx.tl (Txt.join " " ws) = joinL 32 (rows.map wordT) := by
  show Tx.tl (Builtin.Str.glued " " ws) = _
  rw [StrLaws.glued_eq_join, str_space, tl_join, h.tl]
theorem joinL_len {c : Nat} : ∀ ps : List (List Nat), (joinL c ps).length ≤ (ps.map (·.length)).sum + ps.length
  | [] => Nat.zero_le _
  | [p] => by simp [joinL]
  | p :: q :: r => by
    have := joinL_len (c := c) (q :: r)
    rw [joinL, List.length_append, List.length_cons, List.map_cons, List.sum_cons, List.length_cons]
    omega
theorem wds_len {rows : List (Int × Int × Int)} {ws : List Str} (h : Wds rows ws) : (Txt.join " " ws).length ≤ rows.length * 126 := by
  rw [tl_len, wds_join h]
  obtain ⟨h1, h2⟩ := wds_sum h
  have := joinL_len (c := 32) (rows.map wordT)
  rw [← h.tl] at this ⊢
  rw [List.map_map, List.length_map] at this
  have e : (ws.map (List.length ∘ Tx.tl)).sum = (ws.map (·.length)).sum := by
    refine congrArg List.sum (List.map_congr_left fun w _ => ?_)
    exact (tl_len w).symm
  rw [e] at this
  omega
theorem wds_text {rows : List (Int × Int × Int)} {ws : List Str} (h : Wds rows ws) : (((Txt.join " " ws).length : Int) != 0) = !rows.isEmpty ∧ (rows.isEmpty = false → Tx.tl (Txt.join " " ws) = textL rows) := by
  have e := wds_join h
  cases rows with
  | nil =>
    refine ⟨?_, fun z => by cases z⟩
    rw [tl_len, e]
    decide
  | cons t r =>
    refine ⟨?_, fun _ => ?_⟩
    · have h44 : 44 ∈ joinL 32 ((t :: r).map wordT) := by
        have hw : (44 : Nat) ∈ wordT t := by unfold wordT; simp
        cases r with
        | nil => exact hw
        | cons u v => show 44 ∈ wordT t ++ _; exact List.mem_append_left _ hw
      rw [tl_len, e]
      have := List.length_pos_of_mem h44
      rw [bne_iff_ne.mpr (by omega)]
      exact rfl
    · rw [e]
      unfold textL
      rw [if_neg (by simp)]
theorem text_nil : textL [] = [45] := rfl
theorem sum_set {l : List Nat} {i x : Nat} : (l.set i x).sum ≤ l.sum + x := by
  induction l generalizing i with
  | nil => simp
  | cons a r ih =>
    cases i with
    | zero => rw [List.set_cons_zero, List.sum_cons, List.sum_cons]; omega
    | succ i =>
      rw [List.set_cons_succ, List.sum_cons, List.sum_cons]
      have := ih (i := i)
      omega
theorem swap_len {ws : List Str} {i j : Nat} {a b : Str} : (((ws.set i a).set j b).map (·.length)).sum ≤ (ws.map (·.length)).sum + a.length + b.length := by
  rw [List.map_set, List.map_set]
  have h1 := sum_set (l := (ws.map (·.length)).set i a.length) (i := j) (x := b.length)
  have h2 := sum_set (l := ws.map (·.length)) (i := i) (x := a.length)
  omega
theorem txt_join_len (ws : List Str) : (Txt.join " " ws).length ≤ (ws.map (·.length)).sum + ws.length := by
  show (Builtin.Str.glued " " ws).length ≤ _
  rw [StrLaws.glued_eq_join]
  have := StrLaws.join_length_le " " ws
  have h : (" " : Str).length = 1 := by decide +kernel
  rw [h] at this
  omega
end Tx

/-! M4: what is read is not great; what it shows. -/
namespace Tx
open PySem PySem.Spec PyProof.Rows L2 DL PySem.NumText
theorem val_lt : ∀ (l : List Nat) (a : Nat), l.all dig = true → l.foldl (fun acc c => acc * 10 + (c - 48)) a < (a + 1) * 10 ^ l.length
  | [], a, _ => by simp
  | c :: r, a, h => by
    rw [List.all_cons, Bool.and_eq_true] at h
    have hc : c - 48 ≤ 9 := by
      have := h.1
      unfold dig at this
      simp at this
      omega
    have h2 := val_lt r (a * 10 + (c - 48)) h.2
    rw [List.foldl_cons, List.length_cons, Nat.pow_succ]
    refine Nat.lt_of_lt_of_le h2 ?_
    have h3 : a * 10 + (c - 48) + 1 ≤ (a + 1) * 10 := by omega
    calc (a * 10 + (c - 48) + 1) * 10 ^ r.length ≤ ((a + 1) * 10) * 10 ^ r.length := Nat.mul_le_mul_right _ h3
      _ = (a + 1) * (10 ^ r.length * 10) := by rw [Nat.mul_assoc, Nat.mul_comm 10]
theorem digits_lt {l : List Nat} (h : l.all dig = true) (hl : l.length ≤ 40) : digitsVal l < 10 ^ 40 := by
  have := val_lt l 0 h
  rw [Nat.zero_add, Nat.one_mul] at this
  exact Nat.lt_of_lt_of_le this (Nat.pow_le_pow_right (by decide) hl)
theorem numL_lt {l : List Nat} {n : Int} (h : numL l = some n) : n.natAbs < 10 ^ 40 := by
  unfold numL at h
  by_cases hm : l.take 1 = [45]
  · rw [if_pos hm] at h
    split at h
    · rename_i h2
      cases h
      rw [Int.natAbs_neg]
      exact digits_lt h2.2.2.1 h2.2.1
    · cases h
  · rw [if_neg hm] at h
    split at h
    · rename_i h2
      cases h
      exact digits_lt h2.2.2.1 h2.2.1
    · cases h
theorem twoL_lt {c : Nat} {l : List Nat} {a b : Int} (h : twoL c l = some (a, b)) : a.natAbs < 10 ^ 40 ∧ b.natAbs < 10 ^ 40 := by
  unfold twoL at h
  split at h
  · rename_i p q hs
    cases hp : numL p with
    | none => simp only [hp] at h; cases h
    | some n =>
      cases hq : numL q with
      | none => simp only [hp, hq] at h; cases h
      | some m =>
        simp only [hp, hq] at h
        cases h
        exact ⟨numL_lt hp, numL_lt hq⟩
  · cases h
theorem wordS_lt {l : List Nat} {t : Int × Int × Int} (h : wordS l = some t) : t.1.natAbs < 10 ^ 40 ∧ t.2.1.natAbs < 10 ^ 40 ∧ t.2.2.natAbs < 10 ^ 40 := by
  unfold wordS at h
  split at h
  · rename_i p q hs
    cases hp : numL p with
    | none => simp only [hp] at h; cases h
    | some n =>
      cases hq : twoL 61 q with
      | none => simp only [hp, hq] at h; cases h
      | some m =>
        obtain ⟨b, c⟩ := m
        simp only [hp, hq] at h
        split at h
        · cases h
        · cases h
          exact ⟨numL_lt hp, (twoL_lt hq).1, (twoL_lt hq).2⟩
  · cases h
theorem mapM_mem {α β : Type} {f : α → Option β} : ∀ {l : List α} {r : List β}, l.mapM f = some r → (∀ b ∈ r, ∃ a, a ∈ l ∧ f a = some b) ∧ r.length = l.length
  | [], r, h => by
    rw [List.mapM_nil] at h
    cases h
    exact ⟨fun b hb => (by cases hb), rfl⟩
  | x :: l, r, h => by
    rw [List.mapM_cons] at h
    cases hx : f x with
    | none => rw [hx] at h; cases h
    | some y =>
      cases hl : l.mapM f with
      | none => rw [hx, hl] at h; cases h
      | some r' =>
        rw [hx, hl] at h
        cases h
        obtain ⟨i1, i2⟩ := mapM_mem hl
        refine ⟨fun b hb => ?_, by rw [List.length_cons, List.length_cons, i2]⟩
        rcases List.mem_cons.mp hb with rfl | hb
        · exact ⟨x, List.mem_cons_self, hx⟩
        · obtain ⟨a, h1, h2⟩ := i1 b hb
          exact ⟨a, List.mem_cons_of_mem _ h1, h2⟩
theorem splitL_len {c : Nat} : ∀ l : List Nat, (splitL c l).length ≤ l.length + 1
  | [] => by simp [splitL]
  | a :: r => by
    have := splitL_len (c := c) r
    rw [splitL]
    split
    · rw [List.length_cons, List.length_cons]; omega
    · cases hs : splitL c r with
      | nil => exact absurd hs joinL_splitL.2
      | cons p q =>
        rw [hs] at this
        rw [List.length_cons] at this ⊢
        rw [List.length_cons]
        omega
theorem tri_shw {t : Int × Int × Int} (h : t.1.natAbs < 10 ^ 40 ∧ t.2.1.natAbs < 10 ^ 40 ∧ t.2.2.natAbs < 10 ^ 40) : Shw (tri t) 1 132 := by
  have hp : (10 : Nat) ^ 40 ≤ 2 ^ 1920 := Nat.le_trans (show 10 ^ 40 ≤ 2 ^ 200 by decide) (Nat.pow_le_pow_right (by decide) (by decide))
  have := Shw.tup (xs := [.int t.1, .int t.2.1, .int t.2.2]) (n := 0) (m := 41) (fun x hx => by
    rcases List.mem_cons.mp hx with rfl | hx
    · exact Shw.int (by decide) h.1 hp
    · rcases List.mem_cons.mp hx with rfl | hx
      · exact Shw.int (by decide) h.2.1 hp
      · rcases List.mem_cons.mp hx with rfl | hx
        · exact Shw.int (by decide) h.2.2 hp
        · cases hx) (l := 3) (Nat.le_refl _)
  exact this
theorem due_shw {l : List Nat} (hl : l.length ≤ 50000) : ∃ xs, dueD (dueL l) = .lst xs ∧ Shw (.lst xs) 3 16000000 := by
  cases h : dueL l with
  | none =>
    refine ⟨[], rfl, ?_⟩
    have := Shw.lst (xs := []) (n := 2) (m := 0) (fun x hx => by cases hx) (l := 1) (by decide)
    exact ⟨this.pl, this.sh, this.hd, this.dp, Nat.le_trans this.ln (by decide)⟩
  | some r =>
    refine ⟨_, rfl, ?_⟩
    have hr : (∀ t ∈ r, t.1.natAbs < 10 ^ 40 ∧ t.2.1.natAbs < 10 ^ 40 ∧ t.2.2.natAbs < 10 ^ 40) ∧ r.length ≤ 50001 := by
      unfold dueL at h
      split at h
      · cases h
        exact ⟨fun t ht => (by cases ht), by decide⟩
      · obtain ⟨i1, i2⟩ := mapM_mem h
        have := splitL_len (c := 32) l
        exact ⟨fun t ht => let ⟨a, _, h2⟩ := i1 t ht; wordS_lt h2, by omega⟩
    have h1 := Shw.lst (xs := r.map tri) (n := 1) (m := 132) (fun x hx => by
      obtain ⟨t, ht, rfl⟩ := List.mem_map.mp hx
      exact tri_shw (hr.1 t ht)) (l := 50001) (by rw [List.length_map]; exact hr.2)
    have h2 := Shw.lst (xs := [.lst (r.map tri)]) (fun x hx => by
      rw [List.mem_singleton] at hx
      subst hx
      exact h1) (l := 1) (Nat.le_refl _)
    exact ⟨h2.pl, h2.sh, h2.hd, h2.dp, Nat.le_trans h2.ln (by decide)⟩
theorem eqs_tri (a b : Int × Int × Int) : EqS 1 (tri a) (tri b) (decide (a = b)) := by
  refine (EqS.three EqS.intD EqS.intD EqS.intD).cast ?_
  obtain ⟨a1, a2, a3⟩ := a
  obtain ⟨b1, b2, b3⟩ := b
  rw [Bool.eq_iff_iff]
  simp [and_assoc]
def spRight (j : Nat) : DSp := fun vs ms kd _ => ∃ p n ms0, vs = [.adr p] ∧ ms = (p, poolM n) :: ms0 ∧ n + j < 2 ^ 30 ∧ kd (.bl true) ((p, poolM (n + j)) :: ms0)
def spPool : DSp := fun vs ms kd xk => ∃ ns i, vs = [.scr ns, .int i] ∧ 0 ≤ i ∧ i < 1000 ∧ ∀ p, kd (.adr p) ((p, poolM 0) :: ms)
def spLaw : DSp := fun vs ms kd _ => ∃ ns, vs = [.scr ns] ∧ ns.length ≤ 16777216 ∧ kd (.bl true) ms
end Tx

/-! LIBM: law(script), of every law: a spots, b turns. -/
namespace Lb
open PySem PySem.Spec PyProof.Rows L2 DL
abbrev irLaw (a b : Int) : ST := (.cons (.forS (.nm 1) (.itR1 (.bi .max (.cons (.int 1) (.cons (.bi .min (.cons (.int a) (.cons (.bi .len (.cons (.var 0) .nil)) .nil))) .nil)))) [1, 2, 3]
 (.cons (.asg (.nm 2) (.call 0 (.cons (.var 0) (.cons (.var 1) .nil))))
 (.cons (.forS (.nm 3) (.itR1 (.int b)) [1, 3]
 (.cons (.ife (.not (.tru (.call 1 (.cons (.var 2) .nil))))
 (.cons (.ret (.bl false))
 .nil)
 .nil)
 .nil))
 .nil)))
 (.cons (.ret (.bl true))
 .nil))
abbrev nm_law : List Str := ["script", "spot", "pool", "turn"]
@[reducible] def rRight : PR := fun as k => as = [] ∧ k (.bl true)
theorem rRight_mono : PR.Mono rRight := fun as k k' h ⟨e, q⟩ => ⟨e, h _ q⟩
theorem rKind_mono : PR.Mono rKind := fun as k k' h ⟨e, q⟩ => ⟨e, fun p ts hk => h _ (q p ts hk)⟩
theorem walk_law {a b : Nat} {j : Nat} (ha : a ≤ 20) (hb : b ≤ 20) (hj : j ≤ 10000000) {K : PySem.W.Frag} {vs : List D} {ms : MS} {kd : DK} {xk : Addr → D → MS → Prop} (h : Tx.spLaw vs ms kd xk) :
    vS [.fn "_law_pool" 2 Tx.spPool, .fn "_law_right" 1 (spV j rRight)] (dX K xk) (irLaw a b) (startD nm_law vs) ms (dN K kd) := by
  obtain ⟨ns, rfl, hl, kq⟩ := h
  (simp only [startD, List.map_cons, List.map_nil, List.length_cons, List.length_nil, List.cons_append, List.nil_append, List.replicate, Nat.reduceAdd, Nat.reduceSub]; with_reducible conv => whnf)
  refine ⟨by omega, ?_⟩
  with_reducible conv => whnf
  rw [rangeD_map]
  refine vForL_ix (f := fun i : Nat => D.int (0 + (i : Int))) _ (fun i dsA msA => dsA = [some (.scr ns), none, none, none] ∧ MLe K msA ms) ⟨rfl, MLe.refl _ _⟩ (fun dsA msA h => ?_) (fun i x dsA msA R hx hR h => ?_)
  · obtain ⟨rfl, hm⟩ := h
    exact ⟨trivial, _, hm, kq⟩
  · obtain ⟨rfl, hm⟩ := h
    obtain ⟨rfl, hi⟩ := range_ix hx
    refine ⟨trivial, ?_⟩
    with_reducible conv => whnf
    refine ⟨ns, _, rfl, by omega, by omega, fun p => ?_⟩
    with_reducible conv => whnf
    refine ⟨by omega, ?_⟩
    with_reducible conv => whnf
    rw [rangeD_map]
    refine vForL_ix (f := fun i : Nat => D.int (0 + (i : Int))) _ (fun i dsA msB => dsA = [some (.scr ns), none, some (.adr p), none] ∧ msB = (p, poolM (0 + j * i)) :: msA) ⟨rfl, rfl⟩ (fun dsA msB h => ?_) (fun i y dsA msB R2 hy hR2 h => ?_)
    · obtain ⟨rfl, rfl⟩ := h
      refine ⟨trivial, ?_⟩
      with_reducible conv => whnf
      exact hR _ _ ⟨rfl, MLe.tail.trans hm⟩
    · obtain ⟨rfl, rfl⟩ := h
      obtain ⟨rfl, hy2⟩ := range_ix hy
      refine ⟨trivial, ?_⟩
      with_reducible conv => whnf
      have hb1 : j * y ≤ 10000000 * 20 := Nat.mul_le_mul hj (by omega)
      refine ⟨p, [], _, 0, rfl, .z, by omega, rfl, ?_⟩
      with_reducible conv => whnf
      refine hR2 _ _ ⟨rfl, ?_⟩
      rw [Nat.mul_succ, ← Nat.add_assoc]
end Lb

namespace K56
open PySem PySem.Spec PyProof.Rows L2 DL
def topS (i : Nat) : Stmt := PySem.Challenge.pw_grownrows_k56_errors_of_knowing.main.body.getD i (.Pass ⟨0, 0, 0, 0⟩)
def inS (i j : Nat) : Stmt := match topS i with
  | .ClassDef (body := b) .. => b.getD j (.Pass ⟨0, 0, 0, 0⟩)
  | s => s
abbrev s__wall : Stmt := topS 0
theorem sc__wall : FnScope ["k"] ["k"] (defScope s__wall) := ⟨rfl, rfl, rfl, by decide +kernel, rfl, by decide +kernel, by decide +kernel⟩
abbrev s_GrowthError_init : Stmt := inS 2 0
abbrev s_plain : Stmt := topS 15
theorem sc_plain : FnScope ["cells", "prime", "place", "value"] ["cells", "prime"] (defScope s_plain) := ⟨rfl, rfl, rfl, by decide +kernel, rfl, by decide +kernel, by decide +kernel⟩
abbrev s_multiplied : Stmt := topS 16
theorem sc_multiplied : FnScope ["one", "other", "prime", "found", "place", "value", "offset", "factor"] ["one", "other", "prime"] (defScope s_multiplied) := ⟨rfl, rfl, rfl, by decide +kernel, rfl, by decide +kernel, by decide +kernel⟩
abbrev s_check_terms : Stmt := topS 19
theorem sc_check_terms : FnScope ["prime", "terms", "seen", "number", "coefficient", "offset"] ["prime", "terms"] (defScope s_check_terms) := ⟨rfl, rfl, rfl, by decide +kernel, rfl, by decide +kernel, by decide +kernel⟩
abbrev s_Rule_init : Stmt := inS 20 0
theorem sc_Rule_init : FnScope ["self", "prime", "terms", "steps", "coefficient", "offset"] ["self", "prime", "terms"] (defScope s_Rule_init) := ⟨rfl, rfl, rfl, by decide +kernel, rfl, by decide +kernel, by decide +kernel⟩
abbrev s_Rule_eq : Stmt := inS 20 1
theorem sc_Rule_eq : FnScope ["self", "other"] ["self", "other"] (defScope s_Rule_eq) := ⟨rfl, rfl, rfl, by decide +kernel, rfl, by decide +kernel, by decide +kernel⟩
abbrev s_Rule_prime : Stmt := inS 20 2
theorem sc_Rule_prime : FnScope ["self"] ["self"] (defScope s_Rule_prime) := ⟨rfl, rfl, rfl, by decide +kernel, rfl, by decide +kernel, by decide +kernel⟩
abbrev s_Rule_terms : Stmt := inS 20 3
theorem sc_Rule_terms : FnScope ["self", "offset", "coefficient"] ["self"] (defScope s_Rule_terms) := ⟨rfl, rfl, rfl, by decide +kernel, rfl, by decide +kernel, by decide +kernel⟩
abbrev s_Rule_mirrored : Stmt := inS 20 4
theorem sc_Rule_mirrored : FnScope ["self"] ["self"] (defScope s_Rule_mirrored) := ⟨rfl, rfl, rfl, by decide +kernel, rfl, by decide +kernel, by decide +kernel⟩
abbrev s_Rule_next_row : Stmt := inS 20 5
theorem sc_Rule_next_row : FnScope ["self", "row"] ["self", "row"] (defScope s_Rule_next_row) := ⟨rfl, rfl, rfl, by decide +kernel, rfl, by decide +kernel, by decide +kernel⟩
abbrev s_check_number : Stmt := topS 22
theorem sc_check_number : FnScope ["number", "least"] ["number", "least"] (defScope s_check_number) := ⟨rfl, rfl, rfl, by decide +kernel, rfl, by decide +kernel, by decide +kernel⟩
abbrev s_check_stretch : Stmt := topS 23
theorem sc_check_stretch : FnScope ["low", "high"] ["low", "high"] (defScope s_check_stretch) := ⟨rfl, rfl, rfl, by decide +kernel, rfl, by decide +kernel, by decide +kernel⟩
abbrev s_check_seen : Stmt := topS 25
theorem sc_check_seen : FnScope ["rule", "seen_cells", "spot", "number", "place", "value"] ["rule", "seen_cells"] (defScope s_check_seen) := ⟨rfl, rfl, rfl, by decide +kernel, rfl, by decide +kernel, by decide +kernel⟩
abbrev s_check_known : Stmt := topS 26
theorem sc_check_known : FnScope ["rule", "low", "high", "seen_cells"] ["rule", "low", "high", "seen_cells"] (defScope s_check_known) := ⟨rfl, rfl, rfl, by decide +kernel, rfl, by decide +kernel, by decide +kernel⟩
abbrev s_stretch_of : Stmt := topS 27
theorem sc_stretch_of : FnScope ["rule", "number", "low", "high", "prime", "powers", "first", "last", "inner", "found", "spot", "value", "offset", "factor", "at", "place"] ["rule", "number", "low", "high"] (defScope s_stretch_of) := ⟨rfl, rfl, rfl, by decide +kernel, rfl, by decide +kernel, by decide +kernel⟩
abbrev s_factors_of : Stmt := topS 28
theorem sc_factors_of : FnScope ["rule", "low", "high", "number", "place"] ["rule", "low", "high", "number", "place"] (defScope s_factors_of) := ⟨rfl, rfl, rfl, by decide +kernel, rfl, by decide +kernel, by decide +kernel⟩
abbrev s_lessened : Stmt := topS 29
theorem sc_lessened : FnScope ["line", "other", "factor", "prime", "one", "two"] ["line", "other", "factor", "prime"] (defScope s_lessened) := ⟨rfl, rfl, rfl, by decide +kernel, rfl, by decide +kernel, by decide +kernel⟩
abbrev s_settled : Stmt := topS 30
theorem sc_settled : FnScope ["rule", "low", "high", "seen_cells", "found", "prime", "many", "number", "place", "value", "line", "last", "other", "spots", "share", "spot", "factor"] ["rule", "low", "high", "seen_cells"] (defScope s_settled) := ⟨rfl, rfl, rfl, by decide +kernel, rfl, by decide +kernel, by decide +kernel⟩
abbrev s_count_begins : Stmt := topS 31
theorem sc_count_begins : FnScope ["rule", "low", "high", "seen_cells", "lines", "found", "turn"] ["rule", "low", "high", "seen_cells"] (defScope s_count_begins) := ⟨rfl, rfl, rfl, by decide +kernel, rfl, by decide +kernel, by decide +kernel⟩
abbrev s_first_begin : Stmt := topS 32
theorem sc_first_begin : FnScope ["rule", "low", "high", "seen_cells", "lines", "found", "last", "line"] ["rule", "low", "high", "seen_cells"] (defScope s_first_begin) := ⟨rfl, rfl, rfl, by decide +kernel, rfl, by decide +kernel, by decide +kernel⟩
abbrev s_sure_value : Stmt := topS 33
theorem sc_sure_value : FnScope ["rule", "low", "high", "seen_cells", "number", "place", "lines", "wanted", "last", "line"] ["rule", "low", "high", "seen_cells", "number", "place"] (defScope s_sure_value) := ⟨rfl, rfl, rfl, by decide +kernel, rfl, by decide +kernel, by decide +kernel⟩
abbrev s_looks_missing : Stmt := topS 34
theorem sc_looks_missing : FnScope ["rule", "low", "high", "seen_cells", "lines"] ["rule", "low", "high", "seen_cells"] (defScope s_looks_missing) := ⟨rfl, rfl, rfl, by decide +kernel, rfl, by decide +kernel, by decide +kernel⟩
abbrev s__law_pool : Stmt := topS 36
theorem sc__law_pool : FnScope ["script", "spot", "cell"] ["script", "spot"] (defScope s__law_pool) := ⟨rfl, rfl, rfl, by decide +kernel, rfl, by decide +kernel, by decide +kernel⟩
abbrev s__law_draw : Stmt := topS 37
theorem sc__law_draw : FnScope ["pool", "many", "drawn", "mixed"] ["pool", "many"] (defScope s__law_draw) := ⟨rfl, rfl, rfl, by decide +kernel, rfl, by decide +kernel, by decide +kernel⟩
abbrev s__law_kind : Stmt := topS 38
theorem sc__law_kind : FnScope ["pool", "prime_here", "wide", "least_here", "terms_here", "step", "spot"] ["pool"] (defScope s__law_kind) := ⟨rfl, rfl, rfl, by decide +kernel, rfl, by decide +kernel, by decide +kernel⟩
abbrev s__law_made : Stmt := topS 39
theorem sc__law_made : FnScope ["kind"] ["kind"] (defScope s__law_made) := ⟨rfl, rfl, rfl, by decide +kernel, rfl, by decide +kernel, by decide +kernel⟩
abbrev s__law_flags : Stmt := topS 40
theorem sc__law_flags : FnScope ["e", "found", "odd"] ["e"] (defScope s__law_flags) := ⟨rfl, rfl, rfl, by decide +kernel, rfl, by decide +kernel, by decide +kernel⟩
abbrev s__law_flagged : Stmt := topS 41
theorem sc__law_flagged : FnScope ["spot", "thing", "other"] ["spot", "thing"] (defScope s__law_flagged) := ⟨rfl, rfl, rfl, by decide +kernel, rfl, by decide +kernel, by decide +kernel⟩
abbrev s__law_caught : Stmt := topS 42
theorem sc__law_caught : FnScope ["way", "made", "ends_here", "known", "cell", "caught", "one", "two", "e"] ["way", "made", "ends_here", "known", "cell"] (defScope s__law_caught) := ⟨rfl, rfl, rfl, by decide +kernel, rfl, by decide +kernel, by decide +kernel⟩
abbrev s__law_right : Stmt := topS 43
theorem sc__law_right : FnScope ["pool", "kind", "low_here", "known", "ends_here", "turn", "turn_here", "size", "faults", "cell", "kept", "way", "due", "at", "one"] ["pool"] (defScope s__law_right) := ⟨rfl, rfl, rfl, by decide +kernel, rfl, by decide +kernel, by decide +kernel⟩
abbrev s_law : Stmt := topS 44
theorem sc_law : FnScope ["script", "spot", "pool", "turn"] ["script"] (defScope s_law) := ⟨rfl, rfl, rfl, by decide +kernel, rfl, by decide +kernel, by decide +kernel⟩
end K56

namespace K56
open PySem PySem.Spec PyProof.Rows L2 DL Tx
local macro_rules | `(tactic| kspl_open x_nm) => `(tactic| with_reducible first | exact .z | exact .s .z | exact .s (.s .z) | exact .s (.s (.s .z)) | exact .s (.s (.s (.s .z))) | exact .s (.s (.s (.s (.s .z)))) | exact .s (.s (.s (.s (.s (.s .z))))) | exact .s (.s (.s (.s (.s (.s (.s .z)))))) | exact .s (.s (.s (.s (.s (.s (.s (.s .z))))))) | exact .s (.s (.s (.s (.s (.s (.s (.s (.s .z)))))))) | exact .s (.s (.s (.s (.s (.s (.s (.s (.s (.s .z))))))))) | exact .s (.s (.s (.s (.s (.s (.s (.s (.s (.s (.s .z)))))))))) | exact .s (.s (.s (.s (.s (.s (.s (.s (.s (.s (.s (.s .z))))))))))) | exact .s (.s (.s (.s (.s (.s (.s (.s (.s (.s (.s (.s (.s .z)))))))))))) | exact .s (.s (.s (.s (.s (.s (.s (.s (.s (.s (.s (.s (.s (.s .z))))))))))))) | exact .s (.s (.s (.s (.s (.s (.s (.s (.s (.s (.s (.s (.s (.s (.s .z)))))))))))))) | exact .s (.s (.s (.s (.s (.s (.s (.s (.s (.s (.s (.s (.s (.s (.s (.s .z))))))))))))))) | exact .s (.s (.s (.s (.s (.s (.s (.s (.s (.s (.s (.s (.s (.s (.s (.s (.s .z)))))))))))))))) | exact .s (.s (.s (.s (.s (.s (.s (.s (.s (.s (.s (.s (.s (.s (.s (.s (.s (.s .z))))))))))))))))) | exact .s (.s (.s (.s (.s (.s (.s (.s (.s (.s (.s (.s (.s (.s (.s (.s (.s (.s (.s .z)))))))))))))))))) | exact .s (.s (.s (.s (.s (.s (.s (.s (.s (.s (.s (.s (.s (.s (.s (.s (.s (.s (.s (.s .z))))))))))))))))))) | exact .s (.s (.s (.s (.s (.s (.s (.s (.s (.s (.s (.s (.s (.s (.s (.s (.s (.s (.s (.s (.s .z)))))))))))))))))))) | assumption)
local macro_rules | `(tactic| kspl_open x_ctx) => `(tactic| first | assumption | exact Ctx.blk (by assumption) _ _ _ _ _)
local macro_rules | `(tactic| kspl_open x_vis) => `(tactic| first | exact Or.inl rfl | exact Or.inr (Or.inl rfl) | exact Or.inr (Or.inr rfl))
local macro_rules | `(tactic| kspl_open x_loc) => `(tactic| first | exact Or.inl rfl | exact Or.inr rfl)
local macro_rules | `(tactic| kspl_open x_mark) => `(tactic| first | exact nobehind _ (by decide) (by decide) | rfl)
local macro_rules | `(tactic| kspl_open x_name) => `(tactic| first | ((with_reducible refine' de_name ?dc ?dn ?dv ?d1 ?d2 ?_); (case dc => kspl_open x_ctx); (case dn => kspl_open x_nm); (case dv => kspl_open x_vis); (case d1 => decide); (case d2 => decide)) | ((with_reducible refine' de_nameS ?dc ?dn ?dv ?d1 ?d2 ?_); (case dc => assumption); (case dn => kspl_open x_nm); (case dv => kspl_open x_vis); (case d1 => decide); (case d2 => decide)))
local macro_rules | `(tactic| kspl_open x_bcall) => `(tactic| ((with_reducible refine' de_callB ?dv ?dm ?dh ?dg ?dn ?dd ?de ?dp); (case dv => with_reducible first | exact bt_len | exact bt_abs | exact bt_max | exact bt_min | exact bt_all | exact bt_any | exact bt_sum | exact bt_sorted | exact bt_repr | exact bt_isinstance); (case dm => assumption); (case dg => rfl); (case dn => decide); (case dd => decide); (case de => rfl); (case dp => rfl)))
local macro_rules | `(tactic| kspl_open x_tcall) => `(tactic| ((with_reducible refine' de_callT ?dv ?dm ?dh ?dg ?dn ?dd ?de ?dp); (case dv => with_reducible first | exact bt_int | exact bt_str | exact bt_list | exact bt_tuple | exact bt_dict | exact bt_set | exact bt_bool); (case dm => assumption); (case dg => rfl); (case dn => decide); (case dd => decide); (case de => rfl); (case dp => rfl)))
local macro_rules | `(tactic| kspl_open x_arg) => `(tactic| first | ((with_reducible refine' da_cons ?da ?db); (case db => rfl)) | ((with_reducible refine' da_star ?da ?db); (case db => rfl); (case' da => skip)))
local macro_rules | `(tactic| kspl_open x_cmp) => `(tactic| ((with_reducible first | refine dt_cmp ?da ?db | refine de_cmp ?da ?db)); (case db => kspl_open x_mark))
local macro_rules | `(tactic| kspl_open x_chain) => `(tactic| ((with_reducible first | refine dt_chain ?da ?db | refine de_chain ?da ?db)); (case db => with_unfolding_all rfl))
local macro_rules | `(tactic| kspl_open x_truth) => `(tactic| ((with_reducible refine dt_truth ?da ?db); (case db => intro _; rfl)))
local macro_rules | `(tactic| kspl_open x_e1) => `(tactic| with_reducible first | refine de_int ?_ | refine de_str ?_ | refine de_bl ?_ | refine de_non ?_ | refine de_bin ?_ | refine de_un ?_ | refine de_slice ?_ | refine de_ix ?_ | refine do_none ?_ | refine do_some ?_ | refine de_ifExp ?_ | refine da_nil ?_ | refine dk_nil ?_ | refine dk_cons ?_ | refine de_tup ?_ | refine de_or ?_ | refine de_and ?_ | refine de_one ?_ | refine de_not ?_ | refine de_joined ?_ | refine dj_cons ?_ | refine dj_nil ?_ | refine de_fmtI ?_ | refine dt_not ?_ | refine dt_bool ?_ | refine dw_and ?_ | refine dw_or ?_ | refine dw_and1 ?_ | refine dw_or1 ?_)
local macro_rules | `(tactic| kspl_open x_op) => `(tactic| with_reducible first | refine opd_add ?_ | refine opd_sub ?_ | refine opd_lt ?_ | refine opd_le ?_ | refine opd_gt ?_ | refine opd_ge ?_ | refine opd_eq ?_ | refine opd_ne ?_ | refine opd_eqS ?_ | refine opd_neS ?_ | refine opd_eqB ?_ | refine opd_neB ?_ | refine opd_isN ?_ | refine opd_notN ?_ | refine und_neg ?_ | refine opd_inC ?_ | refine opd_notInC ?_ | refine opd_iadd ?_ | refine opd_isub ?_ | refine cad_intI ?_ | refine cad_intB ?_ | refine cad_abs ?_ | (refine' cad_max2 ?dc ?_; (case dc => kspl_open x_ctx)) | (refine' cad_min2 ?dc ?_; (case dc => kspl_open x_ctx)) | refine cad_lenC ?_ | refine cad_lenT ?_ | refine trd_bl ?_ | refine trd_int ?_ | refine trd_non ?_)
local macro_rules | `(tactic| kspl_open x_ls) => `(tactic| with_reducible first | exact LsOf.f | exact LsOf.m (by kspl_open x_nm))
local macro_rules | `(tactic| kspl_open x_ixl) => `(tactic| first | ((with_reducible refine' cad_tupleL ?dl ?_); (case dl => kspl_open x_ls)) | (with_reducible refine cad_tupleT ?_) | ((with_reducible refine' ixd_ls ?dl ?da ?di ?_); (case dl => kspl_open x_ls); (case da => rfl); (case di => intro _ _; rfl)) | ((with_reducible refine' cad_lenL ?dl ?_); (case dl => kspl_open x_ls)) | ((with_reducible refine' trd_ls ?dl ?_); (case dl => kspl_open x_ls)) | ((with_reducible refine' opd_cat ?dl ?dm ?dn ?_); (case dl => kspl_open x_ls); (case dm => kspl_open x_ls); (case dn => kspl_open x_len)) | ((with_reducible refine' ixd_tup ?da ?di ?_); (case da => rfl); (case di => intro _ _; rfl)))
local macro_rules | `(tactic| kspl_open x_st1) => `(tactic| first | ((with_reducible refine' ds_expr ?da ?db); (case db => rfl); (case' da => skip)) | with_reducible first | refine ds_if ?_ | refine ds_ret ?_ | refine ds_retN ?_ | refine ds_break ?_ | refine ds_cont ?_ | refine ds_pass ?_)
local macro_rules | `(tactic| kspl_open x_set) => `(tactic| ((with_reducible refine' ds_set ?dc ?di ?dh ?dx ?ds ?df); (case dc => kspl_open x_ctx); (case di => kspl_open x_nm); (case dx => kspl_open x_loc); (case ds => rfl); (case df => kspl_open x_loc)))
local macro_rules | `(tactic| kspl_open x_asg) => `(tactic| ((with_reducible refine' ds_asg ?da ?ds ?dw ?d1); (case ds => rfl); (case dw => rfl); (case d1 => rfl); (case' da => skip)))
local macro_rules | `(tactic| kspl_open x_put) => `(tactic| ((with_reducible refine' ex_put ?pp ?_); (case pp => kspl_open x_nm)))
local macro_rules | `(tactic| kspl_open x_dgs) => `(tactic| ((with_reducible refine dg_sub ?da ?db); (case db => intro _; rfl)))
local macro_rules | `(tactic| kspl_open x_par) => `(tactic| ((with_reducible refine' ds_par ?dc ?di ?dj ?da ?dn ?dx ?dy ?dw ?ds); (case dc => kspl_open x_ctx); (case di => kspl_open x_nm); (case dj => kspl_open x_nm); (case dn => decide); (case dx => rfl); (case dy => rfl); (case dw => rfl); (case ds => rfl); (case' da => skip)))
local macro_rules | `(tactic| kspl_open x_raise) => `(tactic| ((with_reducible refine' ds_raise ?dt ?dc ?da ?dg ?dd ?de ?dp); (case dt => assumption); (case dc => kspl_open x_ctx); (case dg => rfl); (case dd => decide); (case de => rfl); (case dp => rfl); (case' da => skip)))
local macro_rules | `(tactic| kspl_open x_dgn) => `(tactic| ((with_reducible refine' dg_name ?dc ?di ?dp ?_ ?dx ?df); (case dc => kspl_open x_ctx); (case di => kspl_open x_nm); (case dp => kspl_open x_nm); (case dx => kspl_open x_loc); (case df => kspl_open x_loc)))
local macro_rules | `(tactic| kspl_open x_dgt) => `(tactic| first | ((with_reducible refine' dg_tup ?dc ?dn ?dl ?dk ?ds); (case dc => kspl_open x_ctx); (case dl => rfl); (case dk => rfl); (case ds => rfl); (case' dn => skip)) | ((with_reducible refine' dgs_cons ?da ?db); (case db => rfl); (case' da => skip)) | (with_reducible refine dgs_nil ?_))
local macro_rules | `(tactic| kspl_open x_s) => `(tactic| first | kspl_open x_st1 | kspl_open x_par | kspl_open x_raise | kspl_open x_set | kspl_open x_asg | kspl_open x_dgn | kspl_open x_dgt | kspl_open x_dgs)
local macro_rules | `(tactic| kspl_open x_ex) => `(tactic| first | (with_reducible refine ⟨_, rfl, ?_⟩) | ((with_reducible refine' ex_par ?dp ?dq ?_); (case dp => kspl_open x_nm); (case dq => kspl_open x_nm)) | (with_reducible refine br_t ?_) | (with_reducible refine br_f ?_) | (with_reducible refine br_nt ?_) | (with_reducible refine br_nf ?_) | (refine And.intro (len_ok (Nat.le_of_ble_eq_true rfl)) ?_))
local macro_rules | `(tactic| kspl_open x_mul) => `(tactic| first | ((with_reducible refine' opd_mul ?c ?_); (case c => first | exact mul_l (by omega) (by omega) | exact mul_r (by omega) (by omega))) | ((with_reducible refine' opd_mod ?c ?_); (case c => first | assumption | omega | decide)) | ((with_reducible refine' opd_div ?c ?_); (case c => first | exact divW_small (by omega) (by omega) | exact divW_mid (by omega) (by assumption))))
local macro_rules | `(tactic| kspl_open x_glob) => `(tactic| first | ((with_reducible refine' de_globI ?dm ?dg ?dd ?_); (case dm => assumption); (case dg => rfl); (case dd => decide)) | ((with_reducible refine' de_globS ?dm ?dg ?dd ?_); (case dm => assumption); (case dg => rfl); (case dd => decide)))
local macro_rules | `(tactic| kspl_open x_len) => `(tactic| first | exact len_ok (by assumption) | exact len_ok (by omega) | exact len_ok (by decide) | exact len_ok (Nat.le_of_ble_eq_true rfl))
local macro_rules | `(tactic| kspl_open x_txt) => `(tactic| first | ((with_reducible refine' opd_addS ?dc ?_); (case dc => kspl_open x_len)) | ((with_reducible refine' sld_str ?dc ?_); (case dc => kspl_open x_len)) | ((with_reducible refine' cad_lenS ?dc ?_); (case dc => kspl_open x_len)) | ((with_reducible refine' trd_str ?dc ?_); (case dc => kspl_open x_len)))
local macro_rules | `(tactic| kspl_open x_meth) => `(tactic| ((with_reducible first | refine' de_m PySem.F.plainAttrs_str PySem.F.slot_str_split PySem.F.type_str_split ?da ?hb ?hf ?hl ?hs ?hp | refine' de_m PySem.F.plainAttrs_str PySem.F.slot_str_partition PySem.F.type_str_partition ?da ?hb ?hf ?hl ?hs ?hp | refine' de_m PySem.F.plainAttrs_str PySem.F.slot_str_join PySem.F.type_str_join ?da ?hb ?hf ?hl ?hs ?hp | refine' de_m PySem.F.plainAttrs_str PySem.F.slot_str_startswith PySem.F.type_str_startswith ?da ?hb ?hf ?hl ?hs ?hp | refine' de_m PySem.F.plainAttrs_str PySem.F.slot_str_endswith PySem.F.type_str_endswith ?da ?hb ?hf ?hl ?hs ?hp | refine' de_m PySem.F.plainAttrs_str PySem.F.slot_str_isdigit PySem.F.type_str_isdigit ?da ?hb ?hf ?hl ?hs ?hp | refine' de_m PySem.F.plainAttrs_str PySem.F.slot_str_replace PySem.F.type_str_replace ?da ?hb ?hf ?hl ?hs ?hp | refine' de_m PySem.F.plainAttrs_list PySem.F.slot_list_append PySem.F.type_list_append ?da ?hb ?hf ?hl ?hs ?hp | refine' de_m PySem.F.plainAttrs_list PySem.F.slot_list_extend PySem.F.type_list_extend ?da ?hb ?hf ?hl ?hs ?hp | refine' de_m PySem.F.plainAttrs_list PySem.F.slot_list_insert PySem.F.type_list_insert ?da ?hb ?hf ?hl ?hs ?hp); (case hb => rfl); (case hf => rfl); (case hl => rfl); (case hs => rfl); (case hp => rfl); (case' da => skip)))
local macro_rules | `(tactic| kspl_open x_meth0) => `(tactic| ((with_reducible first | refine' de_m0 PySem.F.plainAttrs_str PySem.F.slot_str_isdigit PySem.F.type_str_isdigit ?da ?hb ?hl); (case hb => rfl); (case hl => rfl); (case' da => skip)))
local macro_rules | `(tactic| kspl_open x_ty) => `(tactic| first | (with_reducible refine ty_str ?_) | ((with_reducible refine' ty_ls ?dl ?_); (case dl => kspl_open x_ls)) | ((with_reducible refine' ty_dic ?dl ?_); (case dl => kspl_open x_nm)))
local macro_rules | `(tactic| kspl_open x_len2) => `(tactic| first | assumption | omega | exact len_lt (by assumption) | exact len_lt (by omega))
local macro_rules | `(tactic| kspl_open x_mt) => `(tactic| first | (with_reducible refine mtd_startswith ?_) | (with_reducible refine mtd_endswith ?_) | (with_reducible refine mtd_isdigit ?_) | ((with_reducible refine' mtd_split ?dy ?dz ?_); (case dy => rfl); (case dz => kspl_open x_len)) | ((with_reducible refine' mtd_partition ?dy ?dz ?_); (case dy => rfl); (case dz => kspl_open x_len)) | ((with_reducible refine' mtd_append ?dm ?dp ?dl ?_); (case dm => kspl_open x_nm); (case dp => kspl_open x_nm); (case dl => kspl_open x_len2)))
local macro_rules | `(tactic| kspl_open x_call) => `(tactic| ((with_reducible refine' de_call ?dc ?dG ?dj ?da ?dg ?dd ?de ?dp); (case dc => kspl_open x_ctx); (case dG => assumption); (case dj => decide); (case dg => rfl); (case dd => decide); (case de => rfl); (case dp => rfl); (case' da => skip)))
local macro_rules | `(tactic| kspl_open x_e) => `(tactic| first | kspl_open x_e1 | kspl_open x_name | kspl_open x_arg | kspl_open x_cmp | kspl_open x_op | kspl_open x_ixl | kspl_open x_mul | kspl_open x_txt | kspl_open x_bcall | kspl_open x_tcall | kspl_open x_meth | kspl_open x_ty | kspl_open x_mt | kspl_open x_meth0 | kspl_open x_call | kspl_open x_kw0 | kspl_open x_glob | kspl_open x_chain | kspl_open x_truth)
local macro_rules | `(tactic| kspl_open x_one) => `(tactic| repeat (first | kspl_open x_e | kspl_open x_s | kspl_open x_put | kspl_open x_ex))
local macro_rules | `(tactic| kspl_open x_go) => `(tactic| repeat (first | kspl_open x_e | kspl_open x_s | kspl_open x_put | kspl_open x_ex | (with_reducible refine dss_cons ?_) | (with_reducible refine dss_nil ?_)))
local macro_rules | `(tactic| kspl_open x_br) => `(tactic| first | with_reducible refine br_dec ?_ ?_ | with_reducible refine br_nec ?_ ?_ | with_reducible refine br_nb ?_ ?_ | with_reducible refine br_bl ?_ ?_)
local macro_rules | `(tactic| kspl_open x_in) => `(tactic| ((simp only [startD, List.map_cons, List.map_nil, List.length_cons, List.length_nil, List.cons_append, List.nil_append, List.replicate, Nat.reduceAdd, Nat.reduceSub]); (refine dss_cons ?_)))
local macro_rules | `(tactic| kspl_open x_lst) => `(tactic| (refine de_lst ?_; kspl_open x_go))
local macro_rules | `(tactic| kspl_open x_emp) => `(tactic| (refine de_lst ?_; kspl_open x_go; (with_reducible first | (refine' opd_neNil ?dc ?dl ?_; (case dc => kspl_open x_ctx); (case dl => kspl_open x_ls)) | (refine' opd_eqNil ?dc ?dl ?_; (case dc => kspl_open x_ctx); (case dl => kspl_open x_ls)))))
local macro_rules | `(tactic| kspl_open x_for) => `(tactic| ((with_reducible refine' ds_for ?dc ?dh ?dx ?ds); (case dc => kspl_open x_ctx); (case dh => assumption); (case ds => intro _; rfl); (case' dx => skip)))
local macro_rules | `(tactic| kspl_open x_rng) => `(tactic| first | ((with_reducible refine' dit_range1 ?dm ?da ?dg ?ds ?d1); (case dm => assumption); (case dg => rfl); (case ds => rfl); (case d1 => rfl); (case' da => skip)) | ((with_reducible refine' dit_range2 ?dm ?da ?dg ?ds ?d1 ?d2 ?d3); (case dm => assumption); (case dg => rfl); (case ds => rfl); (case d1 => rfl); (case d2 => rfl); (case d3 => rfl); (case' da => skip)))
local macro_rules | `(tactic| kspl_open x_rep) => `(tactic| ((with_reducible refine' det_repl ?da ?dy ?dz ?db ?dl ?df ?ds); (case dy => decide +kernel); (case dz => decide +kernel); (case db => rfl); (case dl => rfl); (case df => rfl); (case ds => rfl); (case' da => skip)))
local macro_rules | `(tactic| kspl_open x_dat) => `(tactic| ((with_reducible refine' dat_cons ?da ?db); (case db => rfl); (case' da => skip)))
local macro_rules | `(tactic| kspl_open x_t) => `(tactic| repeat (first | (with_reducible refine dat_nil ?_) | kspl_open x_dat | kspl_open x_rep | (with_reducible refine DE.t ?_) | kspl_open x_e | kspl_open x_ex))
local macro_rules | `(tactic| kspl_open x_kw0) => `(tactic| ((with_reducible refine' de_callKw0 ?dc ?dG ?dB ?dj ?da ?dg ?dd ?d1 ?d2 ?d3); (case dc => kspl_open x_ctx); (case dG => assumption); (case dB => assumption); (case dj => decide); (case dg => rfl); (case dd => decide); (case d1 => rfl); (case d2 => rfl); (case d3 => rfl); (case' da => skip)))
local macro_rules | `(tactic| kspl_open x_callG) => `(tactic| ((with_reducible refine' de_callG ?dc ?dh ?dG ?dj ?da ?dg ?dd ?de ?dp); (case dc => kspl_open x_ctx); (case dh => assumption); (case dG => assumption); (case dj => decide); (case dg => rfl); (case dd => decide); (case de => rfl); (case dp => rfl); (case' da => skip)))

section
open PySem PySem.Spec PyProof.Rows L2 DL Lb
/-- what is known of an error's class -/
structure Fl (K : PySem.W.Frag) (q : Ad) (C : Addr) (i : Int) : Prop where
  te : ExcC K C
  xf : XfC K C
  nv : PySem.W.findIn K (.ref C) "value" = some none
  k0 : PySem.W.kitOne K (.ref C) (.ref q.row) = some (decide (i = 0))
  k1 : PySem.W.kitOne K (.ref C) (.ref q.number) = some (decide (i = 1))
  k2 : PySem.W.kitOne K (.ref C) (.ref q.value) = some (decide (i = 2))
  k3 : PySem.W.kitOne K (.ref C) (.ref q.stretch) = some (decide (i = 3))
  k4 : PySem.W.kitOne K (.ref C) (.ref q.seen) = some (decide (i = 4))
  any : PySem.W.kitAny K (.ref C) ([q.prime, q.term, q.nothing, q.far, q.unlike, q.unread].map Value.ref) = some false
  ve : PySem.W.kitOne K (.ref C) (.type "ValueError") = some true
def spFlags (K : PySem.W.Frag) (q : Ad) : PSp := fun a dx C vs ms kd _ => ∃ d i, vs = [.err a dx d] ∧ Fl K q C i ∧ kd (flagsD i d) ms
/-- the classes' names -/
structure ErrN (mg : Str → Option Value) (q : Ad) : Prop where
  row : mg "InvalidRow" = some (.ref q.row)
  number : mg "InvalidNumber" = some (.ref q.number)
  value : mg "InvalidValue" = some (.ref q.value)
  stretch : mg "InvalidStretch" = some (.ref q.stretch)
  seen : mg "InvalidSeen" = some (.ref q.seen)
  prime : mg "InvalidPrime" = some (.ref q.prime)
  term : mg "InvalidTerm" = some (.ref q.term)
  nothing : mg "NothingToUndo" = some (.ref q.nothing)
  far : mg "TooFar" = some (.ref q.far)
  unlike : mg "UnlikePrimes" = some (.ref q.unlike)
  unread : mg "Unreadable" = some (.ref q.unread)
section
variable {P : Program} {w : World} {K : PySem.W.Frag} {mg : Str → Option Value} {base : Heap}
set_option maxHeartbeats 4000000 in
theorem ok_flags {q : Ad} {f : Addr} {fd : FuncData} (F : Fun K "_law_flags" "_law_flags" s__law_flags f fd) (gl : mg "_law_flags" = some (.ref f)) (bn : Binds K fd ["e"] []) (misi : mg "isinstance" = none) (mve : mg "ValueError" = none) (En : ErrN mg q)
     : DefAtP P w K mg base 1 "_law_flags" f fd ["e"] (spFlags K q) := by
  refine def_okP F sc__law_flags gl bn (fun a dx C vs ms kd xk h => by obtain ⟨_, _, rfl, _⟩ := h; rfl) fun cdv A outer s H E p dx C U vs ms kd xk h => ?_
  obtain ⟨d, i, rfl, Z, kq⟩ := h
  have hN : (L2H.cxH (L2.CX P w) P w K mg base ["e", "found", "odd"] "_law_flags" (defScope s__law_flags) f cdv A outer s H E p).N = (["e", "found", "odd"] : List Str) := rfl
  kspl_open x_in
  refine ds_setS hN (by decide +kernel) (by kspl_open x_nm) ?_ (Or.inl rfl) rfl (Or.inr rfl)
  refine de_lst ?_
  repeat (first | kspl_open x_e | kspl_open x_ex)
  refine de_glob (d := .adr q.row) (v := .ref q.row) En.row rfl rfl (by decide) (fun _ => rfl) ?_
  repeat (first | kspl_open x_e | kspl_open x_ex)
  refine cad_isErrP U Z.te (cv := .ref q.row) (fun F w r u hu => by cases r; exact hu) Z.k0 ?_
  repeat (first | kspl_open x_e | kspl_open x_ex)
  refine de_glob (d := .adr q.number) (v := .ref q.number) En.number rfl rfl (by decide) (fun _ => rfl) ?_
  repeat (first | kspl_open x_e | kspl_open x_ex)
  refine cad_isErrP U Z.te (cv := .ref q.number) (fun F w r u hu => by cases r; exact hu) Z.k1 ?_
  repeat (first | kspl_open x_e | kspl_open x_ex)
  refine de_glob (d := .adr q.value) (v := .ref q.value) En.value rfl rfl (by decide) (fun _ => rfl) ?_
  repeat (first | kspl_open x_e | kspl_open x_ex)
  refine cad_isErrP U Z.te (cv := .ref q.value) (fun F w r u hu => by cases r; exact hu) Z.k2 ?_
  repeat (first | kspl_open x_e | kspl_open x_ex)
  kspl_open x_put
  refine dss_cons ?_
  refine ds_setS hN (by decide +kernel) (by kspl_open x_nm) ?_ (Or.inl rfl) rfl (Or.inr rfl)
  repeat (first | kspl_open x_e | kspl_open x_ex)
  refine de_lst ?_
  repeat (first | kspl_open x_e | kspl_open x_ex)
  refine de_glob (d := .adr q.stretch) (v := .ref q.stretch) En.stretch rfl rfl (by decide) (fun _ => rfl) ?_
  repeat (first | kspl_open x_e | kspl_open x_ex)
  refine cad_isErrP U Z.te (cv := .ref q.stretch) (fun F w r u hu => by cases r; exact hu) Z.k3 ?_
  repeat (first | kspl_open x_e | kspl_open x_ex)
  refine de_glob (d := .adr q.seen) (v := .ref q.seen) En.seen rfl rfl (by decide) (fun _ => rfl) ?_
  repeat (first | kspl_open x_e | kspl_open x_ex)
  refine cad_isErrP U Z.te (cv := .ref q.seen) (fun F w r u hu => by cases r; exact hu) Z.k4 ?_
  repeat (first | kspl_open x_e | kspl_open x_ex)
  kspl_open x_put
  refine dss_cons ?_
  refine ds_setS hN (by decide +kernel) (by kspl_open x_nm) ?_ (Or.inl rfl) rfl (Or.inr rfl)
  repeat (first | kspl_open x_e | kspl_open x_ex)
  refine de_glob (d := .adr q.prime) (v := .ref q.prime) En.prime rfl rfl (by decide) (fun _ => rfl) ?_
  repeat (first | kspl_open x_e | kspl_open x_ex)
  refine de_glob (d := .adr q.term) (v := .ref q.term) En.term rfl rfl (by decide) (fun _ => rfl) ?_
  repeat (first | kspl_open x_e | kspl_open x_ex)
  refine de_glob (d := .adr q.nothing) (v := .ref q.nothing) En.nothing rfl rfl (by decide) (fun _ => rfl) ?_
  repeat (first | kspl_open x_e | kspl_open x_ex)
  refine de_glob (d := .adr q.far) (v := .ref q.far) En.far rfl rfl (by decide) (fun _ => rfl) ?_
  repeat (first | kspl_open x_e | kspl_open x_ex)
  refine de_glob (d := .adr q.unlike) (v := .ref q.unlike) En.unlike rfl rfl (by decide) (fun _ => rfl) ?_
  repeat (first | kspl_open x_e | kspl_open x_ex)
  refine de_glob (d := .adr q.unread) (v := .ref q.unread) En.unread rfl rfl (by decide) (fun _ => rfl) ?_
  repeat (first | kspl_open x_e | kspl_open x_ex)
  refine cad_isErrT (cs := [q.prime, q.term, q.nothing, q.far, q.unlike, q.unread]) U Z.te Z.any ?_
  repeat (first | kspl_open x_e | kspl_open x_ex)
  kspl_open x_put
  refine dss_cons ?_
  kspl_open x_go
  refine de_lst ?_
  refine da_cons ?_ rfl
  kspl_open x_name
  refine da_cons ?_ rfl
  refine de_or ?_
  kspl_open x_name
  refine trd_bl ?_
  refine br_no' rfl ?_
  refine de_one ?_
  refine de_not ?_
  kspl_open x_bcall
  repeat (first | kspl_open x_e | kspl_open x_ex)
  refine de_tyB rfl mve (T := "ValueError") (by first | exact PyProof.Rows.Boot.«ValueError» | decide +kernel) (by decide) (by decide) ?_
  repeat (first | kspl_open x_e | kspl_open x_ex)
  refine cad_isErrP U Z.te (cv := .type "ValueError") (fun F w r u hu => by cases r; exact hu) Z.ve ?_
  refine ⟨true, rfl, ?_⟩
  repeat (first | kspl_open x_e | kspl_open x_ex)
  refine de_errValP U Z.xf Z.nv ?_ rfl
  repeat (first | kspl_open x_e | kspl_open x_ex)
  refine ⟨_, MLe.refl _ _, ?_⟩
  exact kq
end

end
section
open PySem PySem.Spec PyProof.Rows L2 DL Lb
section
variable {P : Program} {w : World} {K : PySem.W.Frag} {mg : Str → Option Value} {base : Heap}
set_option maxHeartbeats 4000000 in
theorem ok_caught {q : Ad} {k : Nat} {f f2 Cg : Addr} {fd fd2 : FuncData} (F : Fun K "_law_caught" "_law_caught" s__law_caught f fd) (gl : mg "_law_caught" = some (.ref f)) (bn : Binds K fd ["way", "made", "ends_here", "known", "cell"] [])
    (hb : ∀ x ∈ bnames, mg x = none) (hG : ∀ e ∈ gTry q 70, EntOk P w K mg base (k + 1) e) (Tg : mg "GrowthError" = some (.ref Cg)) (Gf : DefAtP P w K mg base 1 "_law_flags" f2 fd2 ["e"] (spFlags K q))
    (hx : ∀ i, (i = 1 ∨ i = 3 ∨ i = 4) → PySem.W.exmOne K (.ref (errC q i)) (.ref Cg) = some true ∧ Fl K q (errC q i) i)
     : DefAtG P w K mg base (k + 2) "_law_caught" f fd ["way", "made", "ends_here", "known", "cell"] (spCaught q 70) := by
  refine def_okG F sc__law_caught gl bn (fun vs ms kd xk h => by obtain ⟨_, _, _, _, _, _, _, _, rfl, _⟩ := h; rfl) fun cdv A outer s H E C gd own vs ms kd xk h => ?_
  obtain ⟨way, p, parts, low, high, ks, cn, cp, rfl, w0, w1, hok, kq⟩ := h
  kspl_open x_in
  refine (ss_all (.par3 5 6 7 .non (.ix (.var 2) (.int 0)) (.ix (.var 2) (.int 1)))).S (N := ["way", "made", "ends_here", "known", "cell", "caught", "one", "two", "e"]) (G := gTry q 70) ⟨C, rfl, gd, EntOk.at hG, hb⟩ ⟨own, fun _ => rfl⟩ (by show ckS nm__law_caught gn__law_caught_try (defScope s__law_caught) _ _ = true; decide +kernel) ?_
  with_reducible conv => whnf
  refine ⟨_, atI_head, ?_⟩
  with_reducible conv => whnf
  refine ⟨_, rfl, ?_⟩
  with_reducible conv => whnf
  refine dss_cons ?_
  refine ds_tryAs (i := 8) C rfl rfl (by kspl_open x_nm) rfl ⟨rfl, by decide, Or.inl Tg⟩ ?_
  intro pn0 xe0 C0 own0
  refine (ss_all ir__law_caught_try).L (N := ["way", "made", "ends_here", "known", "cell", "caught", "one", "two", "e"]) (G := gTry q 70) ⟨C0, rfl, gd, EntOk.at hG, hb⟩ ⟨own0, fun _ => rfl⟩ (by show ckS.ckSs nm__law_caught gn__law_caught_try (defScope s__law_caught) _ _ = true; decide +kernel) ?_
  refine walk__law_caught_try w0 w1 hok (fun he => ?_) (fun i dv he => ?_)
  · rw [he] at kq
    kspl_open x_go
    exact ⟨_, MLe.refl _ _, kq⟩
  · have hi : i = 1 ∨ i = 3 ∨ i = 4 := by
      unfold errK at he
      split at he
      · cases he; exact .inr (.inl rfl)
      · split at he
        · cases he; exact .inr (.inr rfl)
        · split at he
          · cases he; exact .inl rfl
          · cases he
    obtain ⟨te, Z⟩ := hx i hi
    refine ⟨true, te, fun _ a dx oe pn U => ?_, fun h => by cases h⟩
    simp only [List.set]
    have hN := C.names
    refine dss_cons ?_
    refine' ds_setS (i := 5) ?hN ?hd ?hi ?hx (Or.inl ?h1) ?h2 (Or.inr ?h3)
    (case hN => exact hN)
    (case hd => decide +kernel)
    (case hi => kspl_open x_nm)
    (case h1 => rfl)
    (case h2 => rfl)
    (case h3 => rfl)
    refine de_callP Gf (have r := L2H.roomH_of (C.room.mono (show 1 ≤ k + 1 by omega)); ⟨r.dp, r.un⟩) U.pinX ?_ rfl (by decide) rfl rfl
    kspl_open x_go
    refine ⟨_, MLe.refl _ _, dv, i, rfl, Z, ?_⟩
    rw [he] at kq
    refine ⟨_, by kspl_open x_nm, ?_⟩
    refine dss_nil ?_
    simp only [List.set]
    kspl_open x_go
    exact ⟨_, MLe.refl _ _, kq⟩
end

end
section
open PySem PySem.Spec PyProof.Rows L2 DL Tx
section
variable {P : Program} {w : World} {K : PySem.W.Frag} {mg : Str → Option Value} {base : Heap}
set_option maxHeartbeats 4000000 in
theorem ok_draw {f : Addr} {fd : FuncData} (F : Fun K "_law_draw" "_law_draw" s__law_draw f fd) (gl : mg "_law_draw" = some (.ref f)) (bn : Binds K fd ["pool", "many"] []) (mint : mg "int" = none) : DefAt P w K mg base 1 "_law_draw" f fd ["pool", "many"] spDraw := by
  refine def_ok F sc__law_draw gl bn (fun vs ms kd xk h => by obtain ⟨_, _, _, _, rfl, _⟩ := h; rfl) fun cdv A outer s H E C own vs ms kd xk h => ?_
  obtain ⟨p, m, n, ms0, rfl, rfl, hn, m0, m1, q⟩ := h
  simp only [startD, List.map_cons, List.map_nil, List.length_cons, List.length_nil, List.cons_append, List.nil_append, List.replicate, Nat.reduceAdd, Nat.reduceSub]
  refine dss_pool fun a b c ok => ?_
  obtain ⟨a0, b0, b1, c0, c1⟩ := ok
  refine dss_cons ?_
  kspl_open x_go
  refine br_dec (fun hb => ?_) (fun hb => ?_)
  · kspl_open x_go
    refine std_list .z rfl .z ?_
    kspl_open x_go
    exact ⟨_, mle_pool (n := n + 1) ⟨Int.ediv_nonneg a0 (Int.le_of_lt m0), b0, b1, c0, by omega⟩, q _ (Int.emod_nonneg _ (by omega)) (Int.emod_lt_of_pos _ m0)⟩
  · kspl_open x_go
    refine std_list .z rfl .z ?_
    kspl_open x_go
    have h1 : (b + 15485863 * (c + 1)).natAbs < 2 ^ 63 := by omega
    refine opd_pow (powW_of (a := 63) (by decide) h1 (by decide) (by decide)) ?_
    generalize hx : (b + 15485863 * (c + 1)) ^ (3 : Int).toNat = x
    kspl_open x_go
    have h2 : 0 ≤ x % 162259276829213363391578010288127 := Int.emod_nonneg _ (by decide)
    have h3 : x % 162259276829213363391578010288127 < 162259276829213363391578010288127 := Int.emod_lt_of_pos _ (by decide)
    generalize x % 162259276829213363391578010288127 = y at h2 h3 ⊢
    have h4 : (y + 32452843 * (c + 1)).natAbs < 2 ^ 128 := by omega
    refine opd_pow (powW_of (a := 128) (by decide) h4 (by decide) (by decide)) ?_
    generalize (y + 32452843 * (c + 1)) ^ (3 : Int).toNat = z
    kspl_open x_go
    exact ⟨_, mle_pool (n := n + 1) ⟨a0, b0, b1, by omega, by omega⟩, q _ (Int.emod_nonneg _ (by omega)) (Int.emod_lt_of_pos _ m0)⟩
set_option maxHeartbeats 4000000 in
theorem ok_pool {f : Addr} {fd : FuncData} (F : Fun K "_law_pool" "_law_pool" s__law_pool f fd) (gl : mg "_law_pool" = some (.ref f)) (bn : Binds K fd ["script", "spot"] []) (mint : mg "int" = none) (mlen : mg "len" = none) (mmax : mg "max" = none) (mabs : mg "abs" = none) : DefAt P w K mg base 1 "_law_pool" f fd ["script", "spot"] spPool := by
  refine def_ok F sc__law_pool gl bn (fun vs ms kd xk h => by obtain ⟨_, _, rfl, _⟩ := h; rfl) fun cdv A outer s H E C own vs ms kd xk h => ?_
  obtain ⟨ns, i, rfl, i0, i1, q⟩ := h
  kspl_open x_in
  kspl_open x_one
  refine dss_cut (fun ds' ms' => ∃ c : Int, ds' = [some (.scr ns), some (.int i), some (.int c)] ∧ ms' = ms) ?_ ?_
  · kspl_open x_go
    refine br_dec (fun hb => ?_) (fun hb => ?_)
    · kspl_open x_go
      have hi : i.toNat < ns.length := by omega
      refine ixd_scr (n := ns[i.toNat]) ?_ (fun _ _ => rfl) ?_
      · unfold atI ixN
        rw [if_pos i0, if_pos (by omega)]
        exact List.getElem?_eq_getElem hi
      kspl_open x_go
      rfl
    · kspl_open x_go
      rfl
  rintro ds' ms' ⟨c, rfl, rfl⟩
  kspl_open x_go
  refine de_lstM ?_
  kspl_open x_go
  refine opd_pow (powW_of (a := 4) (by decide) (by decide) (by decide) (by decide)) ?_
  kspl_open x_go
  refine fun p => (⟨_, mle_pool (n := 0) ⟨?_, ?_, ?_, by decide, by decide⟩, q p⟩)
  · split <;> omega
  · have := Int.emod_nonneg c (show (2305843009213693951 : Int) ≠ 0 by decide)
    omega
  · have := Int.emod_lt_of_pos c (show (0 : Int) < 2305843009213693951 by decide)
    omega
end

end
end K56
namespace K56
open PySem PySem.Spec PyProof.Rows L2 DL Lb
structure DefH (K : PySem.W.Frag) (mg : Str → Option Value) (x : Str) (st : Stmt) (f : Addr) (fd : FuncData) (ps : List Str) : Prop where
  F : Fun K x x st f fd
  gl : mg x = some (.ref f)
  bn : Binds K fd ps []

theorem ck_plain : ckS.ckSs nm_plain gn_plain (defScope s_plain) ir_plain (defBody s_plain) = true := by decide +kernel
theorem ck_multiplied : ckS.ckSs nm_multiplied gn_multiplied (defScope s_multiplied) ir_multiplied (defBody s_multiplied) = true := by decide +kernel
theorem ck_check_terms : ckS.ckSs nm_check_terms gn_check_terms (defScope s_check_terms) ir_check_terms (defBody s_check_terms) = true := by decide +kernel
theorem ck_check_number : ckS.ckSs nm_check_number gn_check_number (defScope s_check_number) ir_check_number (defBody s_check_number) = true := by decide +kernel
theorem ck_check_stretch : ckS.ckSs nm_check_stretch gn_check_stretch (defScope s_check_stretch) ir_check_stretch (defBody s_check_stretch) = true := by decide +kernel
theorem ck_check_seen : ckS.ckSs nm_check_seen gn_check_seen (defScope s_check_seen) ir_check_seen (defBody s_check_seen) = true := by decide +kernel
theorem ck_check_known : ckS.ckSs nm_check_known gn_check_known (defScope s_check_known) ir_check_known (defBody s_check_known) = true := by decide +kernel
theorem ck_stretch_of : ckS.ckSs nm_stretch_of gn_stretch_of (defScope s_stretch_of) ir_stretch_of (defBody s_stretch_of) = true := by decide +kernel
theorem ck_factors_of : ckS.ckSs nm_factors_of gn_factors_of (defScope s_factors_of) ir_factors_of (defBody s_factors_of) = true := by decide +kernel
theorem ck_lessened : ckS.ckSs nm_lessened gn_lessened (defScope s_lessened) ir_lessened (defBody s_lessened) = true := by decide +kernel
theorem ck_settled : ckS.ckSs nm_settled gn_settled (defScope s_settled) ir_settled (defBody s_settled) = true := by decide +kernel
theorem ck_count_begins : ckS.ckSs nm_count_begins gn_count_begins (defScope s_count_begins) ir_count_begins (defBody s_count_begins) = true := by decide +kernel
theorem ck_first_begin : ckS.ckSs nm_first_begin gn_first_begin (defScope s_first_begin) ir_first_begin (defBody s_first_begin) = true := by decide +kernel
theorem ck_sure_value : ckS.ckSs nm_sure_value gn_sure_value (defScope s_sure_value) ir_sure_value (defBody s_sure_value) = true := by decide +kernel
theorem ck_looks_missing : ckS.ckSs nm_looks_missing gn_looks_missing (defScope s_looks_missing) ir_looks_missing (defBody s_looks_missing) = true := by decide +kernel
theorem ck__law_kind : ckS.ckSs nm__law_kind gn__law_kind (defScope s__law_kind) ir__law_kind (defBody s__law_kind) = true := by decide +kernel
theorem ck__law_made : ckS.ckSs nm__law_made gn__law_made (defScope s__law_made) ir__law_made (defBody s__law_made) = true := by decide +kernel
theorem ck__law_flagged : ckS.ckSs nm__law_flagged gn__law_flagged (defScope s__law_flagged) ir__law_flagged (defBody s__law_flagged) = true := by decide +kernel
theorem ck__law_right : ckS.ckSs nm__law_right gn__law_right (defScope s__law_right) ir__law_right (defBody s__law_right) = true := by decide +kernel
theorem ck_Rule_init : ckS.ckSs nm_Rule_init gn_Rule_init (defScope s_Rule_init) ir_Rule_init (defBody s_Rule_init) = true := by decide +kernel
theorem ck_Rule_prime : ckS.ckSs nm_Rule_prime gn_Rule_prime (defScope s_Rule_prime) ir_Rule_prime (defBody s_Rule_prime) = true := by decide +kernel
theorem ck_law : ckS.ckSs Lb.nm_law [.fn "_law_pool" 2, .fn "_law_right" 1] (defScope s_law) (irLaw 6 6) (defBody s_law) = true := by decide +kernel
set_option maxHeartbeats 4000000 in
theorem chain {P : Program} {w : World} {K : PySem.W.Frag} {mg : Str → Option Value} {base : Heap} {q : Ad} {Cg fi fp pp Dd fI : Addr} {fdi fdp : FuncData} {f_plain : Addr} {fd_plain : FuncData} {f_multiplied : Addr} {fd_multiplied : FuncData} {f_check_terms : Addr} {fd_check_terms : FuncData} {f_check_number : Addr} {fd_check_number : FuncData} {f_check_stretch : Addr} {fd_check_stretch : FuncData} {f_check_seen : Addr} {fd_check_seen : FuncData} {f_check_known : Addr} {fd_check_known : FuncData} {f_stretch_of : Addr} {fd_stretch_of : FuncData} {f_factors_of : Addr} {fd_factors_of : FuncData} {f_lessened : Addr} {fd_lessened : FuncData} {f_settled : Addr} {fd_settled : FuncData} {f_count_begins : Addr} {fd_count_begins : FuncData} {f_first_begin : Addr} {fd_first_begin : FuncData} {f_sure_value : Addr} {fd_sure_value : FuncData} {f_looks_missing : Addr} {fd_looks_missing : FuncData} {f__law_pool : Addr} {fd__law_pool : FuncData} {f__law_draw : Addr} {fd__law_draw : FuncData} {f__law_kind : Addr} {fd__law_kind : FuncData} {f__law_made : Addr} {fd__law_made : FuncData} {f__law_flags : Addr} {fd__law_flags : FuncData} {f__law_flagged : Addr} {fd__law_flagged : FuncData} {f__law_caught : Addr} {fd__law_caught : FuncData} {f__law_right : Addr} {fd__law_right : FuncData} {f_law : Addr} {fd_law : FuncData}
    (D_plain : DefH K mg "plain" s_plain f_plain fd_plain ["cells", "prime"])
    (D_multiplied : DefH K mg "multiplied" s_multiplied f_multiplied fd_multiplied ["one", "other", "prime"])
    (D_check_terms : DefH K mg "check_terms" s_check_terms f_check_terms fd_check_terms ["prime", "terms"])
    (D_check_number : DefH K mg "check_number" s_check_number f_check_number fd_check_number ["number", "least"])
    (D_check_stretch : DefH K mg "check_stretch" s_check_stretch f_check_stretch fd_check_stretch ["low", "high"])
    (D_check_seen : DefH K mg "check_seen" s_check_seen f_check_seen fd_check_seen ["rule", "seen_cells"])
    (D_check_known : DefH K mg "check_known" s_check_known f_check_known fd_check_known ["rule", "low", "high", "seen_cells"])
    (D_stretch_of : DefH K mg "stretch_of" s_stretch_of f_stretch_of fd_stretch_of ["rule", "number", "low", "high"])
    (D_factors_of : DefH K mg "factors_of" s_factors_of f_factors_of fd_factors_of ["rule", "low", "high", "number", "place"])
    (D_lessened : DefH K mg "lessened" s_lessened f_lessened fd_lessened ["line", "other", "factor", "prime"])
    (D_settled : DefH K mg "settled" s_settled f_settled fd_settled ["rule", "low", "high", "seen_cells"])
    (D_count_begins : DefH K mg "count_begins" s_count_begins f_count_begins fd_count_begins ["rule", "low", "high", "seen_cells"])
    (D_first_begin : DefH K mg "first_begin" s_first_begin f_first_begin fd_first_begin ["rule", "low", "high", "seen_cells"])
    (D_sure_value : DefH K mg "sure_value" s_sure_value f_sure_value fd_sure_value ["rule", "low", "high", "seen_cells", "number", "place"])
    (D_looks_missing : DefH K mg "looks_missing" s_looks_missing f_looks_missing fd_looks_missing ["rule", "low", "high", "seen_cells"])
    (D__law_pool : DefH K mg "_law_pool" s__law_pool f__law_pool fd__law_pool ["script", "spot"])
    (D__law_draw : DefH K mg "_law_draw" s__law_draw f__law_draw fd__law_draw ["pool", "many"])
    (D__law_kind : DefH K mg "_law_kind" s__law_kind f__law_kind fd__law_kind ["pool"])
    (D__law_made : DefH K mg "_law_made" s__law_made f__law_made fd__law_made ["kind"])
    (D__law_flags : DefH K mg "_law_flags" s__law_flags f__law_flags fd__law_flags ["e"])
    (D__law_flagged : DefH K mg "_law_flagged" s__law_flagged f__law_flagged fd__law_flagged ["spot", "thing"])
    (D__law_caught : DefH K mg "_law_caught" s__law_caught f__law_caught fd__law_caught ["way", "made", "ends_here", "known", "cell"])
    (D__law_right : DefH K mg "_law_right" s__law_right f__law_right fd__law_right ["pool"])
    (D_law : DefH K mg "law" s_law f_law fd_law ["script"])
    (Fi : Fun K "__init__" "Rule.__init__" s_Rule_init fi fdi) (Bi : Binds K fdi ["self", "prime", "terms"] []) (Fp : Fun K "prime" "Rule.prime" s_Rule_prime fp fdp) (Bp : Binds K fdp ["self"] [])
    (hb : ∀ x ∈ bnames, mg x = none) (hcl : Cls K q.rule) (na : ∀ x ∈ ([("modulus" : Str), "parts", "powers", "lowered"] : List Str), NoAttr K q.rule x) (hpp : PropOf K q.rule "prime" pp fp) (hmk : Mk K q.rule fi) (grl : mg "Rule" = some (.ref q.rule))
    (hP : EntOk P w K mg base 1 (.cst "PRIMES" (.tup [.int 2, .int 3, .int 5]))) (mve : mg "ValueError" = none) (Tg : mg "GrowthError" = some (.ref Cg)) (En : ErrN mg q)
    (T_number : SupTxt P K mg "InvalidNumber" q.number Dd fI) (T_stretch : SupTxt P K mg "InvalidStretch" q.stretch Dd fI) (T_seen : SupTxt P K mg "InvalidSeen" q.seen Dd fI) (T_prime : SupTxt P K mg "InvalidPrime" q.prime Dd fI) (T_term : SupTxt P K mg "InvalidTerm" q.term Dd fI)
    (hx : ∀ i, (i = 1 ∨ i = 3 ∨ i = 4) → PySem.W.exmOne K (.ref (errC q i)) (.ref Cg) = some true ∧ Fl K q (errC q i) i)
    (kw1 : KwI K fd_first_begin 0 ["rule", "low", "high", "seen_cells"] ["seen_cells", "high", "low", "rule"] [3, 2, 1, 0]) (kw2 : KwI K fd_sure_value 0 ["rule", "low", "high", "seen_cells", "number", "place"] ["place", "number", "seen_cells", "high", "low", "rule"] [5, 4, 3, 2, 1, 0]) :
    DefAtG P w K mg base 79 "law" f_law fd_law ["script"] Tx.spLaw := by
  have mnone : ∀ x, x ∈ bnames → mg x = none := hb
  have Gpool := ok_pool (P := P) (w := w) (base := base) D__law_pool.F D__law_pool.gl D__law_pool.bn (hb _ (by decide +kernel)) (hb _ (by decide +kernel)) (hb _ (by decide +kernel)) (hb _ (by decide +kernel))
  have Gdraw := ok_draw (P := P) (w := w) (base := base) D__law_draw.F D__law_draw.gl D__law_draw.bn (hb _ (by decide +kernel))
  have GdV : DefAtG P w K mg base 1 "_law_draw" _ _ ["pool", "many"] (spV 1 rDraw) := Lb.DefAtG.V rDraw_mono (DefAtG.imp (Lb.DefAt.g Gdraw) fun _ _ _ _ h => spDraw_F h)
  have G__law_kind : DefAtG P w K mg base 2 "_law_kind" _ _ _ (spF 20 rKind) := vdef (k := 1) (G := [gDraw]) ir__law_kind D__law_kind.F sc__law_kind D__law_kind.gl D__law_kind.bn rfl ck__law_kind (ent_cons (⟨_, _, _, _, by decide, GdV⟩) (ent_nil)) hb (fun vs ms kd xk h => by obtain ⟨_, _, _, _, rfl, _, _, rfl, _⟩ := h; rfl) fun vs ms kd xk h => walk__law_kind h
  have G_plain : DefAtG P w K mg base 1 "plain" _ _ _ (spPlain) := vdef (k := 0) (G := []) ir_plain D_plain.F sc_plain D_plain.gl D_plain.bn rfl ck_plain (ent_nil) hb (fun vs ms kd xk h => by obtain ⟨_, _, rfl, _⟩ := h; rfl) fun vs ms kd xk h => walk_plain h
  have G_multiplied : DefAtG P w K mg base 2 "multiplied" _ _ _ (spMul) := vdef (k := 1) (G := [gPlain]) ir_multiplied D_multiplied.F sc_multiplied D_multiplied.gl D_multiplied.bn rfl ck_multiplied (ent_cons (⟨_, _, _, _, by decide, G_plain⟩) (ent_nil)) hb (fun vs ms kd xk h => by obtain ⟨_, _, _, rfl, _⟩ := h; rfl) fun vs ms kd xk h => walk_multiplied h
  have G_check_terms : DefAtG P w K mg base 2 "check_terms" _ _ _ (spTerms q.term) := vdef (k := 1) (G := [.er "InvalidTerm" q.term]) ir_check_terms D_check_terms.F sc_check_terms D_check_terms.gl D_check_terms.bn rfl ck_check_terms (ent_cons (⟨⟨_, rfl⟩, _, _, T_term⟩) (ent_nil)) hb (fun vs ms kd xk h => by obtain ⟨_, _, rfl, _⟩ := h; rfl) fun vs ms kd xk h => walk_check_terms h
  have Gi : MethAtG P w K mg base 3 _ _ _ (spRuleInit q) := vdefM (k := 2) (G := gRule q) ir_Rule_init Fi sc_Rule_init Bi rfl ck_Rule_init (ent_cons (hP) (ent_cons (⟨⟨_, rfl⟩, _, _, T_prime⟩) (ent_cons (⟨_, _, _, _, by decide, G_check_terms⟩) (ent_cons (⟨hcl, na _ (by simp)⟩) (ent_cons (⟨hcl, na _ (by simp)⟩) (ent_cons (⟨hcl, na _ (by simp)⟩) (ent_cons (⟨_, _, _, _, by decide, G_multiplied⟩) (ent_cons (⟨hcl, na _ (by simp)⟩) (ent_nil))))))))) hb (fun vs ms kd xk h => by obtain ⟨_, _, _, _, rfl, _⟩ := h; rfl) fun vs ms kd xk h => walk_Rule_init h
  have Gp : MethAtG P w K mg base 1 _ _ _ (spPrime q) := vdefM (k := 0) (G := [.fl q.rule "modulus"]) ir_Rule_prime Fp sc_Rule_prime Bp rfl ck_Rule_prime (ent_cons (⟨hcl, na _ (by simp)⟩) (ent_nil)) hb (fun vs ms kd xk h => by obtain ⟨_, _, rfl, _⟩ := h; rfl) fun vs ms kd xk h => walk_Rule_prime h
  have G_check_number : DefAtG P w K mg base 2 "check_number" _ _ _ (spNumber q) := vdef (k := 1) (G := [.er "InvalidNumber" q.number]) ir_check_number D_check_number.F sc_check_number D_check_number.gl D_check_number.bn rfl ck_check_number (ent_cons (⟨⟨_, rfl⟩, _, _, T_number⟩) (ent_nil)) hb (fun vs ms kd xk h => by obtain ⟨_, _, rfl, _⟩ := h; rfl) fun vs ms kd xk h => walk_check_number h
  have G_check_stretch : DefAtG P w K mg base 2 "check_stretch" _ _ _ (spStretchC q) := vdef (k := 1) (G := [.er "InvalidStretch" q.stretch]) ir_check_stretch D_check_stretch.F sc_check_stretch D_check_stretch.gl D_check_stretch.bn rfl ck_check_stretch (ent_cons (⟨⟨_, rfl⟩, _, _, T_stretch⟩) (ent_nil)) hb (fun vs ms kd xk h => by obtain ⟨_, _, rfl, _⟩ := h; rfl) fun vs ms kd xk h => walk_check_stretch h
  have G_check_seen : DefAtG P w K mg base 3 "check_seen" _ _ _ (spSeenC q) := vdef (k := 2) (G := [.pr q.rule "prime" (spPrime q), .er "InvalidSeen" q.seen]) ir_check_seen D_check_seen.F sc_check_seen D_check_seen.gl D_check_seen.bn rfl ck_check_seen (ent_cons (⟨_, _, _, _, _, _, rfl, by decide, hcl, hpp, Gp⟩) (ent_cons (⟨⟨_, rfl⟩, _, _, T_seen⟩) (ent_nil))) hb (fun vs ms kd xk h => by obtain ⟨_, _, _, rfl, _⟩ := h; rfl) fun vs ms kd xk h => walk_check_seen h
  have G_check_known : DefAtG P w K mg base 4 "check_known" _ _ _ (spKnownC q) := vdef (k := 3) (G := [.fn "check_stretch" 2 (spStretchC q), .fn "check_seen" 2 (spSeenC q)]) ir_check_known D_check_known.F sc_check_known D_check_known.gl D_check_known.bn rfl ck_check_known (ent_cons (⟨_, _, _, _, by decide, G_check_stretch⟩) (ent_cons (⟨_, _, _, _, by decide, G_check_seen⟩) (ent_nil))) hb (fun vs ms kd xk h => by obtain ⟨_, _, _, _, _, rfl, _⟩ := h; rfl) fun vs ms kd xk h => walk_check_known h
  have Gst : ∀ d : Nat, DefAtG P w K mg base (d + 2) "stretch_of" f_stretch_of fd_stretch_of ["rule", "number", "low", "high"] (spStr q d) := by
    intro d
    induction d with
    | zero => exact ⟨⟨fun vs H Q E ⟨_, _, _, _, _, _, _, z, _⟩ => z.elim, fun A outer s H args us vs Q E _ _ _ _ _ ⟨_, _, _, _, _, _, _, z, _⟩ => z.elim⟩, D_stretch_of.gl, D_stretch_of.F.kp, D_stretch_of.bn⟩
    | succ d ih =>
      exact vdef (k := d + 2) (G := gStr q d) ir_stretch_of D_stretch_of.F sc_stretch_of D_stretch_of.gl D_stretch_of.bn rfl ck_stretch_of (ent_cons (⟨_, _, _, _, _, _, rfl, by omega, hcl, hpp, Gp⟩) (ent_cons (⟨hcl, na _ (by simp)⟩) (ent_cons (⟨_, _, _, _, Nat.le_refl _, ih⟩) ent_nil))) hb (fun vs ms kd xk h => by obtain ⟨_, _, _, _, _, rfl, _⟩ := h; rfl) fun vs ms kd xk h => walk_stretch_of h
  have G_factors_of : DefAtG P w K mg base 74 "factors_of" _ _ _ (spFac q 70) := vdef (k := 73) (G := [.fn "stretch_of" 4 (spStr q 71)]) ir_factors_of D_factors_of.F sc_factors_of D_factors_of.gl D_factors_of.bn rfl ck_factors_of (ent_cons (⟨_, _, _, _, by decide, (Gst 71)⟩) (ent_nil)) hb (fun vs ms kd xk h => by obtain ⟨_, _, _, _, _, _, rfl, _⟩ := h; rfl) fun vs ms kd xk h => walk_factors_of h
  have G_lessened : DefAtG P w K mg base 1 "lessened" _ _ _ (spLess) := vdef (k := 0) (G := []) ir_lessened D_lessened.F sc_lessened D_lessened.gl D_lessened.bn rfl ck_lessened (ent_nil) hb (fun vs ms kd xk h => by obtain ⟨_, _, _, _, rfl, _⟩ := h; rfl) fun vs ms kd xk h => walk_lessened h
  have G_settled : DefAtG P w K mg base 75 "settled" _ _ _ (spSet q 70) := vdef (k := 74) (G := gSet q 70) ir_settled D_settled.F sc_settled D_settled.gl D_settled.bn rfl ck_settled (ent_cons (⟨_, _, _, _, _, _, rfl, by decide, hcl, hpp, Gp⟩) (ent_cons (⟨_, _, _, _, by decide, G_factors_of⟩) (ent_cons (⟨_, _, _, _, by decide, G_lessened⟩) (ent_nil)))) hb (fun vs ms kd xk h => by obtain ⟨_, _, _, _, _, rfl, _⟩ := h; rfl) fun vs ms kd xk h => walk_settled h
  have G_count_begins : DefAtG P w K mg base 76 "count_begins" _ _ _ (spAsk q 70 rCount) := vdef (k := 75) (G := [gKn q, gSe q 70, .pr q.rule "prime" (spPrime q)]) ir_count_begins D_count_begins.F sc_count_begins D_count_begins.gl D_count_begins.bn rfl ck_count_begins (ent_cons (⟨_, _, _, _, by decide, G_check_known⟩) (ent_cons (⟨_, _, _, _, by decide, G_settled⟩) (ent_cons (⟨_, _, _, _, _, _, rfl, by decide, hcl, hpp, Gp⟩) (ent_nil)))) hb (fun vs ms kd xk h => by obtain ⟨_, _, _, _, _, rfl, _⟩ := h; rfl) fun vs ms kd xk h => walk_count_begins h
  have G_first_begin : DefAtG P w K mg base 76 "first_begin" _ _ _ (spAsk q 70 rFirst) := vdef (k := 75) (G := [gKn q, gSe q 70]) ir_first_begin D_first_begin.F sc_first_begin D_first_begin.gl D_first_begin.bn rfl ck_first_begin (ent_cons (⟨_, _, _, _, by decide, G_check_known⟩) (ent_cons (⟨_, _, _, _, by decide, G_settled⟩) (ent_nil))) hb (fun vs ms kd xk h => by obtain ⟨_, _, _, _, _, rfl, _⟩ := h; rfl) fun vs ms kd xk h => walk_first_begin h
  have G_looks_missing : DefAtG P w K mg base 76 "looks_missing" _ _ _ (spAsk q 70 rLooks) := vdef (k := 75) (G := [gKn q, gSe q 70]) ir_looks_missing D_looks_missing.F sc_looks_missing D_looks_missing.gl D_looks_missing.bn rfl ck_looks_missing (ent_cons (⟨_, _, _, _, by decide, G_check_known⟩) (ent_cons (⟨_, _, _, _, by decide, G_settled⟩) (ent_nil))) hb (fun vs ms kd xk h => by obtain ⟨_, _, _, _, _, rfl, _⟩ := h; rfl) fun vs ms kd xk h => walk_looks_missing h
  have G_sure_value : DefAtG P w K mg base 76 "sure_value" _ _ _ (spSure q 70) := vdef (k := 75) (G := [gKn q, .fn "check_number" 2 (spNumber q), gSe q 70, .fn "factors_of" 5 (spFac q 70), .fn "lessened" 4 spLess, .pr q.rule "prime" (spPrime q)]) ir_sure_value D_sure_value.F sc_sure_value D_sure_value.gl D_sure_value.bn rfl ck_sure_value (ent_cons (⟨_, _, _, _, by decide, G_check_known⟩) (ent_cons (⟨_, _, _, _, by decide, G_check_number⟩) (ent_cons (⟨_, _, _, _, by decide, G_settled⟩) (ent_cons (⟨_, _, _, _, by decide, G_factors_of⟩) (ent_cons (⟨_, _, _, _, by decide, G_lessened⟩) (ent_cons (⟨_, _, _, _, _, _, rfl, by decide, hcl, hpp, Gp⟩) (ent_nil))))))) hb (fun vs ms kd xk h => by obtain ⟨_, _, _, _, _, _, _, rfl, _⟩ := h; rfl) fun vs ms kd xk h => walk_sure_value h
  have G__law_made : DefAtG P w K mg base 5 "_law_made" _ _ _ (rMadeK q) := vdef (k := 4) (G := [.cls "Rule" q.rule 2 (spRuleInit q)]) ir__law_made D__law_made.F sc__law_made D__law_made.gl D__law_made.bn rfl ck__law_made (ent_cons (⟨_, _, _, _, _, rfl, by decide, grl, hmk, Gi⟩) (ent_nil)) hb (fun vs ms kd xk h => by obtain ⟨_, _, rfl, _⟩ := h; rfl) fun vs ms kd xk h => walk__law_made h
  have G__law_flagged : DefAtG P w K mg base 1 "_law_flagged" _ _ _ (spFlagged) := vdef (k := 0) (G := []) ir__law_flagged D__law_flagged.F sc__law_flagged D__law_flagged.gl D__law_flagged.bn rfl ck__law_flagged (ent_nil) hb (fun vs ms kd xk h => by obtain ⟨_, _, rfl, _⟩ := h; rfl) fun vs ms kd xk h => walk__law_flagged h
  have Gfl := ok_flags (P := P) (w := w) (base := base) (q := q) D__law_flags.F D__law_flags.gl D__law_flags.bn (hb _ (by decide +kernel)) mve En
  have Gca := ok_caught (P := P) (w := w) (base := base) (k := 75) D__law_caught.F D__law_caught.gl D__law_caught.bn hb (ent_cons (⟨_, _, _, _, by decide, G_count_begins⟩) (ent_cons (⟨76, by decide, _, _, _, _, _, G_first_begin, fun _ _ _ _ h => h, kw1⟩) (ent_cons (⟨_, _, _, _, by decide, G_looks_missing⟩) (ent_cons (⟨_, _, _, _, by decide, G_sure_value⟩) (ent_cons (⟨76, by decide, _, _, _, _, _, G_sure_value, fun _ _ _ _ h => h, kw2⟩) (ent_nil)))))) Tg Gfl hx
  have G__law_right : DefAtG P w K mg base 78 "_law_right" _ _ _ (spF 60 rRight) := vdef (k := 77) (G := gRight56 q) ir__law_right D__law_right.F sc__law_right D__law_right.gl D__law_right.bn rfl ck__law_right (ent_cons (⟨_, _, _, _, by decide, (Lb.DefAtG.V rKind_mono G__law_kind)⟩) (ent_cons (⟨_, _, _, _, by decide, GdV⟩) (ent_cons (⟨_, _, _, _, by decide, G__law_flagged⟩) (ent_cons (⟨_, _, _, _, by decide, Gca⟩) (ent_cons (⟨_, _, _, _, by decide, G__law_made⟩) (ent_nil)))))) hb (fun vs ms kd xk h => by obtain ⟨_, _, _, _, rfl, _, _, rfl, _⟩ := h; rfl) fun vs ms kd xk h => walk__law_right h
  exact vdef (k := 78) (G := [.fn "_law_pool" 2 Tx.spPool, .fn "_law_right" 1 (spV 60 rRight)]) (irLaw 6 6) D_law.F sc_law D_law.gl D_law.bn rfl ck_law (ent_cons (⟨_, _, _, _, by decide, (Lb.DefAt.g Gpool)⟩) (ent_cons (⟨_, _, _, _, by decide, (Lb.DefAtG.V rRight_mono G__law_right)⟩) (ent_nil))) hb (fun vs ms kd xk h => by obtain ⟨_, rfl, _⟩ := h; rfl) fun vs ms kd xk h => walk_law (a := 6) (b := 6) (by decide) (by decide) (by decide) h
end K56

namespace K56
open PySem PySem.Spec PyProof.Rows L2 DL Lb
theorem kitAny_no {K : PySem.W.Frag} {C a b c d e f : Addr} (h : PySem.W.kitOne K (.ref C) (.ref a) = some false ∧ PySem.W.kitOne K (.ref C) (.ref b) = some false ∧ PySem.W.kitOne K (.ref C) (.ref c) = some false ∧ PySem.W.kitOne K (.ref C) (.ref d) = some false ∧ PySem.W.kitOne K (.ref C) (.ref e) = some false ∧ PySem.W.kitOne K (.ref C) (.ref f) = some false) : PySem.W.kitAny K (.ref C) ([a, b, c, d, e, f].map Value.ref) = some false := by
  obtain ⟨h1, h2, h3, h4, h5, h6⟩ := h
  simp only [List.map_cons, List.map_nil, PySem.W.kitAny, h1, h2, h3, h4, h5, h6]
theorem exm_to {K : PySem.W.Frag} {S T : Addr} (h1 : PySem.W.subIn K (.ref S) (.type "BaseException") = some true) (h2 : PySem.W.hasDictIn K S = true) (h3 : PySem.W.typeIn K (.ref S) = some (.type "type")) (h4 : PySem.W.subIn K (.ref T) (.ref S) = some true) : PySem.W.exmOne K (.ref T) (.ref S) = some true := by
  first
  | exact PySem.W.exm_ref h1 h2 h3 h4
  | exact L2.exm_ref h1 h2 h3 h4
  | exact L2.DX.exm_ref h1 h2 h3 h4
  | (open PySem.W in exact exm_ref h1 h2 h3 h4)
theorem kw_i4 {K : PySem.W.Frag} {f : Addr} {fd : FuncData} (F : Fun K "first_begin" "first_begin" s_first_begin f fd) : KwI K fd 0 ["rule", "low", "high", "seen_cells"] ["seen_cells", "high", "low", "rule"] [3, 2, 1, 0] := by
  obtain ⟨oc, od, kV, doc, pm, an, cdv, ct, osl, rfl, lk, hcd⟩ := F.ex
  intro s us ws _ h1 h2
  match us, ws, h1, h2 with
  | [], [a, b, c, d], _, _ => exact .of_eq rfl
theorem kw_i6 {K : PySem.W.Frag} {f : Addr} {fd : FuncData} (F : Fun K "sure_value" "sure_value" s_sure_value f fd) : KwI K fd 0 ["rule", "low", "high", "seen_cells", "number", "place"] ["place", "number", "seen_cells", "high", "low", "rule"] [5, 4, 3, 2, 1, 0] := by
  obtain ⟨oc, od, kV, doc, pm, an, cdv, ct, osl, rfl, lk, hcd⟩ := F.ex
  intro s us ws _ h1 h2
  match us, ws, h1, h2 with
  | [], [a, b, c, d, e, f], _, _ => exact .of_eq rfl
section
set_option maxHeartbeats 8000000 in
theorem all_mk {l : PySem.W.OpenLaw} {w : World} {K : PySem.W.Frag} {h : Heap} {mg : Str → Option Value} {fa f0 f1 f2 f3 f4 f5 f6 f7 f8 f9 f10 f11 f12 f13 f14 f15 f16 f17 f18 f19 f20 f21 f22 f23 : Addr} (X : K.In h) (G : h.Ns mainGlobals mg) (hfa : mg "law" = some (.ref fa))
    {od0 an0 od1 an1 od2 an2 od3 an3 od4 an4 od5 an5 od6 an6 od7 an7 od8 an8 od9 an9 od10 an10 od11 an11 od12 an12 od13 an13 od14 an14 od15 an15 od16 an16 od17 an17 od18 an18 od19 an19 od20 an20 od21 an21 od22 an22 od23 an23 : Option Addr} {sl0 sl1 sl2 sl3 sl4 sl5 sl6 sl7 sl8 sl9 sl10 sl11 sl12 sl13 sl14 sl15 sl16 sl17 sl18 sl19 sl20 sl21 sl22 sl23 : Array (Option Value)} {oc0 kV0 dc0 pm0 cd0 ct0 oc1 kV1 dc1 pm1 cd1 ct1 oc2 kV2 dc2 pm2 cd2 ct2 oc3 kV3 dc3 pm3 cd3 ct3 oc4 kV4 dc4 pm4 cd4 ct4 oc5 kV5 dc5 pm5 cd5 ct5 oc6 kV6 dc6 pm6 cd6 ct6 oc7 kV7 dc7 pm7 cd7 ct7 oc8 kV8 dc8 pm8 cd8 ct8 oc9 kV9 dc9 pm9 cd9 ct9 oc10 kV10 dc10 pm10 cd10 ct10 oc11 kV11 dc11 pm11 cd11 ct11 oc12 kV12 dc12 pm12 cd12 ct12 oc13 kV13 dc13 pm13 cd13 ct13 oc14 kV14 dc14 pm14 cd14 ct14 oc15 kV15 dc15 pm15 cd15 ct15 oc16 kV16 dc16 pm16 cd16 ct16 oc17 kV17 dc17 pm17 cd17 ct17 oc18 kV18 dc18 pm18 cd18 ct18 oc19 kV19 dc19 pm19 cd19 ct19 oc20 kV20 dc20 pm20 cd20 ct20 oc21 kV21 dc21 pm21 cd21 ct21 oc22 kV22 dc22 pm22 cd22 ct22 oc23 kV23 dc23 pm23 cd23 ct23 : Value}
    
    (a0 : PySem.W.nsIn K mainGlobals "plain" = some (some (.ref f0))) (l0 : K.lookup f0 = some ⟨oc0, od0, .func (PySem.W.fnOf "plain" "plain" (defArgs s_plain) (defBody s_plain) (defScope s_plain) .none kV0 dc0 pm0 an0 cd0 ct0), sl0⟩) (c0 : PySem.W.codeIn K cd0 "plain" = true) (k0 : PySem.W.keepIn K (.ref f0) = true)
    (a1 : PySem.W.nsIn K mainGlobals "multiplied" = some (some (.ref f1))) (l1 : K.lookup f1 = some ⟨oc1, od1, .func (PySem.W.fnOf "multiplied" "multiplied" (defArgs s_multiplied) (defBody s_multiplied) (defScope s_multiplied) .none kV1 dc1 pm1 an1 cd1 ct1), sl1⟩) (c1 : PySem.W.codeIn K cd1 "multiplied" = true) (k1 : PySem.W.keepIn K (.ref f1) = true)
    (a2 : PySem.W.nsIn K mainGlobals "check_terms" = some (some (.ref f2))) (l2 : K.lookup f2 = some ⟨oc2, od2, .func (PySem.W.fnOf "check_terms" "check_terms" (defArgs s_check_terms) (defBody s_check_terms) (defScope s_check_terms) .none kV2 dc2 pm2 an2 cd2 ct2), sl2⟩) (c2 : PySem.W.codeIn K cd2 "check_terms" = true) (k2 : PySem.W.keepIn K (.ref f2) = true)
    (a3 : PySem.W.nsIn K mainGlobals "check_number" = some (some (.ref f3))) (l3 : K.lookup f3 = some ⟨oc3, od3, .func (PySem.W.fnOf "check_number" "check_number" (defArgs s_check_number) (defBody s_check_number) (defScope s_check_number) .none kV3 dc3 pm3 an3 cd3 ct3), sl3⟩) (c3 : PySem.W.codeIn K cd3 "check_number" = true) (k3 : PySem.W.keepIn K (.ref f3) = true)
    (a4 : PySem.W.nsIn K mainGlobals "check_stretch" = some (some (.ref f4))) (l4 : K.lookup f4 = some ⟨oc4, od4, .func (PySem.W.fnOf "check_stretch" "check_stretch" (defArgs s_check_stretch) (defBody s_check_stretch) (defScope s_check_stretch) .none kV4 dc4 pm4 an4 cd4 ct4), sl4⟩) (c4 : PySem.W.codeIn K cd4 "check_stretch" = true) (k4 : PySem.W.keepIn K (.ref f4) = true)
    (a5 : PySem.W.nsIn K mainGlobals "check_seen" = some (some (.ref f5))) (l5 : K.lookup f5 = some ⟨oc5, od5, .func (PySem.W.fnOf "check_seen" "check_seen" (defArgs s_check_seen) (defBody s_check_seen) (defScope s_check_seen) .none kV5 dc5 pm5 an5 cd5 ct5), sl5⟩) (c5 : PySem.W.codeIn K cd5 "check_seen" = true) (k5 : PySem.W.keepIn K (.ref f5) = true)
    (a6 : PySem.W.nsIn K mainGlobals "check_known" = some (some (.ref f6))) (l6 : K.lookup f6 = some ⟨oc6, od6, .func (PySem.W.fnOf "check_known" "check_known" (defArgs s_check_known) (defBody s_check_known) (defScope s_check_known) .none kV6 dc6 pm6 an6 cd6 ct6), sl6⟩) (c6 : PySem.W.codeIn K cd6 "check_known" = true) (k6 : PySem.W.keepIn K (.ref f6) = true)
    (a7 : PySem.W.nsIn K mainGlobals "stretch_of" = some (some (.ref f7))) (l7 : K.lookup f7 = some ⟨oc7, od7, .func (PySem.W.fnOf "stretch_of" "stretch_of" (defArgs s_stretch_of) (defBody s_stretch_of) (defScope s_stretch_of) .none kV7 dc7 pm7 an7 cd7 ct7), sl7⟩) (c7 : PySem.W.codeIn K cd7 "stretch_of" = true) (k7 : PySem.W.keepIn K (.ref f7) = true)
    (a8 : PySem.W.nsIn K mainGlobals "factors_of" = some (some (.ref f8))) (l8 : K.lookup f8 = some ⟨oc8, od8, .func (PySem.W.fnOf "factors_of" "factors_of" (defArgs s_factors_of) (defBody s_factors_of) (defScope s_factors_of) .none kV8 dc8 pm8 an8 cd8 ct8), sl8⟩) (c8 : PySem.W.codeIn K cd8 "factors_of" = true) (k8 : PySem.W.keepIn K (.ref f8) = true)
    (a9 : PySem.W.nsIn K mainGlobals "lessened" = some (some (.ref f9))) (l9 : K.lookup f9 = some ⟨oc9, od9, .func (PySem.W.fnOf "lessened" "lessened" (defArgs s_lessened) (defBody s_lessened) (defScope s_lessened) .none kV9 dc9 pm9 an9 cd9 ct9), sl9⟩) (c9 : PySem.W.codeIn K cd9 "lessened" = true) (k9 : PySem.W.keepIn K (.ref f9) = true)
    (a10 : PySem.W.nsIn K mainGlobals "settled" = some (some (.ref f10))) (l10 : K.lookup f10 = some ⟨oc10, od10, .func (PySem.W.fnOf "settled" "settled" (defArgs s_settled) (defBody s_settled) (defScope s_settled) .none kV10 dc10 pm10 an10 cd10 ct10), sl10⟩) (c10 : PySem.W.codeIn K cd10 "settled" = true) (k10 : PySem.W.keepIn K (.ref f10) = true)
    (a11 : PySem.W.nsIn K mainGlobals "count_begins" = some (some (.ref f11))) (l11 : K.lookup f11 = some ⟨oc11, od11, .func (PySem.W.fnOf "count_begins" "count_begins" (defArgs s_count_begins) (defBody s_count_begins) (defScope s_count_begins) .none kV11 dc11 pm11 an11 cd11 ct11), sl11⟩) (c11 : PySem.W.codeIn K cd11 "count_begins" = true) (k11 : PySem.W.keepIn K (.ref f11) = true)
    (a12 : PySem.W.nsIn K mainGlobals "first_begin" = some (some (.ref f12))) (l12 : K.lookup f12 = some ⟨oc12, od12, .func (PySem.W.fnOf "first_begin" "first_begin" (defArgs s_first_begin) (defBody s_first_begin) (defScope s_first_begin) .none kV12 dc12 pm12 an12 cd12 ct12), sl12⟩) (c12 : PySem.W.codeIn K cd12 "first_begin" = true) (k12 : PySem.W.keepIn K (.ref f12) = true)
    (a13 : PySem.W.nsIn K mainGlobals "sure_value" = some (some (.ref f13))) (l13 : K.lookup f13 = some ⟨oc13, od13, .func (PySem.W.fnOf "sure_value" "sure_value" (defArgs s_sure_value) (defBody s_sure_value) (defScope s_sure_value) .none kV13 dc13 pm13 an13 cd13 ct13), sl13⟩) (c13 : PySem.W.codeIn K cd13 "sure_value" = true) (k13 : PySem.W.keepIn K (.ref f13) = true)
    (a14 : PySem.W.nsIn K mainGlobals "looks_missing" = some (some (.ref f14))) (l14 : K.lookup f14 = some ⟨oc14, od14, .func (PySem.W.fnOf "looks_missing" "looks_missing" (defArgs s_looks_missing) (defBody s_looks_missing) (defScope s_looks_missing) .none kV14 dc14 pm14 an14 cd14 ct14), sl14⟩) (c14 : PySem.W.codeIn K cd14 "looks_missing" = true) (k14 : PySem.W.keepIn K (.ref f14) = true)
    (a15 : PySem.W.nsIn K mainGlobals "_law_pool" = some (some (.ref f15))) (l15 : K.lookup f15 = some ⟨oc15, od15, .func (PySem.W.fnOf "_law_pool" "_law_pool" (defArgs s__law_pool) (defBody s__law_pool) (defScope s__law_pool) .none kV15 dc15 pm15 an15 cd15 ct15), sl15⟩) (c15 : PySem.W.codeIn K cd15 "_law_pool" = true) (k15 : PySem.W.keepIn K (.ref f15) = true)
    (a16 : PySem.W.nsIn K mainGlobals "_law_draw" = some (some (.ref f16))) (l16 : K.lookup f16 = some ⟨oc16, od16, .func (PySem.W.fnOf "_law_draw" "_law_draw" (defArgs s__law_draw) (defBody s__law_draw) (defScope s__law_draw) .none kV16 dc16 pm16 an16 cd16 ct16), sl16⟩) (c16 : PySem.W.codeIn K cd16 "_law_draw" = true) (k16 : PySem.W.keepIn K (.ref f16) = true)
    (a17 : PySem.W.nsIn K mainGlobals "_law_kind" = some (some (.ref f17))) (l17 : K.lookup f17 = some ⟨oc17, od17, .func (PySem.W.fnOf "_law_kind" "_law_kind" (defArgs s__law_kind) (defBody s__law_kind) (defScope s__law_kind) .none kV17 dc17 pm17 an17 cd17 ct17), sl17⟩) (c17 : PySem.W.codeIn K cd17 "_law_kind" = true) (k17 : PySem.W.keepIn K (.ref f17) = true)
    (a18 : PySem.W.nsIn K mainGlobals "_law_made" = some (some (.ref f18))) (l18 : K.lookup f18 = some ⟨oc18, od18, .func (PySem.W.fnOf "_law_made" "_law_made" (defArgs s__law_made) (defBody s__law_made) (defScope s__law_made) .none kV18 dc18 pm18 an18 cd18 ct18), sl18⟩) (c18 : PySem.W.codeIn K cd18 "_law_made" = true) (k18 : PySem.W.keepIn K (.ref f18) = true)
    (a19 : PySem.W.nsIn K mainGlobals "_law_flags" = some (some (.ref f19))) (l19 : K.lookup f19 = some ⟨oc19, od19, .func (PySem.W.fnOf "_law_flags" "_law_flags" (defArgs s__law_flags) (defBody s__law_flags) (defScope s__law_flags) .none kV19 dc19 pm19 an19 cd19 ct19), sl19⟩) (c19 : PySem.W.codeIn K cd19 "_law_flags" = true) (k19 : PySem.W.keepIn K (.ref f19) = true)
    (a20 : PySem.W.nsIn K mainGlobals "_law_flagged" = some (some (.ref f20))) (l20 : K.lookup f20 = some ⟨oc20, od20, .func (PySem.W.fnOf "_law_flagged" "_law_flagged" (defArgs s__law_flagged) (defBody s__law_flagged) (defScope s__law_flagged) .none kV20 dc20 pm20 an20 cd20 ct20), sl20⟩) (c20 : PySem.W.codeIn K cd20 "_law_flagged" = true) (k20 : PySem.W.keepIn K (.ref f20) = true)
    (a21 : PySem.W.nsIn K mainGlobals "_law_caught" = some (some (.ref f21))) (l21 : K.lookup f21 = some ⟨oc21, od21, .func (PySem.W.fnOf "_law_caught" "_law_caught" (defArgs s__law_caught) (defBody s__law_caught) (defScope s__law_caught) .none kV21 dc21 pm21 an21 cd21 ct21), sl21⟩) (c21 : PySem.W.codeIn K cd21 "_law_caught" = true) (k21 : PySem.W.keepIn K (.ref f21) = true)
    (a22 : PySem.W.nsIn K mainGlobals "_law_right" = some (some (.ref f22))) (l22 : K.lookup f22 = some ⟨oc22, od22, .func (PySem.W.fnOf "_law_right" "_law_right" (defArgs s__law_right) (defBody s__law_right) (defScope s__law_right) .none kV22 dc22 pm22 an22 cd22 ct22), sl22⟩) (c22 : PySem.W.codeIn K cd22 "_law_right" = true) (k22 : PySem.W.keepIn K (.ref f22) = true)
    (a23 : PySem.W.nsIn K mainGlobals "law" = some (some (.ref f23))) (l23 : K.lookup f23 = some ⟨oc23, od23, .func (PySem.W.fnOf "law" "law" (defArgs s_law) (defBody s_law) (defScope s_law) .none kV23 dc23 pm23 an23 cd23 ct23), sl23⟩) (c23 : PySem.W.codeIn K cd23 "law" = true) (k23 : PySem.W.keepIn K (.ref f23) = true)
    (z0 : PySem.W.nsIn K mainGlobals "len" = some none)
    (z1 : PySem.W.nsIn K mainGlobals "abs" = some none)
    (z2 : PySem.W.nsIn K mainGlobals "max" = some none)
    (z3 : PySem.W.nsIn K mainGlobals "min" = some none)
    (z4 : PySem.W.nsIn K mainGlobals "all" = some none)
    (z5 : PySem.W.nsIn K mainGlobals "any" = some none)
    (z6 : PySem.W.nsIn K mainGlobals "sum" = some none)
    (z7 : PySem.W.nsIn K mainGlobals "int" = some none)
    (z8 : PySem.W.nsIn K mainGlobals "str" = some none)
    (z9 : PySem.W.nsIn K mainGlobals "list" = some none)
    (z10 : PySem.W.nsIn K mainGlobals "tuple" = some none)
    (z11 : PySem.W.nsIn K mainGlobals "sorted" = some none)
    (z12 : PySem.W.nsIn K mainGlobals "range" = some none)
    (z13 : PySem.W.nsIn K mainGlobals "enumerate" = some none)
    (z14 : PySem.W.nsIn K mainGlobals "zip" = some none)
    (z15 : PySem.W.nsIn K mainGlobals "dict" = some none)
    (z16 : PySem.W.nsIn K mainGlobals "isinstance" = some none)
    (z17 : PySem.W.nsIn K mainGlobals "repr" = some none)
    (z18 : PySem.W.nsIn K mainGlobals "set" = some none)
    (z19 : PySem.W.nsIn K mainGlobals "super" = some none)
    (z20 : PySem.W.nsIn K mainGlobals "ValueError" = some none)
     {RC fi fp pp Dg fI cda cc PT : Addr} {rest : List Value} {oci kVi dci pmi cdi cti ocp kVp dcp pmp cdp ctp ocI kVI dcI pmI ctI ccl ccl2 : Value} {odi ani odp anp odI anI cdd cdd2 pdd : Option Addr} {sli slp slI ccs ccs2 psl : Array (Option Value)} {file : Str} {tf p2 p3 p5 : Tok} {cvs : Array Value} {pn : Nat} {C_number N_number : Addr} {nm_number q_number : Str} {bs_number sub_number : List Value} {sn_number : List Str} {ab_number : Bool} {col_number : Option Bool} {dd_number : Option Addr} {m0_number m1_number m2_number m3_number m5_number : Option Value} {C_stretch N_stretch : Addr} {nm_stretch q_stretch : Str} {bs_stretch sub_stretch : List Value} {sn_stretch : List Str} {ab_stretch : Bool} {col_stretch : Option Bool} {dd_stretch : Option Addr} {m0_stretch m1_stretch m2_stretch m3_stretch m5_stretch : Option Value} {C_seen N_seen : Addr} {nm_seen q_seen : Str} {bs_seen sub_seen : List Value} {sn_seen : List Str} {ab_seen : Bool} {col_seen : Option Bool} {dd_seen : Option Addr} {m0_seen m1_seen m2_seen m3_seen m5_seen : Option Value} {C_prime N_prime : Addr} {nm_prime q_prime : Str} {bs_prime sub_prime : List Value} {sn_prime : List Str} {ab_prime : Bool} {col_prime : Option Bool} {dd_prime : Option Addr} {m0_prime m1_prime m2_prime m3_prime m5_prime : Option Value} {C_term N_term : Addr} {nm_term q_term : Str} {bs_term sub_term : List Value} {sn_term : List Str} {ab_term : Bool} {col_term : Option Bool} {dd_term : Option Addr} {m0_term m1_term m2_term m3_term m5_term : Option Value} {C_row : Addr} {C_value : Addr} {C_nothing : Addr} {C_far : Addr} {C_unlike : Addr} {C_unread : Addr}
    (rC : PySem.W.nsIn K mainGlobals "Rule" = some (some (.ref RC)))
    (r1 : PySem.W.plainGet K RC Str.empty = true)
    (r2 : PySem.W.hasDictIn K RC = true)
    (r3 : PySem.W.plainOver K RC = true)
    (r4 : PySem.W.findIn K (.ref RC) "__setattr__" = some (some (.builtin "object.__setattr__")))
    (rf0 : PySem.W.findIn K (.ref RC) "modulus" = some none)
    (rf1 : PySem.W.findIn K (.ref RC) "parts" = some none)
    (rf2 : PySem.W.findIn K (.ref RC) "powers" = some none)
    (rf3 : PySem.W.findIn K (.ref RC) "lowered" = some none)
    (r5 : PySem.W.makesIn K RC = true)
    (r6 : PySem.W.findIn K (.ref RC) "__init__" = some (some (.ref fi)))
    (r7 : PySem.W.isFn K (.ref fi) = true)
    (r8 : PySem.W.keepIn K (.ref RC) = true)
    (r9 : PySem.W.findIn K (.ref RC) "prime" = some (some (.ref pp)))
    (r10 : PySem.W.specialIn K (.ref pp) "__get__" = some (some (.builtin "property.__get__")))
    (r11 : PySem.W.takesIn K (.ref pp) = some true)
    (r12 : PySem.W.recIn K pp "property" = some (.ref fp :: rest))
    (li : K.lookup fi = some ⟨oci, odi, .func (PySem.W.fnOf "__init__" "Rule.__init__" (defArgs s_Rule_init) (defBody s_Rule_init) (defScope s_Rule_init) .none kVi dci pmi ani cdi cti), sli⟩)
    (ci : PySem.W.codeIn K cdi "Rule.__init__" = true)
    (ki : PySem.W.keepIn K (.ref fi) = true)
    (lp : K.lookup fp = some ⟨ocp, odp, .func (PySem.W.fnOf "prime" "Rule.prime" (defArgs s_Rule_prime) (defBody s_Rule_prime) (defScope s_Rule_prime) .none kVp dcp pmp anp cdp ctp), slp⟩)
    (cp : PySem.W.codeIn K cdp "Rule.prime" = true)
    (kp : PySem.W.keepIn K (.ref fp) = true)
    (pC : PySem.W.nsIn K mainGlobals "PRIMES" = some (some (.ref PT)))
    (pL : K.lookup PT = some ⟨.type "tuple", pdd, .seq #[.int 2 p2, .int 3 p3, .int 5 p5] pn, psl⟩)
    (eC_number : PySem.W.nsIn K mainGlobals "InvalidNumber" = some (some (.ref C_number)))
    (eC_stretch : PySem.W.nsIn K mainGlobals "InvalidStretch" = some (some (.ref C_stretch)))
    (eC_seen : PySem.W.nsIn K mainGlobals "InvalidSeen" = some (some (.ref C_seen)))
    (eC_prime : PySem.W.nsIn K mainGlobals "InvalidPrime" = some (some (.ref C_prime)))
    (eC_term : PySem.W.nsIn K mainGlobals "InvalidTerm" = some (some (.ref C_term)))
    (eC_row : PySem.W.nsIn K mainGlobals "InvalidRow" = some (some (.ref C_row)))
    (eC_value : PySem.W.nsIn K mainGlobals "InvalidValue" = some (some (.ref C_value)))
    (eC_nothing : PySem.W.nsIn K mainGlobals "NothingToUndo" = some (some (.ref C_nothing)))
    (eC_far : PySem.W.nsIn K mainGlobals "TooFar" = some (some (.ref C_far)))
    (eC_unlike : PySem.W.nsIn K mainGlobals "UnlikePrimes" = some (some (.ref C_unlike)))
    (eC_unread : PySem.W.nsIn K mainGlobals "Unreadable" = some (some (.ref C_unread)))
    (eG : PySem.W.nsIn K mainGlobals "GrowthError" = some (some (.ref Dg)))
    (eL_number : K.lookup C_number = some (PySem.excClassObj nm_number q_number C_number N_number bs_number [.ref Dg, .type "ValueError", .type "Exception", .type "BaseException", .type "object"] true sn_number sub_number ab_number col_number dd_number m0_number m1_number m2_number m3_number m5_number "ValueError.__new__"))
    (e1_number : PySem.W.findIn K (.ref C_number) "__setattr__" = some (some (.builtin "object.__setattr__")))
    (e2_number : PySem.W.findIn K (.ref C_number) "__getattribute__" = some (some (.builtin "BaseException.__getattribute__")))
    (e3_number : PySem.W.findIn K (.ref C_number) "__getattr__" = some none)
    (e4_number : PySem.W.findIn K (.ref C_number) "value" = some none)
    (e5_number : PySem.W.findIn K (.ref C_number) "__init__" = some (some (.ref fI)))
    (e7_number : PySem.W.keepIn K (.ref C_number) = true)
    (e8_number : PySem.W.subIn K (.ref C_number) (.type "BaseException") = some true)
    (e9_number : PySem.W.typeIn K (.ref C_number) = some (.type "type"))
    (e10_number : PySem.W.hasDictIn K C_number = true)
    (e12_number : PySem.W.mroIn K C_number (.ref Dg) = some true)
    (e13_number : PySem.W.subIn K (.ref C_number) (.type "ValueError") = some true)
    (e14_number : PySem.W.ks_superIn K C_number Dg "__init__" = some (some (.builtin "ValueError.__init__")))
    (e22_number : PySem.W.findIn K (.ref C_number) "__class__" = some (some (.builtin "object.__class__")))
    (e25_number : PySem.W.mroIn K C_number (.type "object") = some true)
    (e26_number : PySem.W.subIn K (.ref C_number) (.ref Dg) = some true)
    (eL_stretch : K.lookup C_stretch = some (PySem.excClassObj nm_stretch q_stretch C_stretch N_stretch bs_stretch [.ref Dg, .type "ValueError", .type "Exception", .type "BaseException", .type "object"] true sn_stretch sub_stretch ab_stretch col_stretch dd_stretch m0_stretch m1_stretch m2_stretch m3_stretch m5_stretch "ValueError.__new__"))
    (e1_stretch : PySem.W.findIn K (.ref C_stretch) "__setattr__" = some (some (.builtin "object.__setattr__")))
    (e2_stretch : PySem.W.findIn K (.ref C_stretch) "__getattribute__" = some (some (.builtin "BaseException.__getattribute__")))
    (e3_stretch : PySem.W.findIn K (.ref C_stretch) "__getattr__" = some none)
    (e4_stretch : PySem.W.findIn K (.ref C_stretch) "value" = some none)
    (e5_stretch : PySem.W.findIn K (.ref C_stretch) "__init__" = some (some (.ref fI)))
    (e7_stretch : PySem.W.keepIn K (.ref C_stretch) = true)
    (e8_stretch : PySem.W.subIn K (.ref C_stretch) (.type "BaseException") = some true)
    (e9_stretch : PySem.W.typeIn K (.ref C_stretch) = some (.type "type"))
    (e10_stretch : PySem.W.hasDictIn K C_stretch = true)
    (e12_stretch : PySem.W.mroIn K C_stretch (.ref Dg) = some true)
    (e13_stretch : PySem.W.subIn K (.ref C_stretch) (.type "ValueError") = some true)
    (e14_stretch : PySem.W.ks_superIn K C_stretch Dg "__init__" = some (some (.builtin "ValueError.__init__")))
    (e22_stretch : PySem.W.findIn K (.ref C_stretch) "__class__" = some (some (.builtin "object.__class__")))
    (e25_stretch : PySem.W.mroIn K C_stretch (.type "object") = some true)
    (e26_stretch : PySem.W.subIn K (.ref C_stretch) (.ref Dg) = some true)
    (eL_seen : K.lookup C_seen = some (PySem.excClassObj nm_seen q_seen C_seen N_seen bs_seen [.ref Dg, .type "ValueError", .type "Exception", .type "BaseException", .type "object"] true sn_seen sub_seen ab_seen col_seen dd_seen m0_seen m1_seen m2_seen m3_seen m5_seen "ValueError.__new__"))
    (e1_seen : PySem.W.findIn K (.ref C_seen) "__setattr__" = some (some (.builtin "object.__setattr__")))
    (e2_seen : PySem.W.findIn K (.ref C_seen) "__getattribute__" = some (some (.builtin "BaseException.__getattribute__")))
    (e3_seen : PySem.W.findIn K (.ref C_seen) "__getattr__" = some none)
    (e4_seen : PySem.W.findIn K (.ref C_seen) "value" = some none)
    (e5_seen : PySem.W.findIn K (.ref C_seen) "__init__" = some (some (.ref fI)))
    (e7_seen : PySem.W.keepIn K (.ref C_seen) = true)
    (e8_seen : PySem.W.subIn K (.ref C_seen) (.type "BaseException") = some true)
    (e9_seen : PySem.W.typeIn K (.ref C_seen) = some (.type "type"))
    (e10_seen : PySem.W.hasDictIn K C_seen = true)
    (e12_seen : PySem.W.mroIn K C_seen (.ref Dg) = some true)
    (e13_seen : PySem.W.subIn K (.ref C_seen) (.type "ValueError") = some true)
    (e14_seen : PySem.W.ks_superIn K C_seen Dg "__init__" = some (some (.builtin "ValueError.__init__")))
    (e22_seen : PySem.W.findIn K (.ref C_seen) "__class__" = some (some (.builtin "object.__class__")))
    (e25_seen : PySem.W.mroIn K C_seen (.type "object") = some true)
    (e26_seen : PySem.W.subIn K (.ref C_seen) (.ref Dg) = some true)
    (eL_prime : K.lookup C_prime = some (PySem.excClassObj nm_prime q_prime C_prime N_prime bs_prime [.ref Dg, .type "ValueError", .type "Exception", .type "BaseException", .type "object"] true sn_prime sub_prime ab_prime col_prime dd_prime m0_prime m1_prime m2_prime m3_prime m5_prime "ValueError.__new__"))
    (e1_prime : PySem.W.findIn K (.ref C_prime) "__setattr__" = some (some (.builtin "object.__setattr__")))
    (e2_prime : PySem.W.findIn K (.ref C_prime) "__getattribute__" = some (some (.builtin "BaseException.__getattribute__")))
    (e3_prime : PySem.W.findIn K (.ref C_prime) "__getattr__" = some none)
    (e4_prime : PySem.W.findIn K (.ref C_prime) "value" = some none)
    (e5_prime : PySem.W.findIn K (.ref C_prime) "__init__" = some (some (.ref fI)))
    (e7_prime : PySem.W.keepIn K (.ref C_prime) = true)
    (e8_prime : PySem.W.subIn K (.ref C_prime) (.type "BaseException") = some true)
    (e9_prime : PySem.W.typeIn K (.ref C_prime) = some (.type "type"))
    (e10_prime : PySem.W.hasDictIn K C_prime = true)
    (e12_prime : PySem.W.mroIn K C_prime (.ref Dg) = some true)
    (e13_prime : PySem.W.subIn K (.ref C_prime) (.type "ValueError") = some true)
    (e14_prime : PySem.W.ks_superIn K C_prime Dg "__init__" = some (some (.builtin "ValueError.__init__")))
    (e22_prime : PySem.W.findIn K (.ref C_prime) "__class__" = some (some (.builtin "object.__class__")))
    (e25_prime : PySem.W.mroIn K C_prime (.type "object") = some true)
    (e26_prime : PySem.W.subIn K (.ref C_prime) (.ref Dg) = some true)
    (eL_term : K.lookup C_term = some (PySem.excClassObj nm_term q_term C_term N_term bs_term [.ref Dg, .type "ValueError", .type "Exception", .type "BaseException", .type "object"] true sn_term sub_term ab_term col_term dd_term m0_term m1_term m2_term m3_term m5_term "ValueError.__new__"))
    (e1_term : PySem.W.findIn K (.ref C_term) "__setattr__" = some (some (.builtin "object.__setattr__")))
    (e2_term : PySem.W.findIn K (.ref C_term) "__getattribute__" = some (some (.builtin "BaseException.__getattribute__")))
    (e3_term : PySem.W.findIn K (.ref C_term) "__getattr__" = some none)
    (e4_term : PySem.W.findIn K (.ref C_term) "value" = some none)
    (e5_term : PySem.W.findIn K (.ref C_term) "__init__" = some (some (.ref fI)))
    (e7_term : PySem.W.keepIn K (.ref C_term) = true)
    (e8_term : PySem.W.subIn K (.ref C_term) (.type "BaseException") = some true)
    (e9_term : PySem.W.typeIn K (.ref C_term) = some (.type "type"))
    (e10_term : PySem.W.hasDictIn K C_term = true)
    (e12_term : PySem.W.mroIn K C_term (.ref Dg) = some true)
    (e13_term : PySem.W.subIn K (.ref C_term) (.type "ValueError") = some true)
    (e14_term : PySem.W.ks_superIn K C_term Dg "__init__" = some (some (.builtin "ValueError.__init__")))
    (e22_term : PySem.W.findIn K (.ref C_term) "__class__" = some (some (.builtin "object.__class__")))
    (e25_term : PySem.W.mroIn K C_term (.type "object") = some true)
    (e26_term : PySem.W.subIn K (.ref C_term) (.ref Dg) = some true)
    (e6 : PySem.W.typeIn K (.ref fI) = some (.type "function"))
    (e11 : PySem.W.isClsIn K Dg = true)
    (e15 : PySem.W.nsIn K cStatics "thirdparty.any" = some none)
    (e16 : K.lookup fI = some ⟨ocI, odI, .func (PySem.W.ksFn "__init__" "GrowthError.__init__" (defArgs s_GrowthError_init) (defBody s_GrowthError_init) (defScope s_GrowthError_init) .none kVI dcI pmI anI (.ref cda) ctI cc), slI⟩)
    (e17 : PySem.W.codeIn K (.ref cda) "GrowthError.__init__" = true)
    (e18 : K.lookup cda = some ⟨ccl, cdd, .fields cvs, ccs⟩)
    (e19 : cvs[2]? = some (.str file tf))
    (e20 : ((l.prog.main.file : Str) == file) = true)
    (e21 : K.lookup cc = some ⟨ccl2, cdd2, .cell (some (.ref Dg)), ccs2⟩)
    (e23 : PySem.W.specialIn K (.builtin "object.__class__") "__get__" = some (some (.builtin "getset_descriptor.__get__")))
    (e24 : PySem.W.takesIn K (.builtin "object.__class__") = some true)
    (e27 : (l.prog.main.scope.names.lookup ("super" : Str)).isSome = false)
    (g8 : PySem.W.subIn K (.ref Dg) (.type "BaseException") = some true)
    (g9 : PySem.W.typeIn K (.ref Dg) = some (.type "type"))
    (g10 : PySem.W.hasDictIn K Dg = true)
    (j_number_row : PySem.W.kitOne K (.ref C_number) (.ref C_row) = some false)
    (j_number_number : PySem.W.kitOne K (.ref C_number) (.ref C_number) = some true)
    (j_number_value : PySem.W.kitOne K (.ref C_number) (.ref C_value) = some false)
    (j_number_stretch : PySem.W.kitOne K (.ref C_number) (.ref C_stretch) = some false)
    (j_number_seen : PySem.W.kitOne K (.ref C_number) (.ref C_seen) = some false)
    (j_number_prime : PySem.W.kitOne K (.ref C_number) (.ref C_prime) = some false)
    (j_number_term : PySem.W.kitOne K (.ref C_number) (.ref C_term) = some false)
    (j_number_nothing : PySem.W.kitOne K (.ref C_number) (.ref C_nothing) = some false)
    (j_number_far : PySem.W.kitOne K (.ref C_number) (.ref C_far) = some false)
    (j_number_unlike : PySem.W.kitOne K (.ref C_number) (.ref C_unlike) = some false)
    (j_number_unread : PySem.W.kitOne K (.ref C_number) (.ref C_unread) = some false)
    (jv_number : PySem.W.kitOne K (.ref C_number) (.type "ValueError") = some true)
    (j_stretch_row : PySem.W.kitOne K (.ref C_stretch) (.ref C_row) = some false)
    (j_stretch_number : PySem.W.kitOne K (.ref C_stretch) (.ref C_number) = some false)
    (j_stretch_value : PySem.W.kitOne K (.ref C_stretch) (.ref C_value) = some false)
    (j_stretch_stretch : PySem.W.kitOne K (.ref C_stretch) (.ref C_stretch) = some true)
    (j_stretch_seen : PySem.W.kitOne K (.ref C_stretch) (.ref C_seen) = some false)
    (j_stretch_prime : PySem.W.kitOne K (.ref C_stretch) (.ref C_prime) = some false)
    (j_stretch_term : PySem.W.kitOne K (.ref C_stretch) (.ref C_term) = some false)
    (j_stretch_nothing : PySem.W.kitOne K (.ref C_stretch) (.ref C_nothing) = some false)
    (j_stretch_far : PySem.W.kitOne K (.ref C_stretch) (.ref C_far) = some false)
    (j_stretch_unlike : PySem.W.kitOne K (.ref C_stretch) (.ref C_unlike) = some false)
    (j_stretch_unread : PySem.W.kitOne K (.ref C_stretch) (.ref C_unread) = some false)
    (jv_stretch : PySem.W.kitOne K (.ref C_stretch) (.type "ValueError") = some true)
    (j_seen_row : PySem.W.kitOne K (.ref C_seen) (.ref C_row) = some false)
    (j_seen_number : PySem.W.kitOne K (.ref C_seen) (.ref C_number) = some false)
    (j_seen_value : PySem.W.kitOne K (.ref C_seen) (.ref C_value) = some false)
    (j_seen_stretch : PySem.W.kitOne K (.ref C_seen) (.ref C_stretch) = some false)
    (j_seen_seen : PySem.W.kitOne K (.ref C_seen) (.ref C_seen) = some true)
    (j_seen_prime : PySem.W.kitOne K (.ref C_seen) (.ref C_prime) = some false)
    (j_seen_term : PySem.W.kitOne K (.ref C_seen) (.ref C_term) = some false)
    (j_seen_nothing : PySem.W.kitOne K (.ref C_seen) (.ref C_nothing) = some false)
    (j_seen_far : PySem.W.kitOne K (.ref C_seen) (.ref C_far) = some false)
    (j_seen_unlike : PySem.W.kitOne K (.ref C_seen) (.ref C_unlike) = some false)
    (j_seen_unread : PySem.W.kitOne K (.ref C_seen) (.ref C_unread) = some false)
    (jv_seen : PySem.W.kitOne K (.ref C_seen) (.type "ValueError") = some true)
    : ∃ fd : FuncData, (∀ (s : Shared) (u : Value), BindsTo s fd ⟨[u], []⟩ [("script", u)]) ∧ ∀ base : Heap, K.In base → base.Ns mainGlobals mg → FnOkG l.prog w K mg base (L2.CX l.prog w) 79 fa fd ["script"] (toSp K Tx.spLaw) := by
  have e := hfa.symm.trans (PySem.W.mg_of X G a23)
  cases e
  have F0 := fun_mk (st := s_plain) l0 c0 k0
  have B0 := F0.binds (ps := ["cells", "prime"]) fun _ _ _ _ _ _ us hl => match us, hl with | [_, _], _ => rfl
  have F1 := fun_mk (st := s_multiplied) l1 c1 k1
  have B1 := F1.binds (ps := ["one", "other", "prime"]) fun _ _ _ _ _ _ us hl => match us, hl with | [_, _, _], _ => rfl
  have F2 := fun_mk (st := s_check_terms) l2 c2 k2
  have B2 := F2.binds (ps := ["prime", "terms"]) fun _ _ _ _ _ _ us hl => match us, hl with | [_, _], _ => rfl
  have F3 := fun_mk (st := s_check_number) l3 c3 k3
  have B3 := F3.binds (ps := ["number", "least"]) fun _ _ _ _ _ _ us hl => match us, hl with | [_, _], _ => rfl
  have F4 := fun_mk (st := s_check_stretch) l4 c4 k4
  have B4 := F4.binds (ps := ["low", "high"]) fun _ _ _ _ _ _ us hl => match us, hl with | [_, _], _ => rfl
  have F5 := fun_mk (st := s_check_seen) l5 c5 k5
  have B5 := F5.binds (ps := ["rule", "seen_cells"]) fun _ _ _ _ _ _ us hl => match us, hl with | [_, _], _ => rfl
  have F6 := fun_mk (st := s_check_known) l6 c6 k6
  have B6 := F6.binds (ps := ["rule", "low", "high", "seen_cells"]) fun _ _ _ _ _ _ us hl => match us, hl with | [_, _, _, _], _ => rfl
  have F7 := fun_mk (st := s_stretch_of) l7 c7 k7
  have B7 := F7.binds (ps := ["rule", "number", "low", "high"]) fun _ _ _ _ _ _ us hl => match us, hl with | [_, _, _, _], _ => rfl
  have F8 := fun_mk (st := s_factors_of) l8 c8 k8
  have B8 := F8.binds (ps := ["rule", "low", "high", "number", "place"]) fun _ _ _ _ _ _ us hl => match us, hl with | [_, _, _, _, _], _ => rfl
  have F9 := fun_mk (st := s_lessened) l9 c9 k9
  have B9 := F9.binds (ps := ["line", "other", "factor", "prime"]) fun _ _ _ _ _ _ us hl => match us, hl with | [_, _, _, _], _ => rfl
  have F10 := fun_mk (st := s_settled) l10 c10 k10
  have B10 := F10.binds (ps := ["rule", "low", "high", "seen_cells"]) fun _ _ _ _ _ _ us hl => match us, hl with | [_, _, _, _], _ => rfl
  have F11 := fun_mk (st := s_count_begins) l11 c11 k11
  have B11 := F11.binds (ps := ["rule", "low", "high", "seen_cells"]) fun _ _ _ _ _ _ us hl => match us, hl with | [_, _, _, _], _ => rfl
  have F12 := fun_mk (st := s_first_begin) l12 c12 k12
  have B12 := F12.binds (ps := ["rule", "low", "high", "seen_cells"]) fun _ _ _ _ _ _ us hl => match us, hl with | [_, _, _, _], _ => rfl
  have F13 := fun_mk (st := s_sure_value) l13 c13 k13
  have B13 := F13.binds (ps := ["rule", "low", "high", "seen_cells", "number", "place"]) fun _ _ _ _ _ _ us hl => match us, hl with | [_, _, _, _, _, _], _ => rfl
  have F14 := fun_mk (st := s_looks_missing) l14 c14 k14
  have B14 := F14.binds (ps := ["rule", "low", "high", "seen_cells"]) fun _ _ _ _ _ _ us hl => match us, hl with | [_, _, _, _], _ => rfl
  have F15 := fun_mk (st := s__law_pool) l15 c15 k15
  have B15 := F15.binds (ps := ["script", "spot"]) fun _ _ _ _ _ _ us hl => match us, hl with | [_, _], _ => rfl
  have F16 := fun_mk (st := s__law_draw) l16 c16 k16
  have B16 := F16.binds (ps := ["pool", "many"]) fun _ _ _ _ _ _ us hl => match us, hl with | [_, _], _ => rfl
  have F17 := fun_mk (st := s__law_kind) l17 c17 k17
  have B17 := F17.binds (ps := ["pool"]) fun _ _ _ _ _ _ us hl => match us, hl with | [_], _ => rfl
  have F18 := fun_mk (st := s__law_made) l18 c18 k18
  have B18 := F18.binds (ps := ["kind"]) fun _ _ _ _ _ _ us hl => match us, hl with | [_], _ => rfl
  have F19 := fun_mk (st := s__law_flags) l19 c19 k19
  have B19 := F19.binds (ps := ["e"]) fun _ _ _ _ _ _ us hl => match us, hl with | [_], _ => rfl
  have F20 := fun_mk (st := s__law_flagged) l20 c20 k20
  have B20 := F20.binds (ps := ["spot", "thing"]) fun _ _ _ _ _ _ us hl => match us, hl with | [_, _], _ => rfl
  have F21 := fun_mk (st := s__law_caught) l21 c21 k21
  have B21 := F21.binds (ps := ["way", "made", "ends_here", "known", "cell"]) fun _ _ _ _ _ _ us hl => match us, hl with | [_, _, _, _, _], _ => rfl
  have F22 := fun_mk (st := s__law_right) l22 c22 k22
  have B22 := F22.binds (ps := ["pool"]) fun _ _ _ _ _ _ us hl => match us, hl with | [_], _ => rfl
  have F23 := fun_mk (st := s_law) l23 c23 k23
  have B23 := F23.binds (ps := ["script"]) fun _ _ _ _ _ _ us hl => match us, hl with | [_], _ => rfl
  have Fi := fun_mk (st := s_Rule_init) li ci ki
  have Bi := Fi.binds (ps := ["self", "prime", "terms"]) fun _ _ _ _ _ _ us hl => match us, hl with | [_, _, _], _ => rfl
  have Fp := fun_mk (st := s_Rule_prime) lp cp kp
  have Bp := Fp.binds (ps := ["self"]) fun _ _ _ _ _ _ us hl => match us, hl with | [_], _ => rfl
  have T_number : SupTxt l.prog K mg "InvalidNumber" C_number Dg fI :=
    { oex := ⟨⟨nm_number, q_number, N_number, bs_number, _, sn_number, sub_number, ab_number, col_number, dd_number, m0_number, m1_number, m2_number, m3_number, m5_number, eL_number, by first | rfl | decide⟩, e1_number, e8_number, e9_number, e7_number⟩, xf := ⟨e2_number, e3_number, e8_number, e10_number⟩, gC := PySem.W.mg_of X G eC_number, noV := e4_number, iC := e5_number, tI := e6, hD := Option.isSome_iff_exists.mp e11, sub := e12_number, subV := e13_number, sup := e14_number, opq := e15, mgs := (PySem.W.mg_none_of X G z19), top := e27,
      fn := ⟨ocI, odI, kVI, dcI, pmI, anI, cda, ctI, slI, cc, file, tf, cvs, ccl, cdd, ccs, ccl2, cdd2, ccs2, _, _, _, _, _, _, _, _, _, _, _, _, _, by rfl, e16, e17, e18, e19, e20, e21⟩ }
  have T_stretch : SupTxt l.prog K mg "InvalidStretch" C_stretch Dg fI :=
    { oex := ⟨⟨nm_stretch, q_stretch, N_stretch, bs_stretch, _, sn_stretch, sub_stretch, ab_stretch, col_stretch, dd_stretch, m0_stretch, m1_stretch, m2_stretch, m3_stretch, m5_stretch, eL_stretch, by first | rfl | decide⟩, e1_stretch, e8_stretch, e9_stretch, e7_stretch⟩, xf := ⟨e2_stretch, e3_stretch, e8_stretch, e10_stretch⟩, gC := PySem.W.mg_of X G eC_stretch, noV := e4_stretch, iC := e5_stretch, tI := e6, hD := Option.isSome_iff_exists.mp e11, sub := e12_stretch, subV := e13_stretch, sup := e14_stretch, opq := e15, mgs := (PySem.W.mg_none_of X G z19), top := e27,
      fn := ⟨ocI, odI, kVI, dcI, pmI, anI, cda, ctI, slI, cc, file, tf, cvs, ccl, cdd, ccs, ccl2, cdd2, ccs2, _, _, _, _, _, _, _, _, _, _, _, _, _, by rfl, e16, e17, e18, e19, e20, e21⟩ }
  have T_seen : SupTxt l.prog K mg "InvalidSeen" C_seen Dg fI :=
    { oex := ⟨⟨nm_seen, q_seen, N_seen, bs_seen, _, sn_seen, sub_seen, ab_seen, col_seen, dd_seen, m0_seen, m1_seen, m2_seen, m3_seen, m5_seen, eL_seen, by first | rfl | decide⟩, e1_seen, e8_seen, e9_seen, e7_seen⟩, xf := ⟨e2_seen, e3_seen, e8_seen, e10_seen⟩, gC := PySem.W.mg_of X G eC_seen, noV := e4_seen, iC := e5_seen, tI := e6, hD := Option.isSome_iff_exists.mp e11, sub := e12_seen, subV := e13_seen, sup := e14_seen, opq := e15, mgs := (PySem.W.mg_none_of X G z19), top := e27,
      fn := ⟨ocI, odI, kVI, dcI, pmI, anI, cda, ctI, slI, cc, file, tf, cvs, ccl, cdd, ccs, ccl2, cdd2, ccs2, _, _, _, _, _, _, _, _, _, _, _, _, _, by rfl, e16, e17, e18, e19, e20, e21⟩ }
  have T_prime : SupTxt l.prog K mg "InvalidPrime" C_prime Dg fI :=
    { oex := ⟨⟨nm_prime, q_prime, N_prime, bs_prime, _, sn_prime, sub_prime, ab_prime, col_prime, dd_prime, m0_prime, m1_prime, m2_prime, m3_prime, m5_prime, eL_prime, by first | rfl | decide⟩, e1_prime, e8_prime, e9_prime, e7_prime⟩, xf := ⟨e2_prime, e3_prime, e8_prime, e10_prime⟩, gC := PySem.W.mg_of X G eC_prime, noV := e4_prime, iC := e5_prime, tI := e6, hD := Option.isSome_iff_exists.mp e11, sub := e12_prime, subV := e13_prime, sup := e14_prime, opq := e15, mgs := (PySem.W.mg_none_of X G z19), top := e27,
      fn := ⟨ocI, odI, kVI, dcI, pmI, anI, cda, ctI, slI, cc, file, tf, cvs, ccl, cdd, ccs, ccl2, cdd2, ccs2, _, _, _, _, _, _, _, _, _, _, _, _, _, by rfl, e16, e17, e18, e19, e20, e21⟩ }
  have T_term : SupTxt l.prog K mg "InvalidTerm" C_term Dg fI :=
    { oex := ⟨⟨nm_term, q_term, N_term, bs_term, _, sn_term, sub_term, ab_term, col_term, dd_term, m0_term, m1_term, m2_term, m3_term, m5_term, eL_term, by first | rfl | decide⟩, e1_term, e8_term, e9_term, e7_term⟩, xf := ⟨e2_term, e3_term, e8_term, e10_term⟩, gC := PySem.W.mg_of X G eC_term, noV := e4_term, iC := e5_term, tI := e6, hD := Option.isSome_iff_exists.mp e11, sub := e12_term, subV := e13_term, sup := e14_term, opq := e15, mgs := (PySem.W.mg_none_of X G z19), top := e27,
      fn := ⟨ocI, odI, kVI, dcI, pmI, anI, cda, ctI, slI, cc, file, tf, cvs, ccl, cdd, ccs, ccl2, cdd2, ccs2, _, _, _, _, _, _, _, _, _, _, _, _, _, by rfl, e16, e17, e18, e19, e20, e21⟩ }
  let q : Ad := ⟨RC, C_prime, C_term, C_row, C_number, C_value, C_stretch, C_seen, C_unlike, C_far, C_nothing, C_unread⟩
  have Z_number : Fl K q C_number 1 := ⟨⟨e2_number, e3_number, e8_number, e10_number, e22_number, e23, e24, e25_number⟩, ⟨e2_number, e3_number, e8_number, e10_number⟩, e4_number, j_number_row, j_number_number, j_number_value, j_number_stretch, j_number_seen, kitAny_no ⟨j_number_prime, j_number_term, j_number_nothing, j_number_far, j_number_unlike, j_number_unread⟩, jv_number⟩
  have Z_stretch : Fl K q C_stretch 3 := ⟨⟨e2_stretch, e3_stretch, e8_stretch, e10_stretch, e22_stretch, e23, e24, e25_stretch⟩, ⟨e2_stretch, e3_stretch, e8_stretch, e10_stretch⟩, e4_stretch, j_stretch_row, j_stretch_number, j_stretch_value, j_stretch_stretch, j_stretch_seen, kitAny_no ⟨j_stretch_prime, j_stretch_term, j_stretch_nothing, j_stretch_far, j_stretch_unlike, j_stretch_unread⟩, jv_stretch⟩
  have Z_seen : Fl K q C_seen 4 := ⟨⟨e2_seen, e3_seen, e8_seen, e10_seen, e22_seen, e23, e24, e25_seen⟩, ⟨e2_seen, e3_seen, e8_seen, e10_seen⟩, e4_seen, j_seen_row, j_seen_number, j_seen_value, j_seen_stretch, j_seen_seen, kitAny_no ⟨j_seen_prime, j_seen_term, j_seen_nothing, j_seen_far, j_seen_unlike, j_seen_unread⟩, jv_seen⟩
  refine ⟨PySem.W.fnOf "law" "law" (defArgs s_law) (defBody s_law) (defScope s_law) .none kV23 dc23 pm23 an23 cd23 ct23, fun s v => .of_eq rfl, fun base _ _ => ?_⟩
  have hb : ∀ x ∈ DL.bnames, mg x = none := by
    intro x hx
    simp only [DL.bnames, List.mem_cons, List.not_mem_nil, or_false] at hx
    rcases hx with rfl | rfl | rfl | rfl | rfl | rfl | rfl | rfl | rfl | rfl | rfl | rfl | rfl | rfl | rfl | rfl | rfl | rfl | rfl
    · exact (PySem.W.mg_none_of X G z0)
    · exact (PySem.W.mg_none_of X G z1)
    · exact (PySem.W.mg_none_of X G z2)
    · exact (PySem.W.mg_none_of X G z3)
    · exact (PySem.W.mg_none_of X G z4)
    · exact (PySem.W.mg_none_of X G z5)
    · exact (PySem.W.mg_none_of X G z6)
    · exact (PySem.W.mg_none_of X G z7)
    · exact (PySem.W.mg_none_of X G z8)
    · exact (PySem.W.mg_none_of X G z9)
    · exact (PySem.W.mg_none_of X G z10)
    · exact (PySem.W.mg_none_of X G z11)
    · exact (PySem.W.mg_none_of X G z12)
    · exact (PySem.W.mg_none_of X G z13)
    · exact (PySem.W.mg_none_of X G z14)
    · exact (PySem.W.mg_none_of X G z15)
    · exact (PySem.W.mg_none_of X G z16)
    · exact (PySem.W.mg_none_of X G z17)
    · exact (PySem.W.mg_none_of X G z18)
  have na : ∀ x ∈ ([("modulus" : Str), "parts", "powers", "lowered"] : List Str), NoAttr K q.rule x := by
    intro x hx
    simp only [List.mem_cons, List.not_mem_nil, or_false] at hx
    rcases hx with rfl | rfl | rfl | rfl
    · exact rf0
    · exact rf1
    · exact rf2
    · exact rf3
  have hP : EntOk l.prog w K mg base 1 (.cst "PRIMES" (.tup [.int 2, .int 3, .int 5])) := ⟨.ref PT, .ref PT, PySem.W.mg_of X G pC, rfl, fun F => ⟨PT, [.int 2, .int 3, .int 5], rfl, .inr ⟨_, _, _, pL, rfl, rfl, by rw [sizeLine_eq]; show 3 ≤ 16777216; decide, .cons ⟨p2, rfl⟩ (.cons ⟨p3, rfl⟩ (.cons ⟨p5, rfl⟩ .nil))⟩, _, _, rfl, rfl, _, _, rfl, rfl, _, _, rfl, rfl, rfl⟩⟩
  exact (chain (P := l.prog) (w := w) (base := base) (q := q) ⟨F0, (PySem.W.mg_of X G a0), B0⟩ ⟨F1, (PySem.W.mg_of X G a1), B1⟩ ⟨F2, (PySem.W.mg_of X G a2), B2⟩ ⟨F3, (PySem.W.mg_of X G a3), B3⟩ ⟨F4, (PySem.W.mg_of X G a4), B4⟩ ⟨F5, (PySem.W.mg_of X G a5), B5⟩ ⟨F6, (PySem.W.mg_of X G a6), B6⟩ ⟨F7, (PySem.W.mg_of X G a7), B7⟩ ⟨F8, (PySem.W.mg_of X G a8), B8⟩ ⟨F9, (PySem.W.mg_of X G a9), B9⟩ ⟨F10, (PySem.W.mg_of X G a10), B10⟩ ⟨F11, (PySem.W.mg_of X G a11), B11⟩ ⟨F12, (PySem.W.mg_of X G a12), B12⟩ ⟨F13, (PySem.W.mg_of X G a13), B13⟩ ⟨F14, (PySem.W.mg_of X G a14), B14⟩ ⟨F15, (PySem.W.mg_of X G a15), B15⟩ ⟨F16, (PySem.W.mg_of X G a16), B16⟩ ⟨F17, (PySem.W.mg_of X G a17), B17⟩ ⟨F18, (PySem.W.mg_of X G a18), B18⟩ ⟨F19, (PySem.W.mg_of X G a19), B19⟩ ⟨F20, (PySem.W.mg_of X G a20), B20⟩ ⟨F21, (PySem.W.mg_of X G a21), B21⟩ ⟨F22, (PySem.W.mg_of X G a22), B22⟩ ⟨F23, (PySem.W.mg_of X G a23), B23⟩ Fi Bi Fp Bp hb ⟨r1, r2, r3, r4⟩ na ⟨r9, r10, r11, _, r12⟩ ⟨r5, r6, r7, r8⟩ (PySem.W.mg_of X G rC) hP (PySem.W.mg_none_of X G z20) (PySem.W.mg_of X G eG) ⟨PySem.W.mg_of X G eC_row, PySem.W.mg_of X G eC_number, PySem.W.mg_of X G eC_value, PySem.W.mg_of X G eC_stretch, PySem.W.mg_of X G eC_seen, PySem.W.mg_of X G eC_prime, PySem.W.mg_of X G eC_term, PySem.W.mg_of X G eC_nothing, PySem.W.mg_of X G eC_far, PySem.W.mg_of X G eC_unlike, PySem.W.mg_of X G eC_unread⟩ T_number T_stretch T_seen T_prime T_term (fun i hi => by
    rcases hi with rfl | rfl | rfl
    · exact ⟨exm_to g8 g10 g9 e26_number, Z_number⟩
    · exact ⟨exm_to g8 g10 g9 e26_stretch, Z_stretch⟩
    · exact ⟨exm_to g8 g10 g9 e26_seen, Z_seen⟩) (kw_i4 F12) (kw_i6 F13)).fn
end
end K56
open PySem PySem.W PyProof.Rows
set_option maxRecDepth 100000 in
set_option maxHeartbeats 0 in
theorem PySem.Challenge.cw_grownrows_k56_errors_of_knowing_holds : PySem.Challenge.rw_grownrows_k56_errors_of_knowing.Holds := by
  w_on; o_law; k_head; (case hw => w_witness2)
  k_fill
  refine DL.walk_ofG (l := PySem.Challenge.rw_grownrows_k56_errors_of_knowing) (n := 63) (k := 79) (x := "script") (CX := fun w => L2.CX (PySem.Challenge.rw_grownrows_k56_errors_of_knowing).prog w) (sp := fun w => DL.toSp _ Tx.spLaw) rfl (by decide) rfl ⟨rfl, by decide, by decide⟩ (fun w h Y => PySem.W.kIn_of Y) ?F (fun w H a ns hl _ hS => DL.toSp_script hS ⟨ns, rfl, Nat.le_trans hl (by decide), rfl⟩) (fun w => DL.quietL)
  case F =>
    intro w mg fa h KX G hmg
    refine' K56.all_mk KX G hmg ?a0 ?l0 ?c0 ?k0 ?a1 ?l1 ?c1 ?k1 ?a2 ?l2 ?c2 ?k2 ?a3 ?l3 ?c3 ?k3 ?a4 ?l4 ?c4 ?k4 ?a5 ?l5 ?c5 ?k5 ?a6 ?l6 ?c6 ?k6 ?a7 ?l7 ?c7 ?k7 ?a8 ?l8 ?c8 ?k8 ?a9 ?l9 ?c9 ?k9 ?a10 ?l10 ?c10 ?k10 ?a11 ?l11 ?c11 ?k11 ?a12 ?l12 ?c12 ?k12 ?a13 ?l13 ?c13 ?k13 ?a14 ?l14 ?c14 ?k14 ?a15 ?l15 ?c15 ?k15 ?a16 ?l16 ?c16 ?k16 ?a17 ?l17 ?c17 ?k17 ?a18 ?l18 ?c18 ?k18 ?a19 ?l19 ?c19 ?k19 ?a20 ?l20 ?c20 ?k20 ?a21 ?l21 ?c21 ?k21 ?a22 ?l22 ?c22 ?k22 ?a23 ?l23 ?c23 ?k23 ?z0 ?z1 ?z2 ?z3 ?z4 ?z5 ?z6 ?z7 ?z8 ?z9 ?z10 ?z11 ?z12 ?z13 ?z14 ?z15 ?z16 ?z17 ?z18 ?z19 ?z20 ?rC ?r1 ?r2 ?r3 ?r4 ?rf0 ?rf1 ?rf2 ?rf3 ?r5 ?r6 ?r7 ?r8 ?r9 ?r10 ?r11 ?r12 ?li ?ci ?ki ?lp ?cp ?kp ?pC ?pL ?eC_number ?eC_stretch ?eC_seen ?eC_prime ?eC_term ?eC_row ?eC_value ?eC_nothing ?eC_far ?eC_unlike ?eC_unread ?eG ?eL_number ?e1_number ?e2_number ?e3_number ?e4_number ?e5_number ?e7_number ?e8_number ?e9_number ?e10_number ?e12_number ?e13_number ?e14_number ?e22_number ?e25_number ?e26_number ?eL_stretch ?e1_stretch ?e2_stretch ?e3_stretch ?e4_stretch ?e5_stretch ?e7_stretch ?e8_stretch ?e9_stretch ?e10_stretch ?e12_stretch ?e13_stretch ?e14_stretch ?e22_stretch ?e25_stretch ?e26_stretch ?eL_seen ?e1_seen ?e2_seen ?e3_seen ?e4_seen ?e5_seen ?e7_seen ?e8_seen ?e9_seen ?e10_seen ?e12_seen ?e13_seen ?e14_seen ?e22_seen ?e25_seen ?e26_seen ?eL_prime ?e1_prime ?e2_prime ?e3_prime ?e4_prime ?e5_prime ?e7_prime ?e8_prime ?e9_prime ?e10_prime ?e12_prime ?e13_prime ?e14_prime ?e22_prime ?e25_prime ?e26_prime ?eL_term ?e1_term ?e2_term ?e3_term ?e4_term ?e5_term ?e7_term ?e8_term ?e9_term ?e10_term ?e12_term ?e13_term ?e14_term ?e22_term ?e25_term ?e26_term ?e6 ?e11 ?e15 ?e16 ?e17 ?e18 ?e19 ?e20 ?e21 ?e23 ?e24 ?e27 ?g8 ?g9 ?g10 ?j_number_row ?j_number_number ?j_number_value ?j_number_stretch ?j_number_seen ?j_number_prime ?j_number_term ?j_number_nothing ?j_number_far ?j_number_unlike ?j_number_unread ?jv_number ?j_stretch_row ?j_stretch_number ?j_stretch_value ?j_stretch_stretch ?j_stretch_seen ?j_stretch_prime ?j_stretch_term ?j_stretch_nothing ?j_stretch_far ?j_stretch_unlike ?j_stretch_unread ?jv_stretch ?j_seen_row ?j_seen_number ?j_seen_value ?j_seen_stretch ?j_seen_seen ?j_seen_prime ?j_seen_term ?j_seen_nothing ?j_seen_far ?j_seen_unlike ?j_seen_unread ?jv_seen
    (case a0 => k_is)
    (case l0 => k_is)
    (case c0 => k_is)
    (case k0 => k_is)
    (case a1 => k_is)
    (case l1 => k_is)
    (case c1 => k_is)
    (case k1 => k_is)
    (case a2 => k_is)
    (case l2 => k_is)
    (case c2 => k_is)
    (case k2 => k_is)
    (case a3 => k_is)
    (case l3 => k_is)
    (case c3 => k_is)
    (case k3 => k_is)
    (case a4 => k_is)
    (case l4 => k_is)
    (case c4 => k_is)
    (case k4 => k_is)
    (case a5 => k_is)
    (case l5 => k_is)
    (case c5 => k_is)
    (case k5 => k_is)
    (case a6 => k_is)
    (case l6 => k_is)
    (case c6 => k_is)
    (case k6 => k_is)
    (case a7 => k_is)
    (case l7 => k_is)
    (case c7 => k_is)
    (case k7 => k_is)
    (case a8 => k_is)
    (case l8 => k_is)
    (case c8 => k_is)
    (case k8 => k_is)
    (case a9 => k_is)
    (case l9 => k_is)
    (case c9 => k_is)
    (case k9 => k_is)
    (case a10 => k_is)
    (case l10 => k_is)
    (case c10 => k_is)
    (case k10 => k_is)
    (case a11 => k_is)
    (case l11 => k_is)
    (case c11 => k_is)
    (case k11 => k_is)
    (case a12 => k_is)
    (case l12 => k_is)
    (case c12 => k_is)
    (case k12 => k_is)
    (case a13 => k_is)
    (case l13 => k_is)
    (case c13 => k_is)
    (case k13 => k_is)
    (case a14 => k_is)
    (case l14 => k_is)
    (case c14 => k_is)
    (case k14 => k_is)
    (case a15 => k_is)
    (case l15 => k_is)
    (case c15 => k_is)
    (case k15 => k_is)
    (case a16 => k_is)
    (case l16 => k_is)
    (case c16 => k_is)
    (case k16 => k_is)
    (case a17 => k_is)
    (case l17 => k_is)
    (case c17 => k_is)
    (case k17 => k_is)
    (case a18 => k_is)
    (case l18 => k_is)
    (case c18 => k_is)
    (case k18 => k_is)
    (case a19 => k_is)
    (case l19 => k_is)
    (case c19 => k_is)
    (case k19 => k_is)
    (case a20 => k_is)
    (case l20 => k_is)
    (case c20 => k_is)
    (case k20 => k_is)
    (case a21 => k_is)
    (case l21 => k_is)
    (case c21 => k_is)
    (case k21 => k_is)
    (case a22 => k_is)
    (case l22 => k_is)
    (case c22 => k_is)
    (case k22 => k_is)
    (case a23 => k_is)
    (case l23 => k_is)
    (case c23 => k_is)
    (case k23 => k_is)
    (case z0 => k_is)
    (case z1 => k_is)
    (case z2 => k_is)
    (case z3 => k_is)
    (case z4 => k_is)
    (case z5 => k_is)
    (case z6 => k_is)
    (case z7 => k_is)
    (case z8 => k_is)
    (case z9 => k_is)
    (case z10 => k_is)
    (case z11 => k_is)
    (case z12 => k_is)
    (case z13 => k_is)
    (case z14 => k_is)
    (case z15 => k_is)
    (case z16 => k_is)
    (case z17 => k_is)
    (case z18 => k_is)
    (case z19 => k_is)
    (case z20 => k_is)
    (case rC => k_is)
    (case r1 => k_is)
    (case r2 => k_is)
    (case r3 => k_is)
    (case r4 => k_is)
    (case rf0 => k_is)
    (case rf1 => k_is)
    (case rf2 => k_is)
    (case rf3 => k_is)
    (case r5 => k_is)
    (case r6 => k_is)
    (case r7 => k_is)
    (case r8 => k_is)
    (case r9 => k_is)
    (case r10 => k_is)
    (case r11 => k_is)
    (case r12 => k_is)
    (case li => k_is)
    (case ci => k_is)
    (case ki => k_is)
    (case lp => k_is)
    (case cp => k_is)
    (case kp => k_is)
    (case pC => k_is)
    (case pL => k_is)
    (case eC_number => k_is)
    (case eC_stretch => k_is)
    (case eC_seen => k_is)
    (case eC_prime => k_is)
    (case eC_term => k_is)
    (case eC_row => k_is)
    (case eC_value => k_is)
    (case eC_nothing => k_is)
    (case eC_far => k_is)
    (case eC_unlike => k_is)
    (case eC_unread => k_is)
    (case eG => k_is)
    (case eL_number => k_is)
    (case e1_number => k_is)
    (case e2_number => k_is)
    (case e3_number => k_is)
    (case e4_number => k_is)
    (case e5_number => k_is)
    (case e7_number => k_is)
    (case e8_number => k_is)
    (case e9_number => k_is)
    (case e10_number => k_is)
    (case e12_number => k_is)
    (case e13_number => k_is)
    (case e14_number => ks_is)
    (case e22_number => k_is)
    (case e25_number => k_is)
    (case e26_number => first | rfl | k_is)
    (case eL_stretch => k_is)
    (case e1_stretch => k_is)
    (case e2_stretch => k_is)
    (case e3_stretch => k_is)
    (case e4_stretch => k_is)
    (case e5_stretch => k_is)
    (case e7_stretch => k_is)
    (case e8_stretch => k_is)
    (case e9_stretch => k_is)
    (case e10_stretch => k_is)
    (case e12_stretch => k_is)
    (case e13_stretch => k_is)
    (case e14_stretch => ks_is)
    (case e22_stretch => k_is)
    (case e25_stretch => k_is)
    (case e26_stretch => first | rfl | k_is)
    (case eL_seen => k_is)
    (case e1_seen => k_is)
    (case e2_seen => k_is)
    (case e3_seen => k_is)
    (case e4_seen => k_is)
    (case e5_seen => k_is)
    (case e7_seen => k_is)
    (case e8_seen => k_is)
    (case e9_seen => k_is)
    (case e10_seen => k_is)
    (case e12_seen => k_is)
    (case e13_seen => k_is)
    (case e14_seen => ks_is)
    (case e22_seen => k_is)
    (case e25_seen => k_is)
    (case e26_seen => first | rfl | k_is)
    (case eL_prime => k_is)
    (case e1_prime => k_is)
    (case e2_prime => k_is)
    (case e3_prime => k_is)
    (case e4_prime => k_is)
    (case e5_prime => k_is)
    (case e7_prime => k_is)
    (case e8_prime => k_is)
    (case e9_prime => k_is)
    (case e10_prime => k_is)
    (case e12_prime => k_is)
    (case e13_prime => k_is)
    (case e14_prime => ks_is)
    (case e22_prime => k_is)
    (case e25_prime => k_is)
    (case e26_prime => first | rfl | k_is)
    (case eL_term => k_is)
    (case e1_term => k_is)
    (case e2_term => k_is)
    (case e3_term => k_is)
    (case e4_term => k_is)
    (case e5_term => k_is)
    (case e7_term => k_is)
    (case e8_term => k_is)
    (case e9_term => k_is)
    (case e10_term => k_is)
    (case e12_term => k_is)
    (case e13_term => k_is)
    (case e14_term => ks_is)
    (case e22_term => k_is)
    (case e25_term => k_is)
    (case e26_term => first | rfl | k_is)
    (case e6 => k_is)
    (case e11 => k_is)
    (case e15 => k_is)
    (case e16 => k_is)
    (case e17 => k_is)
    (case e18 => k_is)
    (case e19 => rfl)
    (case e20 => first | rfl | decide +kernel)
    (case e21 => k_is)
    (case e23 => k_is)
    (case e24 => k_is)
    (case e27 => first | rfl | decide +kernel | k_is)
    (case g8 => k_is)
    (case g9 => k_is)
    (case g10 => k_is)
    (case j_number_row => kit_is)
    (case j_number_number => kit_is)
    (case j_number_value => kit_is)
    (case j_number_stretch => kit_is)
    (case j_number_seen => kit_is)
    (case j_number_prime => kit_is)
    (case j_number_term => kit_is)
    (case j_number_nothing => kit_is)
    (case j_number_far => kit_is)
    (case j_number_unlike => kit_is)
    (case j_number_unread => kit_is)
    (case jv_number => kit_is)
    (case j_stretch_row => kit_is)
    (case j_stretch_number => kit_is)
    (case j_stretch_value => kit_is)
    (case j_stretch_stretch => kit_is)
    (case j_stretch_seen => kit_is)
    (case j_stretch_prime => kit_is)
    (case j_stretch_term => kit_is)
    (case j_stretch_nothing => kit_is)
    (case j_stretch_far => kit_is)
    (case j_stretch_unlike => kit_is)
    (case j_stretch_unread => kit_is)
    (case jv_stretch => kit_is)
    (case j_seen_row => kit_is)
    (case j_seen_number => kit_is)
    (case j_seen_value => kit_is)
    (case j_seen_stretch => kit_is)
    (case j_seen_seen => kit_is)
    (case j_seen_prime => kit_is)
    (case j_seen_term => kit_is)
    (case j_seen_nothing => kit_is)
    (case j_seen_far => kit_is)
    (case j_seen_unlike => kit_is)
    (case j_seen_unread => kit_is)
    (case jv_seen => kit_is)

