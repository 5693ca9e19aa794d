import PyProof.Rows.All
import Wide.All
import OpenK.AllK
import Wide.FinOn
import HandS.ForMost
import HandS.Exc
import HandS.ExcOwn
import HandS.TryOnly
import HandS.TryMany
import HandS.WordsExc
import HandS.ExcField
import HandS.ExcIs
import HandS.DictComp
import HandS.SortInts
import HandS.SortRule
import HandS.IsInst
import HandS.Wide
import HandS.Flow
import HandS.More
import HandS.Deep
import HandS.EndBits
import HandS.CallSlots
import HandS.ExcSuper
import KE.KExcSuper
import KE.KSuper
import PyProof.FString
import KE.KIsAll
import KE.KTryMore
import HandS.TupSets
import KE.KStateDown
import HandS.Base
import HandS.Call
import HandS.Ends
import HandS.Words
import HandS.Defaults
import HandS.Head0
import HandS.Head1
import HandS.Head2
import HandS.HeadEnd
import HandS.HeadHook1
import HandS.HeadHook2
import PySem.Challenge.RW_quorumdrift_k06_straight_lists
set_option Elab.async false
set_option linter.all false
set_option maxRecDepth 100000
set_option maxHeartbeats 0
/-! PyD0: data trees over the abstract heap; frozen and owned parts; the judgements. -/
namespace PyD
open PySem PySem.Spec PyProof.Rows L2
/-- data, without addresses but for owned objects (mut) and fixed references (ref) -/
inductive D where
  | non | bl (b : Bool) | int (i : Int) | str (s : Str)
  | lst (xs : List D) | tup (xs : List D) | kl (xs : List D)
  | dK (kvs : List (Key × D)) | dT (kvs : List (List Key × D))
  | ins (C : Addr) (fs : List (Str × D))
  | mut (a : Addr) | ref (a : Addr) | ty (n : String)
  /-- a caught exception: its address, class, own dict, attributes -/
  | exc (a C : Addr) (d : Option Addr) (fs : List (Str × D))
abbrev L (ns : List Int) : D := .lst (ns.map D.int)
section
variable (K : PySem.W.Frag) (F : Hp)
mutual
inductive Rp : D → V → Prop where
  | non : Rp .non .non
  | bl (b : Bool) : Rp (.bl b) (.bl b)
  | int (i : Int) : Rp (.int i) (.int i)
  | str (s : Str) : Rp (.str s) (.str s)
  | ref (a : Addr) : Rp (.ref a) (.ref a)
  | mut (a : Addr) : Rp (.mut a) (.ref a)
  | ty (n : String) : Rp (.ty n) (.ty n)
  | lst {a : Addr} {vs : List V} {ds : List D} : F a = some (.lst vs) → Rps ds vs → Rp (.lst ds) (.ref a)
  | kl {a : Addr} {vs : List V} {ds : List D} : SqL K F a vs → Rps ds vs → Rp (.kl ds) (.ref a)
  | tup {a : Addr} {vs : List V} {ds : List D} : SqT K F a vs → Rps ds vs → Rp (.tup ds) (.ref a)
  | dK {a : Addr} {kvs : List (Key × V)} {kds : List (Key × D)} : F a = some (.dK kvs) → kds.map (·.1) = kvs.map (·.1) → Rps (kds.map (·.2)) (kvs.map (·.2)) → Rp (.dK kds) (.ref a)
  | dT {a : Addr} {kvs : List (List Key × V)} {kds : List (List Key × D)} : F a = some (.dT kvs) → kds.map (·.1) = kvs.map (·.1) → Rps (kds.map (·.2)) (kvs.map (·.2)) → Rp (.dT kds) (.ref a)
  | ins {a C dx : Addr} {fs : List (Str × V)} {fds : List (Str × D)} : F a = some (.ins C dx fs) → fds.map (·.1) = fs.map (·.1) → Rps (fds.map (·.2)) (fs.map (·.2)) → Rp (.ins C fds) (.ref a)
  | exc0 (a C : Addr) : Rp (.exc a C none []) (.ref a)
  | exc1 {a C dd : Addr} {fs : List (Str × V)} {fds : List (Str × D)} : F dd = some (.xd fs) → fds.map (·.1) = fs.map (·.1) → Rps (fds.map (·.2)) (fs.map (·.2)) → Rp (.exc a C (some dd) fds) (.ref a)
inductive Rps : List D → List V → Prop where
  | nil : Rps [] []
  | cons {d : D} {ds : List D} {v : V} {vs : List V} : Rp d v → Rps ds vs → Rps (d :: ds) (v :: vs)
end
end
def Ex (H H' : Hp) : Prop := ∀ a o, H a = some o → H' a = some o
theorem Ex.refl (H : Hp) : Ex H H := fun _ _ h => h
theorem Ex.trans {H H1 H2 : Hp} (a : Ex H H1) (b : Ex H1 H2) : Ex H H2 := fun x o h => b x o (a x o h)
theorem Ex.new {H : Hp} {p : Addr} {o : HO} (h : H p = none) : Ex H (upd H p o) := fun a u e => by
  rw [upd_ne (ne_of_none e h)]
  exact e
theorem Ex.none {H H' : Hp} {p : Addr} (e : Ex H H') (h : H' p = none) : H p = none := by
  cases h1 : H p with
  | none => rfl
  | some o =>
    rw [e p o h1] at h
    cases h
theorem ex_l {K : PySem.W.Frag} {H H' : Hp} {a : Addr} {xs : List V} (e : Ex H H') (h : SqL K H a xs) : SqL K H' a xs := by
  rcases h with (h | ⟨o, h⟩) | h
  · exact .inl (.inl (e a _ h))
  · exact .inl (.inr ⟨o, e a _ h⟩)
  · exact .inr h
theorem ex_t {K : PySem.W.Frag} {H H' : Hp} {a : Addr} {xs : List V} (e : Ex H H') (h : SqT K H a xs) : SqT K H' a xs := by
  rcases h with (h | ⟨o, h⟩) | h
  · exact .inl (.inl (e a _ h))
  · exact .inl (.inr ⟨o, e a _ h⟩)
  · exact .inr h
section
variable {K : PySem.W.Frag} {F F' H H' : Hp}
mutual
theorem Rp.mono (e : Ex F F') : ∀ {d : D} {v : V}, Rp K F d v → Rp K F' d v
  | _, _, .non => .non
  | _, _, .bl b => .bl b
  | _, _, .int i => .int i
  | _, _, .str s => .str s
  | _, _, .ref a => .ref a
  | _, _, .mut a => .mut a
  | _, _, .ty n => .ty n
  | _, _, .lst h r => .lst (e _ _ h) (Rps.mono e r)
  | _, _, .kl h r => .kl (ex_l e h) (Rps.mono e r)
  | _, _, .tup h r => .tup (ex_t e h) (Rps.mono e r)
  | _, _, .dK h k r => .dK (e _ _ h) k (Rps.mono e r)
  | _, _, .dT h k r => .dT (e _ _ h) k (Rps.mono e r)
  | _, _, .ins h k r => .ins (e _ _ h) k (Rps.mono e r)
  | _, _, .exc0 a C => .exc0 a C
  | _, _, .exc1 h k r => .exc1 (e _ _ h) k (Rps.mono e r)
theorem Rps.mono (e : Ex F F') : ∀ {ds : List D} {vs : List V}, Rps K F ds vs → Rps K F' ds vs
  | _, _, .nil => .nil
  | _, _, .cons h r => .cons (Rp.mono e h) (Rps.mono e r)
end
theorem Rps.length : ∀ {ds : List D} {vs : List V}, Rps K F ds vs → ds.length = vs.length
  | _, _, .nil => rfl
  | _, _, .cons _ r => by rw [List.length_cons, List.length_cons, Rps.length r]
theorem Rps.get : ∀ {ds : List D} {vs : List V} {i : Nat} {d : D}, Rps K F ds vs → ds[i]? = some d → ∃ v, vs[i]? = some v ∧ Rp K F d v
  | _, _, i, _, .nil, h => by simp at h
  | _, _, 0, _, .cons a _, h => by
    simp at h
    subst h
    exact ⟨_, rfl, a⟩
  | _, _, i + 1, _, .cons _ r, h => by
    obtain ⟨v, h1, h2⟩ := Rps.get (i := i) r (by simpa using h)
    exact ⟨v, by simpa using h1, h2⟩
theorem Rps.getV : ∀ {ds : List D} {vs : List V} {i : Nat} {v : V}, Rps K F ds vs → vs[i]? = some v → ∃ d, ds[i]? = some d ∧ Rp K F d v
  | _, _, i, _, .nil, h => by simp at h
  | _, _, 0, _, .cons a _, h => by
    simp at h
    subst h
    exact ⟨_, rfl, a⟩
  | _, _, i + 1, _, .cons _ r, h => by
    obtain ⟨v, h1, h2⟩ := Rps.getV (i := i) r (by simpa using h)
    exact ⟨v, by simpa using h1, h2⟩
theorem Rps.app : ∀ {ds es : List D} {vs ws : List V}, Rps K F ds vs → Rps K F es ws → Rps K F (ds ++ es) (vs ++ ws)
  | _, _, _, _, .nil, s => s
  | _, _, _, _, .cons a r, s => .cons a (Rps.app r s)
theorem Rps.one {d : D} {v : V} (h : Rp K F d v) : Rps K F [d] [v] := .cons h .nil
theorem Rps.set : ∀ {ds : List D} {vs : List V} {d : D} {v : V} (i : Nat), Rps K F ds vs → Rp K F d v → Rps K F (ds.set i d) (vs.set i v)
  | _, _, _, _, _, .nil, _ => .nil
  | _, _, _, _, 0, .cons _ r, h => .cons h r
  | _, _, _, _, i + 1, .cons a r, h => .cons a (Rps.set i r h)
theorem Rps.take : ∀ {ds : List D} {vs : List V} (n : Nat), Rps K F ds vs → Rps K F (ds.take n) (vs.take n)
  | _, _, 0, _ => .nil
  | _, _, _ + 1, .nil => .nil
  | _, _, n + 1, .cons a r => .cons a (Rps.take n r)
theorem Rps.drop : ∀ {ds : List D} {vs : List V} (n : Nat), Rps K F ds vs → Rps K F (ds.drop n) (vs.drop n)
  | _, _, 0, r => r
  | _, _, _ + 1, .nil => .nil
  | _, _, n + 1, .cons _ r => Rps.drop n r
theorem Rps.erase : ∀ {ds : List D} {vs : List V} (i : Nat), Rps K F ds vs → Rps K F (ds.eraseIdx i) (vs.eraseIdx i)
  | _, _, _, .nil => .nil
  | _, _, 0, .cons _ r => r
  | _, _, i + 1, .cons a r => .cons a (Rps.erase i r)
theorem Rps.rev {ds : List D} {vs : List V} (r : Rps K F ds vs) : Rps K F ds.reverse vs.reverse := by
  induction ds generalizing vs with
  | nil => cases r; exact .nil
  | cons d ds ih =>
    cases r with
    | cons a r =>
      rw [List.reverse_cons, List.reverse_cons]
      exact (ih r).app (.one a)
theorem Rps.ints : ∀ {ns : List Int} {vs : List V}, Rps K F (ns.map D.int) vs → vs = ns.map V.int
  | [], _, .nil => rfl
  | n :: ns, _, .cons h r => by
    cases h
    rw [Rps.ints r] <;> rfl
theorem Rps.of_ints : ∀ (ns : List Int), Rps K F (ns.map D.int) (ns.map V.int)
  | [] => .nil
  | n :: ns => .cons (.int n) (Rps.of_ints ns)
theorem Rps.bls : ∀ {ns : List Bool} {vs : List V}, Rps K F (ns.map D.bl) vs → vs = ns.map V.bl
  | [], _, .nil => rfl
  | n :: ns, _, .cons h r => by
    cases h
    rw [Rps.bls r] <;> rfl
end
/-- an owned object: its address, made here or handed in, what it holds -/
structure Ob where
  a : Addr
  loc : Bool
  d : D
def Mu (K : PySem.W.Frag) (F H : Hp) (a : Addr) : D → Prop
  | .lst xs => ∃ vs, H a = some (.lst vs) ∧ Rps K F xs vs
  | .dK kds => ∃ kvs, H a = some (.dK kvs) ∧ kds.map (·.1) = kvs.map (·.1) ∧ Rps K F (kds.map (·.2)) (kvs.map (·.2))
  | .dT kds => ∃ kvs, H a = some (.dT kvs) ∧ kds.map (·.1) = kvs.map (·.1) ∧ Rps K F (kds.map (·.2)) (kvs.map (·.2))
  | .ins C fds => ∃ dx fs, H a = some (.ins C dx fs) ∧ fds.map (·.1) = fs.map (·.1) ∧ Rps K F (fds.map (·.2)) (fs.map (·.2))
  | _ => False
theorem Mu.mono {K : PySem.W.Frag} {F F' H H' : Hp} {a : Addr} {d : D} (h : Mu K F H a d) (e : Ex F F') (k : ∀ o, H a = some o → H' a = some o) : Mu K F' H' a d := by
  cases d <;> first
    | exact h.elim
    | (obtain ⟨vs, h1, h2⟩ := h; exact ⟨vs, k _ h1, h2.mono e⟩)
    | (obtain ⟨vs, h1, h2, h3⟩ := h; exact ⟨vs, k _ h1, h2, h3.mono e⟩)
    | (obtain ⟨dx, vs, h1, h2, h3⟩ := h; exact ⟨dx, vs, k _ h1, h2, h3.mono e⟩)
theorem Mu.some {K : PySem.W.Frag} {F H : Hp} {a : Addr} {d : D} (h : Mu K F H a d) : ∃ o, H a = some o := by
  cases d <;> first
    | exact h.elim
    | (obtain ⟨vs, h1, h2⟩ := h; exact ⟨_, h1⟩)
    | (obtain ⟨vs, h1, h2, h3⟩ := h; exact ⟨_, h1⟩)
    | (obtain ⟨dx, vs, h1, h2, h3⟩ := h; exact ⟨_, h1⟩)
/-- where a def (or a part of one) was entered -/
structure En0 where
  F : Hp
  H : Hp
  M : List Addr
structure S0 (K : PySem.W.Frag) (Z : En0) (F H : Hp) (O : List Ob) : Prop where
  ex : Ex F H
  frame : ∀ a o, a ∉ Z.M → Z.H a = some o → H a = some o
  fz : ∀ a, Z.H a ≠ none → F a = Z.F a
  alive : ∀ a ∈ Z.M, H a ≠ none
  own : ∀ p ∈ O, F p.a = none ∧ Mu K F H p.a p.d ∧ (p.loc = true → Z.H p.a = none) ∧ (p.loc = false → p.a ∈ Z.M)
  nd : (O.map Ob.a).Nodup
section
variable {K : PySem.W.Frag} {Z : En0} {F F' H H' : Hp} {O : List Ob}
theorem S0.fresh (S : S0 K Z F H O) {p : Addr} (h : H p = none) : Z.H p = none := by
  cases e : Z.H p with
  | none => rfl
  | some o =>
    by_cases hm : p ∈ Z.M
    · exact absurd h (S.alive p hm)
    · rw [S.frame p o hm e] at h
      cases h
theorem S0.notM (S : S0 K Z F H O) {p : Addr} (h : H p = none) : p ∉ Z.M := fun hm => S.alive p hm h
theorem S0.freshO (S : S0 K Z F H O) {p : Addr} (h : H p = none) : ∀ q ∈ O, q.a ≠ p := fun q hq e => by
  obtain ⟨o, ho⟩ := (S.own q hq).2.1.some
  rw [e, h] at ho
  cases ho
/-- a new object that stays as it is -/
theorem S0.frz (S : S0 K Z F H O) {p : Addr} (o : HO) (h : H p = none) : S0 K Z (upd F p o) (upd H p o) O where
  ex := fun a u e => by
    by_cases hp : a = p
    · subst hp
      rw [upd_same] at e
      rw [upd_same]
      exact e
    · rw [upd_ne hp] at e ⊢
      exact S.ex a u e
  frame := fun a u hm e => by
    have q := S.frame a u hm e
    rw [upd_ne (ne_of_none q h)]
    exact q
  fz := fun a e => by
    have hp : a ≠ p := fun z => by
      subst z
      exact e (S.fresh h)
    rw [upd_ne hp]
    exact S.fz a e
  alive := fun a hm => by
    have hp : a ≠ p := fun z => S.notM h (by rw [← z]; exact hm)
    rw [upd_ne hp]
    exact S.alive a hm
  own := fun q hq => by
    obtain ⟨h1, h2, h3⟩ := S.own q hq
    have hp := S.freshO h q hq
    refine ⟨by rw [upd_ne hp]; exact h1, h2.mono (Ex.new (S.ex.none h)) fun o e => ?_, h3⟩
    rw [upd_ne hp]
    exact e
  nd := S.nd
/-- an object that is not told of -/
theorem S0.junk (S : S0 K Z F H O) {p : Addr} (o : HO) (h : H p = none) : S0 K Z F (upd H p o) O where
  ex := S.ex.trans (Ex.new h)
  frame := fun a u hm e => by
    have q := S.frame a u hm e
    rw [upd_ne (ne_of_none q h)]
    exact q
  fz := S.fz
  alive := fun a hm => by
    have hp : a ≠ p := fun z => S.notM h (by rw [← z]; exact hm)
    rw [upd_ne hp]
    exact S.alive a hm
  own := fun q hq => by
    obtain ⟨h1, h2, h3⟩ := S.own q hq
    have hp := S.freshO h q hq
    refine ⟨h1, h2.mono (Ex.refl _) fun o e => ?_, h3⟩
    rw [upd_ne hp]
    exact e
  nd := S.nd
/-- a new object that is owned -/
theorem S0.new (S : S0 K Z F H O) {p : Addr} (o : HO) (d : D) (h : H p = none) (hm : Mu K F (upd H p o) p d) : S0 K Z F (upd H p o) (⟨p, true, d⟩ :: O) where
  ex := S.ex.trans (Ex.new h)
  frame := (S.junk o h).frame
  fz := S.fz
  alive := (S.junk o h).alive
  own := fun q hq => by
    rcases List.mem_cons.mp hq with rfl | hq
    · exact ⟨S.ex.none h, hm, fun _ => S.fresh h, fun e => by cases e⟩
    · exact (S.junk o h).own q hq
  nd := by
    rw [List.map_cons, List.nodup_cons]
    refine ⟨fun hq => ?_, S.nd⟩
    obtain ⟨q, h1, h2⟩ := List.mem_map.mp hq
    exact S.freshO h q h1 h2
theorem nd_idx {O : List Ob} (nd : (O.map Ob.a).Nodup) {j : Nat} {a : Addr} {b : Bool} {d : D} (hj : O[j]? = some ⟨a, b, d⟩) {q : Ob} (hq : q ∈ O) (e : q.a = a) : q = ⟨a, b, d⟩ := by
  obtain ⟨i, hi, rfl⟩ := List.getElem_of_mem hq
  have h1 : (O.map Ob.a)[i]? = some a := by
    rw [List.getElem?_map, List.getElem?_eq_getElem hi]
    exact congrArg some e
  have h2 : (O.map Ob.a)[j]? = some a := by
    rw [List.getElem?_map, hj]
    rfl
  have e2 := nd_ix nd h1 h2
  subst e2
  rw [List.getElem?_eq_getElem hi] at hj
  exact Option.some.inj hj
theorem map_a_set {O : List Ob} {j : Nat} {a : Addr} {b b' : Bool} {d d' : D} (hj : O[j]? = some ⟨a, b, d⟩) : (O.set j ⟨a, b', d'⟩).map Ob.a = O.map Ob.a := by
  rw [List.map_set]
  apply List.ext_getElem?
  intro i
  by_cases h : j = i
  · subst h
    have hl : j < (O.map Ob.a).length := by
      rw [List.length_map]
      exact (List.getElem?_eq_some_iff.mp hj).1
    rw [List.getElem?_set_self hl, List.getElem?_map, hj]
    rfl
  · rw [List.getElem?_set_ne h]
/-- an owned object is written -/
theorem S0.write (S : S0 K Z F H O) {j : Nat} {a : Addr} {b : Bool} {d d' : D} {o : HO} (hj : O[j]? = some ⟨a, b, d⟩) (hm : Mu K F (upd H a o) a d') : S0 K Z F (upd H a o) (O.set j ⟨a, b, d'⟩) := by
  obtain ⟨h1, h2, h3, h4⟩ := S.own _ (List.mem_of_getElem? hj)
  refine ⟨fun x u e => ?_, fun x u hx e => ?_, S.fz, fun x hx => ?_, fun q hq => ?_, ?_⟩
  · have hx : x ≠ a := fun z => by
      subst z
      rw [h1] at e
      cases e
    rw [upd_ne hx]
    exact S.ex x u e
  · have hxa : x ≠ a := fun z => by
      subst z
      cases b with
      | true => rw [h3 rfl] at e; cases e
      | false => exact hx (h4 rfl)
    rw [upd_ne hxa]
    exact S.frame x u hx e
  · by_cases z : x = a
    · subst z
      rw [upd_same]
      intro q
      cases q
    · rw [upd_ne z]
      exact S.alive x hx
  · rcases List.mem_or_eq_of_mem_set hq with hq | rfl
    · by_cases z : q.a = a
      · have e := nd_idx S.nd hj hq z
        subst e
        have hi : (O.set j ⟨a, b, d'⟩)[j]? = some ⟨a, b, d'⟩ := List.getElem?_set_self (List.getElem?_eq_some_iff.mp hj).1
        have nd2 : ((O.set j ⟨a, b, d'⟩).map Ob.a).Nodup := by rw [map_a_set hj]; exact S.nd
        have e2 := nd_idx nd2 hi (by assumption) rfl
        have e3 : d = d' := congrArg Ob.d e2
        subst e3
        exact ⟨h1, hm, h3, h4⟩
      · obtain ⟨k1, k2, k3⟩ := S.own q hq
        refine ⟨k1, k2.mono (Ex.refl _) fun u e => ?_, k3⟩
        rw [upd_ne z]
        exact e
    · exact ⟨h1, hm, h3, h4⟩
  · rw [map_a_set hj]
    exact S.nd
/-- some of what is owned is let go -/
theorem S0.sub (S : S0 K Z F H O) {O' : List Ob} (h : O'.Sublist O) : S0 K Z F H O' :=
  ⟨S.ex, S.frame, S.fz, S.alive, fun q hq => S.own q (h.subset hq), S.nd.sublist (h.map _)⟩
/-- what was owned (and made here) stays as it is from now on -/
theorem S0.freeze (S : S0 K Z F H O) {j : Nat} {a : Addr} {d : D} (hj : O[j]? = some ⟨a, true, d⟩) : ∃ F', Ex F F' ∧ S0 K Z F' H (O.eraseIdx j) ∧ Rp K F' d (.ref a) := by
  obtain ⟨h1, h2, h3, _⟩ := S.own _ (List.mem_of_getElem? hj)
  obtain ⟨o, ho⟩ := h2.some
  refine ⟨upd F a o, Ex.new h1, ⟨fun x u e => ?_, S.frame, fun x hx => ?_, S.alive, fun q hq => ?_, S.nd.sublist ((List.eraseIdx_sublist _ _).map _)⟩, ?_⟩
  · by_cases z : x = a
    · subst z
      rw [upd_same] at e
      rw [ho]
      exact e
    · rw [upd_ne z] at e
      exact S.ex x u e
  · have z : x ≠ a := fun z => by
      subst z
      exact hx (h3 rfl)
    rw [upd_ne z]
    exact S.fz x hx
  · obtain ⟨k1, k2, k3⟩ := S.own q ((List.eraseIdx_sublist _ _).subset hq)
    have z : q.a ≠ a := fun z => by
      have e := nd_idx S.nd hj ((List.eraseIdx_sublist _ _).subset hq) z
      subst e
      obtain ⟨i, hi, e⟩ := List.getElem_of_mem hq
      have hjl := (List.getElem?_eq_some_iff.mp hj).1
      have e2 : (O.eraseIdx j)[i]? = some ⟨a, true, d⟩ := by rw [List.getElem?_eq_getElem hi, e]
      rw [List.getElem?_eraseIdx] at e2
      have key : ∀ m : Nat, O[m]? = some ⟨a, true, d⟩ → m = j := fun m hm => nd_ix (l := O.map Ob.a) S.nd (by rw [List.getElem?_map, hm]; rfl) (by rw [List.getElem?_map, hj]; rfl)
      by_cases hij : i < j
      · rw [if_pos hij] at e2
        have := key i e2
        omega
      · rw [if_neg hij] at e2
        have := key (i + 1) e2
        omega
    refine ⟨by rw [upd_ne z]; exact k1, k2.mono (Ex.new h1) fun _ e => e, k3⟩
  · have ea : (upd F a o) a = some o := upd_same
    cases d with
    | lst xs =>
      obtain ⟨vs, e1, e2⟩ := h2
      rw [ho] at e1
      cases e1
      exact .lst ea (e2.mono (Ex.new h1))
    | dK kds =>
      obtain ⟨vs, e1, e2, e3⟩ := h2
      rw [ho] at e1
      cases e1
      exact .dK ea e2 (e3.mono (Ex.new h1))
    | dT kds =>
      obtain ⟨vs, e1, e2, e3⟩ := h2
      rw [ho] at e1
      cases e1
      exact .dT ea e2 (e3.mono (Ex.new h1))
    | ins C fds =>
      obtain ⟨dx, vs, e1, e2, e3⟩ := h2
      rw [ho] at e1
      cases e1
      exact .ins ea e2 (e3.mono (Ex.new h1))
    | _ => exact h2.elim
end
end PyD
/-! PyD1: judgements over slots of data and owned objects; the first rules. -/
namespace PyD
open PySem PySem.Spec L2
abbrev Gm := List (Option D)
abbrev Ow := List Ob
structure Slots (K : PySem.W.Frag) (F : Hp) (G : Gm) (σ : L2.St) : Prop where
  len : G.length = σ.length
  at_ : ∀ (i : Nat) (d : D), G[i]? = some (some d) → ∃ v : V, σ[i]? = some (some v) ∧ Rp K F d v
section
variable {K : PySem.W.Frag} {F F' : Hp} {G G' : Gm} {σ : L2.St}
theorem Slots.mono (s : Slots K F G σ) (e : Ex F F') : Slots K F' G σ := ⟨s.len, fun i d h => let ⟨v, a, b⟩ := s.at_ i d h; ⟨v, a, b.mono e⟩⟩
theorem Slots.set (s : Slots K F G σ) {i : Nat} {d : D} {v : V} (h : Rp K F d v) : Slots K F (G.set i (some d)) (σ.set i (some v)) := by
  refine ⟨by rw [List.length_set, List.length_set]; exact s.len, fun j e hj => ?_⟩
  by_cases hij : i = j
  · subst hij
    have hl : i < (G.set i (some d)).length := (List.getElem?_eq_some_iff.mp hj).1
    rw [List.length_set] at hl
    rw [List.getElem?_set_self hl] at hj
    cases hj
    rw [List.getElem?_set_self (by rw [← s.len]; exact hl)]
    exact ⟨v, rfl, h⟩
  · rw [List.getElem?_set_ne hij] at hj ⊢
    exact s.at_ j e hj
theorem Slots.unset (s : Slots K F G σ) {i : Nat} {v : Option V} : Slots K F (G.set i none) (σ.set i v) := by
  refine ⟨by rw [List.length_set, List.length_set]; exact s.len, fun j e hj => ?_⟩
  by_cases hij : i = j
  · subst hij
    have hl : i < (G.set i none).length := (List.getElem?_eq_some_iff.mp hj).1
    rw [List.length_set] at hl
    rw [List.getElem?_set_self hl] at hj
    cases hj
  · rw [List.getElem?_set_ne hij] at hj ⊢
    exact s.at_ j e hj
/-- a slot told otherwise (what it holds stays) -/
theorem Slots.re (s : Slots K F G σ) {i : Nat} {d d' : D} (h : G[i]? = some (some d)) (k : ∀ v, Rp K F d v → Rp K F d' v) : Slots K F (G.set i (some d')) σ := by
  refine ⟨by rw [List.length_set]; exact s.len, fun j e hj => ?_⟩
  by_cases hij : i = j
  · subst hij
    have hl : i < (G.set i (some d')).length := (List.getElem?_eq_some_iff.mp hj).1
    rw [List.length_set] at hl
    rw [List.getElem?_set_self hl] at hj
    cases hj
    obtain ⟨v, h1, h2⟩ := s.at_ i d h
    exact ⟨v, h1, k v h2⟩
  · rw [List.getElem?_set_ne hij] at hj
    exact s.at_ j e hj
/-- slots forgotten -/
theorem Slots.weak (s : Slots K F G σ) (hl : G'.length = G.length) (h : ∀ (i : Nat) (d : D), G'[i]? = some (some d) → G[i]? = some (some d)) : Slots K F G' σ := ⟨by rw [hl]; exact s.len, fun i d e => s.at_ i d (h i d e)⟩
end
/-- an exception: its class, its attributes -/
structure Xc where
  cls : Addr
  fs : List (Str × D)
def XR (K : PySem.W.Frag) (F : Hp) (x : Xc) (d : Option Addr) : Prop := ∀ a, Rp K F (.exc a x.cls d x.fs) (.ref a)
abbrev Ek := Xc → Gm → Ow → Prop
def XOk (K : PySem.W.Frag) (Z : En0) (F0 : Hp) (ex : Ek) (W : WX) : Prop := ∀ x d F H σ G O, Ex F0 F → S0 K Z F H O → Slots K F G σ → XR K F x d → ex x G O → W (.ref x.cls) d σ H
theorem XOk.mono {K : PySem.W.Frag} {Z : En0} {F F1 : Hp} {ex : Ek} {W : WX} (X : XOk K Z F ex W) (e : Ex F F1) : XOk K Z F1 ex W := fun x d F' H σ G O a => X x d F' H σ G O (e.trans a)
def wpE (K : PySem.W.Frag) (W : WX) (ex : Ek) (te : TE) (G : Gm) (O : Ow) (P : D → Ow → Prop) : Prop :=
  ∀ Z F H σ, XOk K Z F ex W → S0 K Z F H O → Slots K F G σ → ∀ Q : VK, (∀ d v F' H' O', S0 K Z F' H' O' → Ex F F' → Rp K F' d v → P d O' → Q v H') → te σ H Q
def wpT (K : PySem.W.Frag) (W : WX) (ex : Ek) (te : TT) (G : Gm) (O : Ow) (P : Bool → Ow → Prop) : Prop :=
  ∀ Z F H σ, XOk K Z F ex W → S0 K Z F H O → Slots K F G σ → ∀ Q : Bool → Hp → Prop, (∀ b F' H' O', S0 K Z F' H' O' → Ex F F' → P b O' → Q b H') → te σ H Q
def wpA (K : PySem.W.Frag) (W : WX) (ex : Ek) (te : TA) (G : Gm) (O : Ow) (P : List D → Ow → Prop) : Prop :=
  ∀ Z F H σ, XOk K Z F ex W → S0 K Z F H O → Slots K F G σ → ∀ Q : List V → Hp → Prop, (∀ d v F' H' O', S0 K Z F' H' O' → Ex F F' → Rps K F' d v → P d O' → Q v H') → te σ H Q
def wpO (K : PySem.W.Frag) (W : WX) (ex : Ek) (te : TO) (G : Gm) (O : Ow) (P : Option Int → Ow → Prop) : Prop :=
  ∀ Z F H σ, XOk K Z F ex W → S0 K Z F H O → Slots K F G σ → ∀ Q : Option Int → Hp → Prop, (∀ b F' H' O', S0 K Z F' H' O' → Ex F F' → P b O' → Q b H') → te σ H Q
/-- operations on values -/
def wpR (K : PySem.W.Frag) (r : R2) (x y : D) (O : Ow) (P : D → Ow → Prop) : Prop :=
  ∀ Z F H vx vy, S0 K Z F H O → Rp K F x vx → Rp K F y vy → ∀ Q : VK, (∀ d v F' H' O', S0 K Z F' H' O' → Ex F F' → Rp K F' d v → P d O' → Q v H') → r vx vy H Q
def wpU (K : PySem.W.Frag) (r : V → Hp → VK → Prop) (x : D) (O : Ow) (P : D → Ow → Prop) : Prop :=
  ∀ Z F H vx, S0 K Z F H O → Rp K F x vx → ∀ Q : VK, (∀ d v F' H' O', S0 K Z F' H' O' → Ex F F' → Rp K F' d v → P d O' → Q v H') → r vx H Q
def wpC (K : PySem.W.Frag) (r : List V → Hp → VK → Prop) (xs : List D) (O : Ow) (P : D → Ow → Prop) : Prop :=
  ∀ Z F H vs, S0 K Z F H O → Rps K F xs vs → ∀ Q : VK, (∀ d v F' H' O', S0 K Z F' H' O' → Ex F F' → Rp K F' d v → P d O' → Q v H') → r vs H Q
def wpM (K : PySem.W.Frag) (r : V → List V → Hp → VK → Prop) (x : D) (xs : List D) (O : Ow) (P : D → Ow → Prop) : Prop :=
  ∀ Z F H vx vs, S0 K Z F H O → Rp K F x vx → Rps K F xs vs → ∀ Q : VK, (∀ d v F' H' O', S0 K Z F' H' O' → Ex F F' → Rp K F' d v → P d O' → Q v H') → r vx vs H Q
structure EnD where
  nx : Gm → Ow → Prop
  rt : D → Ow → Prop
  bk : Gm → Ow → Prop := fun _ _ => False
  ct : Gm → Ow → Prop := fun _ _ => False
structure EnOk (K : PySem.W.Frag) (Z : En0) (F : Hp) (E : EnD) (D0 : Ends) : Prop where
  nx : ∀ F' H σ G O, Ex F F' → S0 K Z F' H O → Slots K F' G σ → E.nx G O → D0.nx σ H
  rt : ∀ F' H d v O, Ex F F' → S0 K Z F' H O → Rp K F' d v → E.rt d O → D0.rt v H
  bk : ∀ F' H σ G O, Ex F F' → S0 K Z F' H O → Slots K F' G σ → E.bk G O → D0.bk σ H
  ct : ∀ F' H σ G O, Ex F F' → S0 K Z F' H O → Slots K F' G σ → E.ct G O → D0.ct σ H
theorem EnOk.mono {K : PySem.W.Frag} {Z : En0} {F F1 : Hp} {E : EnD} {D0 : Ends} (q : EnOk K Z F E D0) (e : Ex F F1) : EnOk K Z F1 E D0 :=
  ⟨fun F' H σ G O a => q.nx F' H σ G O (e.trans a), fun F' H d v O a => q.rt F' H d v O (e.trans a), fun F' H σ G O a => q.bk F' H σ G O (e.trans a), fun F' H σ G O a => q.ct F' H σ G O (e.trans a)⟩
def wpS (K : PySem.W.Frag) (W : WX) (ex : Ek) (ts : TS) (G : Gm) (O : Ow) (E : EnD) : Prop :=
  ∀ Z F H σ, XOk K Z F ex W → S0 K Z F H O → Slots K F G σ → ∀ D0 : Ends, EnOk K Z F E D0 → ts D0 σ H
section
variable {K : PySem.W.Frag} {W : WX} {ex : Ek} {G : Gm} {O : Ow} {P : D → Ow → Prop} {PT : Bool → Ow → Prop} {PA : List D → Ow → Prop} {E : EnD} {ta tb te tc : TE} {tt uu : TT} {t u : TS} {aa ab : TA}
/-! ### expressions -/
theorem wpE_var {i : Nat} {d : D} (h : G[i]? = some (some d)) (p : P d O) : wpE K W ex (tVar i) G O P := fun Z F H σ _ S s Q q => by
  obtain ⟨v, h1, h2⟩ := s.at_ i d h
  exact ⟨v, h1, q d v F H O S (Ex.refl F) h2 p⟩
theorem wpE_c {d : D} {v : V} (h : ∀ F, Rp K F d v) (p : P d O) : wpE K W ex (tC v) G O P := fun Z F H σ _ S s Q q => q d v F H O S (Ex.refl F) (h F) p
theorem wpE_int {i : Int} (p : P (.int i) O) : wpE K W ex (tC (.int i)) G O P := wpE_c (fun _ => .int i) p
theorem wpE_bl {i : Bool} (p : P (.bl i) O) : wpE K W ex (tC (.bl i)) G O P := wpE_c (fun _ => .bl i) p
theorem wpE_str {i : Str} (p : P (.str i) O) : wpE K W ex (tC (.str i)) G O P := wpE_c (fun _ => .str i) p
theorem wpE_non (p : P .non O) : wpE K W ex (tC .non) G O P := wpE_c (fun _ => .non) p
theorem wpE_ref {a : Addr} (p : P (.ref a) O) : wpE K W ex (tC (.ref a)) G O P := wpE_c (fun _ => .ref a) p
theorem wpE_ty {a : String} (p : P (.ty a) O) : wpE K W ex (tC (.ty a)) G O P := wpE_c (fun _ => .ty a) p
theorem wpE_mono {P' : D → Ow → Prop} (h : wpE K W ex te G O P) (k : ∀ d O', P d O' → P' d O') : wpE K W ex te G O P' := fun Z F H σ X S s Q q => h Z F H σ X S s Q fun d v F' H' O' S' e r p => q d v F' H' O' S' e r (k _ _ p)
theorem wpE_op {r : R2} (h : wpE K W ex ta G O fun x O1 => wpE K W ex tb G O1 fun y O2 => wpR K r x y O2 P) : wpE K W ex (tOp r ta tb) G O P := fun Z F H σ X S s Q q =>
  h Z F H σ X S s _ fun x vx F1 H1 O1 S1 e1 r1 p1 => p1 Z F1 H1 σ (X.mono e1) S1 (s.mono e1) _ fun y vy F2 H2 O2 S2 e2 r2 p2 =>
    p2 Z F2 H2 vx vy S2 (r1.mono e2) r2 Q fun d v F3 H3 O3 S3 e3 r3 p3 => q d v F3 H3 O3 S3 (e1.trans (e2.trans e3)) r3 p3
theorem wpE_un {r : V → Hp → VK → Prop} (h : wpE K W ex ta G O fun x O1 => wpU K r x O1 P) : wpE K W ex (tUn r ta) G O P := fun Z F H σ X S s Q q =>
  h Z F H σ X S s _ fun x vx F1 H1 O1 S1 e1 r1 p1 => p1 Z F1 H1 vx S1 r1 Q fun d v F3 H3 O3 S3 e3 r3 p3 => q d v F3 H3 O3 S3 (e1.trans e3) r3 p3
theorem wpE_cb {r : List V → Hp → VK → Prop} (h : wpA K W ex aa G O fun xs O1 => wpC K r xs O1 P) : wpE K W ex (tCB r aa) G O P := fun Z F H σ X S s Q q =>
  h Z F H σ X S s _ fun x vx F1 H1 O1 S1 e1 r1 p1 => p1 Z F1 H1 vx S1 r1 Q fun d v F3 H3 O3 S3 e3 r3 p3 => q d v F3 H3 O3 S3 (e1.trans e3) r3 p3
theorem wpA_nil (p : PA [] O) : wpA K W ex tNil G O PA := fun Z F H σ _ S s Q q => q [] [] F H O S (Ex.refl F) .nil p
theorem wpA_cons (h : wpE K W ex ta G O fun x O1 => wpA K W ex aa G O1 fun xs O2 => PA (x :: xs) O2) : wpA K W ex (tCons ta aa) G O PA := fun Z F H σ X S s Q q =>
  h Z F H σ X S s _ fun x vx F1 H1 O1 S1 e1 r1 p1 => p1 Z F1 H1 σ (X.mono e1) S1 (s.mono e1) _ fun y vy F2 H2 O2 S2 e2 r2 p2 => q _ _ F2 H2 O2 S2 (e1.trans e2) (.cons (r1.mono e2) r2) p2
theorem wpO_none {PO : Option Int → Ow → Prop} (p : PO none O) : wpO K W ex tNoPart G O PO := fun Z F H σ _ S s Q q => q none F H O S (Ex.refl F) p
theorem wpO_some {PO : Option Int → Ow → Prop} (h : wpE K W ex ta G O fun d O1 => ∃ i, d = .int i ∧ PO (some i) O1) : wpO K W ex (tPart ta) G O PO := fun Z F H σ X S s Q q =>
  h Z F H σ X S s _ fun d v F1 H1 O1 S1 e1 r1 ⟨i, hd, p⟩ => by
    subst hd
    cases r1
    exact ⟨i, rfl, q _ F1 H1 O1 S1 e1 p⟩
theorem wpE_if (h : wpT K W ex tt G O fun b O1 => (b = true → wpE K W ex ta G O1 P) ∧ (b = false → wpE K W ex tb G O1 P)) : wpE K W ex (tIf tt ta tb) G O P := fun Z F H σ X S s Q q =>
  h Z F H σ X S s _ fun b F1 H1 O1 S1 e1 p1 => by
    cases b with
    | true => exact p1.1 rfl Z F1 H1 σ (X.mono e1) S1 (s.mono e1) Q fun d v F3 H3 O3 S3 e3 r3 p3 => q d v F3 H3 O3 S3 (e1.trans e3) r3 p3
    | false => exact p1.2 rfl Z F1 H1 σ (X.mono e1) S1 (s.mono e1) Q fun d v F3 H3 O3 S3 e3 r3 p3 => q d v F3 H3 O3 S3 (e1.trans e3) r3 p3
/-! ### tests -/
theorem wpT_test (h : wpE K W ex te G O fun d O1 => ∃ b, d = .bl b ∧ PT b O1) : wpT K W ex (tTest te) G O PT := fun Z F H σ X S s Q q =>
  h Z F H σ X S s _ fun d v F1 H1 O1 S1 e1 r1 ⟨b, hd, p⟩ => by
    subst hd
    cases r1
    exact ⟨b, rfl, q b F1 H1 O1 S1 e1 p⟩
theorem wpT_B (h : wpE K W ex te G O fun d O1 => ∃ b, d = .bl b ∧ PT b O1) : wpT K W ex (tB te) G O PT := wpT_test h
theorem wpT_and (h : wpT K W ex tt G O fun b O1 => (b = true → wpT K W ex uu G O1 PT) ∧ (b = false → PT false O1)) : wpT K W ex (tAnd tt uu) G O PT := fun Z F H σ X S s Q q =>
  h Z F H σ X S s _ fun b F1 H1 O1 S1 e1 p1 => by
    cases b with
    | true => exact p1.1 rfl Z F1 H1 σ (X.mono e1) S1 (s.mono e1) Q fun b F3 H3 O3 S3 e3 p3 => q b F3 H3 O3 S3 (e1.trans e3) p3
    | false => exact q _ F1 H1 O1 S1 e1 (p1.2 rfl)
theorem wpT_or (h : wpT K W ex tt G O fun b O1 => (b = true → PT true O1) ∧ (b = false → wpT K W ex uu G O1 PT)) : wpT K W ex (tOr tt uu) G O PT := fun Z F H σ X S s Q q =>
  h Z F H σ X S s _ fun b F1 H1 O1 S1 e1 p1 => by
    cases b with
    | true => exact q _ F1 H1 O1 S1 e1 (p1.1 rfl)
    | false => exact p1.2 rfl Z F1 H1 σ (X.mono e1) S1 (s.mono e1) Q fun b F3 H3 O3 S3 e3 p3 => q b F3 H3 O3 S3 (e1.trans e3) p3
theorem wpT_not (h : wpT K W ex tt G O fun b O1 => PT (!b) O1) : wpT K W ex (tNot tt) G O PT := fun Z F H σ X S s Q q =>
  h Z F H σ X S s _ fun b F1 H1 O1 S1 e1 p1 => q _ F1 H1 O1 S1 e1 p1
theorem wpT_mono {P' : Bool → Ow → Prop} (h : wpT K W ex tt G O PT) (k : ∀ d O', PT d O' → P' d O') : wpT K W ex tt G O P' := fun Z F H σ X S s Q q => h Z F H σ X S s Q fun d F' H' O' S' e p => q d F' H' O' S' e (k _ _ p)
/-- .. as values (bools) -/
theorem wpE_andV (h : wpE K W ex ta G O fun d O1 => ∃ b, d = .bl b ∧ (b = true → wpE K W ex tb G O1 P) ∧ (b = false → P (.bl false) O1)) : wpE K W ex (tAndV ta tb) G O P := fun Z F H σ X S s Q q =>
  h Z F H σ X S s _ fun d v F1 H1 O1 S1 e1 r1 ⟨b, hd, p1⟩ => by
    subst hd
    cases r1
    refine ⟨b, rfl, ?_⟩
    cases b with
    | true => exact p1.1 rfl Z F1 H1 σ (X.mono e1) S1 (s.mono e1) Q fun d v F3 H3 O3 S3 e3 r3 p3 => q d v F3 H3 O3 S3 (e1.trans e3) r3 p3
    | false => exact q _ _ F1 H1 O1 S1 e1 (.bl false) (p1.2 rfl)
theorem wpE_orV (h : wpE K W ex ta G O fun d O1 => ∃ b, d = .bl b ∧ (b = true → P (.bl true) O1) ∧ (b = false → wpE K W ex tb G O1 P)) : wpE K W ex (tOrV ta tb) G O P := fun Z F H σ X S s Q q =>
  h Z F H σ X S s _ fun d v F1 H1 O1 S1 e1 r1 ⟨b, hd, p1⟩ => by
    subst hd
    cases r1
    refine ⟨b, rfl, ?_⟩
    cases b with
    | true => exact q _ _ F1 H1 O1 S1 e1 (.bl true) (p1.1 rfl)
    | false => exact p1.2 rfl Z F1 H1 σ (X.mono e1) S1 (s.mono e1) Q fun d v F3 H3 O3 S3 e3 r3 p3 => q d v F3 H3 O3 S3 (e1.trans e3) r3 p3
theorem wpE_notV (h : wpE K W ex ta G O fun d O1 => ∃ b, d = .bl b ∧ P (.bl (!b)) O1) : wpE K W ex (tNotV ta) G O P := fun Z F H σ X S s Q q =>
  h Z F H σ X S s _ fun d v F1 H1 O1 S1 e1 r1 ⟨b, hd, p⟩ => by
    subst hd
    cases r1
    exact ⟨b, rfl, q _ _ F1 H1 O1 S1 e1 (.bl _) p⟩
/-! ### statements -/
theorem wpS_mono {E' : EnD} (h : wpS K W ex t G O E) (k1 : ∀ a b, E.nx a b → E'.nx a b) (k2 : ∀ a b, E.rt a b → E'.rt a b) (k3 : ∀ a b, E.bk a b → E'.bk a b) (k4 : ∀ a b, E.ct a b → E'.ct a b) : wpS K W ex t G O E' := fun Z F H σ X S s D0 q =>
  h Z F H σ X S s D0 ⟨fun F H σ G O e a b c => q.nx F H σ G O e a b (k1 _ _ c), fun F H d v O e a b c => q.rt F H d v O e a b (k2 _ _ c), fun F H σ G O e a b c => q.bk F H σ G O e a b (k3 _ _ c), fun F H σ G O e a b c => q.ct F H σ G O e a b (k4 _ _ c)⟩
theorem wpS_next (p : E.nx G O) : wpS K W ex tNext G O E := fun Z F H σ X S s D0 q => q.nx F H σ G O (Ex.refl F) S s p
theorem wpS_brk (p : E.bk G O) : wpS K W ex tBreak G O E := fun Z F H σ X S s D0 q => q.bk F H σ G O (Ex.refl F) S s p
theorem wpS_cont (p : E.ct G O) : wpS K W ex tCont G O E := fun Z F H σ X S s D0 q => q.ct F H σ G O (Ex.refl F) S s p
theorem wpS_seq (h : wpS K W ex t G O { E with nx := fun G' O' => wpS K W ex u G' O' E }) : wpS K W ex (tSeq t u) G O E := fun Z F H σ X S s D0 q =>
  h Z F H σ X S s { D0 with nx := u D0 } ⟨fun F1 H1 σ1 G1 O1 e1 S1 s1 p1 => p1 Z F1 H1 σ1 (X.mono e1) S1 s1 D0 (q.mono e1), q.rt, q.bk, q.ct⟩
theorem wpS_ret (h : wpE K W ex te G O E.rt) : wpS K W ex (tRet te) G O E := fun Z F H σ X S s D0 q =>
  h Z F H σ X S s _ fun d v F1 H1 O1 S1 e1 r1 p1 => q.rt F1 H1 d v O1 e1 S1 r1 p1
theorem wpS_retN (p : E.rt .non O) : wpS K W ex tRetN G O E := fun Z F H σ X S s D0 q => q.rt F H .non .non O (Ex.refl F) S .non p
theorem wpS_drop (h : wpE K W ex te G O fun _ O' => E.nx G O') : wpS K W ex (tDrop te) G O E := fun Z F H σ X S s D0 q =>
  h Z F H σ X S s _ fun d v F1 H1 O1 S1 e1 r1 p1 => q.nx F1 H1 σ G O1 e1 S1 (s.mono e1) p1
theorem wpS_if (h : wpT K W ex tt G O fun b O1 => (b = true → wpS K W ex t G O1 E) ∧ (b = false → wpS K W ex u G O1 E)) : wpS K W ex (tIfS tt t u) G O E := fun Z F H σ X S s D0 q =>
  h Z F H σ X S s _ fun b F1 H1 O1 S1 e1 p1 => by
    cases b with
    | true => exact p1.1 rfl Z F1 H1 σ (X.mono e1) S1 (s.mono e1) D0 (q.mono e1)
    | false => exact p1.2 rfl Z F1 H1 σ (X.mono e1) S1 (s.mono e1) D0 (q.mono e1)
theorem wpS_set {i : Nat} (h : wpE K W ex te G O fun d O' => E.nx (G.set i (some d)) O') : wpS K W ex (tAsg te (gName i)) G O E := fun Z F H σ X S s D0 q =>
  h Z F H σ X S s _ fun d v F1 H1 O1 S1 e1 r1 p1 => q.nx F1 H1 _ _ O1 e1 S1 ((s.mono e1).set r1) p1
/-- o[i] = e, by values -/
def wpPut (K : PySem.W.Frag) (r : TSet) (o i v : D) (O : Ow) (P : Ow → Prop) : Prop :=
  ∀ Z F H vo vi vv, S0 K Z F H O → Rp K F o vo → Rp K F i vi → Rp K F v vv → ∀ Q : Hp → Prop, (∀ F' H' O', S0 K Z F' H' O' → Ex F F' → P O' → Q H') → r vo vi vv H Q
theorem wpS_sub {r : TSet} (h : wpE K W ex te G O fun d O1 => wpE K W ex ta G O1 fun o O2 => wpE K W ex tb G O2 fun i O3 => wpPut K r o i d O3 fun O4 => E.nx G O4) : wpS K W ex (tAsg te (gSub ta tb r)) G O E := fun Z F H σ X S s D0 q =>
  h Z F H σ X S s _ fun d v F1 H1 O1 S1 e1 r1 p1 => p1 Z F1 H1 σ (X.mono e1) S1 (s.mono e1) _ fun o vo F2 H2 O2 S2 e2 r2 p2 => p2 Z F2 H2 σ (X.mono (e1.trans e2)) S2 (s.mono (e1.trans e2)) _ fun i vi F3 H3 O3 S3 e3 r3 p3 =>
    p3 Z F3 H3 vo vi v S3 (r2.mono e3) r3 (r1.mono (e2.trans e3)) _ fun F4 H4 O4 S4 e4 p4 => q.nx F4 H4 σ G O4 (e1.trans (e2.trans (e3.trans e4))) S4 (s.mono (e1.trans (e2.trans (e3.trans e4)))) p4
/-- name op= e, by values -/
theorem wpS_aug {i : Nat} {ti : TIp} {d : D} (h : G[i]? = some (some d)) (k : wpE K W ex te G O fun y O1 => wpR K ti d y O1 fun z O2 => E.nx (G.set i (some z)) O2) : wpS K W ex (tAug i te ti) G O E := fun Z F H σ X S s D0 q => by
  obtain ⟨v, h1, h2⟩ := s.at_ i d h
  exact ⟨v, h1, k Z F H σ X S s _ fun y vy F1 H1 O1 S1 e1 r1 p1 => p1 Z F1 H1 v vy S1 (h2.mono e1) r1 _ fun z vz F2 H2 O2 S2 e2 r2 p2 => q.nx F2 H2 _ _ O2 (e1.trans e2) S2 ((s.mono (e1.trans e2)).set r2) p2⟩
/-- what is owned (and made here) is told as it stands from now on: slot i held it -/
theorem wpS_frz {i j : Nat} {a : Addr} {d : D} (hi : G[i]? = some (some (.mut a))) (hj : O[j]? = some ⟨a, true, d⟩) (h : wpS K W ex t (G.set i (some d)) (O.eraseIdx j) E) : wpS K W ex t G O E := fun Z F H σ X S s D0 q => by
  obtain ⟨F', e, S', r⟩ := S.freeze hj
  exact h Z F' H σ (X.mono e) S' ((s.mono e).re hi fun v hv => by cases hv; exact r) D0 (q.mono e)
theorem wpS_subO {O' : Ow} (hs : O'.Sublist O) (h : wpS K W ex t G O' E) : wpS K W ex t G O E := fun Z F H σ X S s D0 q => h Z F H σ X (S.sub hs) s D0 q
theorem wpS_weak {G' : Gm} (hl : G'.length = G.length) (hk : ∀ (i : Nat) (d : D), G'[i]? = some (some d) → G[i]? = some (some d)) (h : wpS K W ex t G' O E) : wpS K W ex t G O E := fun Z F H σ X S s D0 q => h Z F H σ X S (s.weak hl hk) D0 q
/-! ### loops -/
theorem wpS_while (I : Nat → Gm → Ow → Prop) {m : Nat} (h0 : I m G O)
    (hs : ∀ m G O, I m G O → wpT K W ex tt G O fun b O1 => (b = true → wpS K W ex t G O1 { E with nx := fun G' O' => ∃ m', m' < m ∧ I m' G' O', ct := fun G' O' => ∃ m', m' < m ∧ I m' G' O', bk := E.nx }) ∧ (b = false → E.nx G O1)) :
    wpS K W ex (tWhile tt t) G O E := fun Z F0 H σ X S s D0 q => by
  refine ⟨fun m σ H => ∃ F G O, Ex F0 F ∧ S0 K Z F H O ∧ Slots K F G σ ∧ I m G O, ⟨m, F0, G, O, Ex.refl _, S, s, h0⟩, fun m σ H hI => ?_⟩
  obtain ⟨F, G, O, e0, S, s, hI⟩ := hI
  refine hs m G O hI Z F H σ (X.mono e0) S s _ fun b F1 H1 O1 S1 e1 p1 => ?_
  cases b with
  | true =>
    show ∃ N : L2.St → Hp → Prop, _
    refine ⟨fun σ' H' => ∃ m', m' < m ∧ ∃ F G O, Ex F0 F ∧ S0 K Z F H' O ∧ Slots K F G σ' ∧ I m' G O, fun σ' H' ⟨m', h1, h2⟩ => ⟨m', h1, h2⟩, p1.1 rfl Z F1 H1 σ (X.mono (e0.trans e1)) S1 (s.mono e1) _ ⟨?_, (q.mono (e0.trans e1)).rt, (q.mono (e0.trans e1)).nx, ?_⟩⟩
    · exact fun F2 H2 σ2 G2 O2 e2 S2 s2 ⟨m', h1, h2⟩ => ⟨m', h1, F2, G2, O2, e0.trans (e1.trans e2), S2, s2, h2⟩
    · exact fun F2 H2 σ2 G2 O2 e2 S2 s2 ⟨m', h1, h2⟩ => ⟨m', h1, F2, G2, O2, e0.trans (e1.trans e2), S2, s2, h2⟩
  | false => exact q.nx F1 H1 σ G O1 (e0.trans e1) S1 (s.mono e1) (p1.2 rfl)
/-- targets -/
def wpG (K : PySem.W.Frag) (g : TG) (d : D) (G : Gm) (O : Ow) (P : Gm → Ow → Prop) : Prop :=
  ∀ Z F H σ v, S0 K Z F H O → Slots K F G σ → Rp K F d v → ∀ Q : L2.St → Hp → Prop, (∀ F' H' σ' G' O', S0 K Z F' H' O' → Slots K F' G' σ' → Ex F F' → P G' O' → Q σ' H') → g v σ H Q
theorem wpG_name {i : Nat} {d : D} {PG : Gm → Ow → Prop} (p : PG (G.set i (some d)) O) : wpG K (gName i) d G O PG := fun Z F H σ v S s r Q q => q F H _ _ O S (s.set r) (Ex.refl F) p
/-- several targets -/
def wpGs (K : PySem.W.Frag) (g : TGs) (ds : List D) (G : Gm) (O : Ow) (P : Gm → Ow → Prop) : Prop :=
  ∀ Z F H σ vs, S0 K Z F H O → Slots K F G σ → Rps K F ds vs → ∀ Q : L2.St → Hp → Prop, (∀ F' H' σ' G' O', S0 K Z F' H' O' → Slots K F' G' σ' → Ex F F' → P G' O' → Q σ' H') → g vs σ H Q
theorem wpGs_nil {PG : Gm → Ow → Prop} (p : PG G O) : wpGs K gNil [] G O PG := fun Z F H σ vs S s r Q q => by
  cases r
  exact ⟨rfl, q F H σ G O S s (Ex.refl F) p⟩
theorem wpGs_cons {g : TG} {gs : TGs} {d : D} {ds : List D} {PG : Gm → Ow → Prop} (h : wpG K g d G O fun G1 O1 => wpGs K gs ds G1 O1 PG) : wpGs K (gCons g gs) (d :: ds) G O PG := fun Z F H σ vs S s r Q q => by
  cases r with
  | cons r1 r2 => exact ⟨_, _, rfl, h Z F H σ _ S s r1 _ fun F1 H1 σ1 G1 O1 S1 s1 e1 p1 => p1 Z F1 H1 σ1 _ S1 s1 (r2.mono e1) Q fun F2 H2 σ2 G2 O2 S2 s2 e2 p2 => q F2 H2 σ2 G2 O2 S2 s2 (e1.trans e2) p2⟩
theorem wpG_tup {n : Nat} {gs : TGs} {ds : List D} {PG : Gm → Ow → Prop} (hn : ds.length = n) (h : wpGs K gs ds G O PG) : wpG K (gTup K n gs) (.tup ds) G O PG := fun Z F H σ v S s r Q q => by
  cases r with
  | tup h1 h2 => exact ⟨_, _, rfl, ex_t S.ex h1, by rw [← h2.length]; exact hn, h Z F H σ _ S s h2 Q q⟩
/-- a sequence that a loop walks: frozen or owned -/
def seqOf (O : Ow) (d : D) (xs : List D) : Prop := d = .lst xs ∨ d = .kl xs ∨ ∃ a b, d = .mut a ∧ (⟨a, b, .lst xs⟩ : Ob) ∈ O
theorem seqOf.at {Z : En0} {F H : Hp} {d : D} {xs : List D} {v : V} (h : seqOf O d xs) (S : S0 K Z F H O) (r : Rp K F d v) : ∃ a vs, v = .ref a ∧ SqL K H a vs ∧ Rps K F xs vs := by
  rcases h with rfl | rfl | ⟨a, b, rfl, hm⟩
  · cases r with
    | lst h1 h2 => exact ⟨_, _, rfl, SqL.of (S.ex _ _ h1), h2⟩
  · cases r with
    | kl h1 h2 => exact ⟨_, _, rfl, ex_l S.ex h1, h2⟩
  · cases r
    obtain ⟨_, ⟨vs, h2, h3⟩, _⟩ := S.own _ hm
    exact ⟨_, vs, rfl, SqL.of h2, h3⟩
/-! ### what is walked -/
structure WalkOk (K : PySem.W.Frag) (J : It) (F1 : Hp) (xs : List D) (C : Ow → Prop) : Prop where
  go : ∀ Z F H O i x, S0 K Z F H O → Ex F1 F → C O → xs[i]? = some x → J.go i H ∧ ∀ v H', J.yld i H v H' → ∃ F', S0 K Z F' H' O ∧ Ex F F' ∧ Rp K F' x v
  stop : ∀ Z F H O, S0 K Z F H O → Ex F1 F → C O → J.stop xs.length H
def wpI (K : PySem.W.Frag) (W : WX) (ex : Ek) (wi : TI) (G : Gm) (O : Ow) (P : List D → (Ow → Prop) → Ow → Prop) : Prop :=
  ∀ Z F H σ, XOk K Z F ex W → S0 K Z F H O → Slots K F G σ → ∀ R : It → Hp → Prop, (∀ J xs C F' H' O', S0 K Z F' H' O' → Ex F F' → WalkOk K J F' xs C → P xs C O' → R J H') → wi σ H R
theorem wpI_list {PI : List D → (Ow → Prop) → Ow → Prop} (h : wpE K W ex te G O fun d O1 => ∃ xs, seqOf O1 d xs ∧ PI xs (fun O' => seqOf O' d xs) O1) : wpI K W ex (iList K te) G O PI := fun Z F H σ X S s R q =>
  h Z F H σ X S s _ fun d v F1 H1 O1 S1 e1 r1 ⟨xs, hsq, p⟩ => by
    obtain ⟨a, vs, rfl, hv, rv⟩ := hsq.at S1 r1
    refine ⟨a, rfl, ⟨vs, hv⟩, q _ xs _ F1 H1 O1 S1 e1 ⟨fun Z F2 H2 O2 i x S2 e2 hC hx => ?_, fun Z F2 H2 O2 S2 e2 hC => ?_⟩ p⟩
    · obtain ⟨a', vs', ea, hv', rv'⟩ := hC.at S2 (r1.mono e2)
      cases ea
      obtain ⟨y, hy, ry⟩ := rv'.get hx
      refine ⟨⟨vs', y, hv', hy⟩, fun z H3 hz => ?_⟩
      obtain ⟨rfl, fz⟩ := hz
      have ez : z = y := Option.some.inj ((fz _ hv').symm.trans hy)
      subst ez
      exact ⟨F2, S2, Ex.refl _, ry⟩
    · obtain ⟨a', vs', ea, hv', rv'⟩ := hC.at S2 (r1.mono e2)
      cases ea
      exact ⟨vs', hv', by rw [rv'.length]; exact Nat.le_refl _⟩
theorem wpI_tup {PI : List D → (Ow → Prop) → Ow → Prop} (h : wpE K W ex te G O fun d O1 => ∃ xs, d = .tup xs ∧ PI xs (fun _ => True) O1) : wpI K W ex (iTup K te) G O PI := fun Z F H σ X S s R q =>
  h Z F H σ X S s _ fun d v F1 H1 O1 S1 e1 r1 ⟨xs, hd, p⟩ => by
    subst hd
    cases r1 with
    | @tup a vs _ ht rv =>
    refine ⟨a, rfl, ⟨vs, ex_t S1.ex ht⟩, q _ xs _ F1 H1 O1 S1 e1 ⟨fun Z F2 H2 O2 i x S2 e2 hC hx => ?_, fun Z F2 H2 O2 S2 e2 hC => ?_⟩ p⟩
    · obtain ⟨y, hy, ry⟩ := rv.get hx
      have hv' := ex_t S2.ex (ex_t e2 ht)
      refine ⟨⟨vs, y, hv', hy⟩, fun z H3 hz => ?_⟩
      obtain ⟨rfl, fz⟩ := hz
      have ez : z = y := Option.some.inj ((fz _ hv').symm.trans hy)
      subst ez
      exact ⟨F2, S2, Ex.refl _, ry.mono e2⟩
    · exact ⟨vs, ex_t S2.ex (ex_t e2 ht), by rw [rv.length]; exact Nat.le_refl _⟩
/-- 0, 1, .. -/
def rngD (lo : Int) (n : Nat) : List D := (List.range n).map fun (i : Nat) => D.int (lo + (i : Int))
theorem rngD_len {lo : Int} {n : Nat} : (rngD lo n).length = n := by simp [rngD]
theorem rngD_at {lo : Int} {n i : Nat} {x : D} (h : (rngD lo n)[i]? = some x) : i < n ∧ x = .int (lo + (i : Int)) := by
  unfold rngD at h
  rw [List.getElem?_map] at h
  by_cases hi : i < n
  · rw [List.getElem?_range hi] at h
    exact ⟨hi, (Option.some.inj h).symm⟩
  · rw [List.getElem?_eq_none (by simpa using hi)] at h
    cases h
theorem walk_rng {lo : Int} {n : Nat} {F1 : Hp} : WalkOk K (Itr lo n) F1 (rngD lo n) (fun _ => True) where
  go := fun Z F H O i x S e _ hx => by
    obtain ⟨hi, rfl⟩ := rngD_at hx
    refine ⟨hi, fun v H' hy => ?_⟩
    obtain ⟨rfl, rfl⟩ := hy
    exact ⟨F, S, Ex.refl _, .int _⟩
  stop := fun Z F H O S e _ => by
    rw [rngD_len]
    exact Nat.le_refl _
theorem wpI_rng1 {PI : List D → (Ow → Prop) → Ow → Prop} (h : wpA K W ex aa G O fun ds O1 => ∃ n : Int, ds = [.int n] ∧ (-(2 ^ 62) ≤ n ∧ n < 2 ^ 62) ∧ PI (rngD 0 n.toNat) (fun _ => True) O1) : wpI K W ex (iRng1 aa) G O PI := fun Z F H σ X S s R q =>
  h Z F H σ X S s _ fun ds vs F1 H1 O1 S1 e1 r1 ⟨n, hds, hb, p⟩ => by
    subst hds
    cases r1 with
    | cons ra rb =>
      cases ra
      cases rb
      exact ⟨n, rfl, hb.1, hb.2, q _ _ _ F1 H1 O1 S1 e1 walk_rng p⟩
theorem wpI_rng2 {PI : List D → (Ow → Prop) → Ow → Prop} (h : wpA K W ex aa G O fun ds O1 => ∃ m n : Int, ds = [.int m, .int n] ∧ (-(2 ^ 62) ≤ m ∧ m < 2 ^ 62 ∧ -(2 ^ 62) ≤ n ∧ n < 2 ^ 62) ∧ PI (rngD m (n - m).toNat) (fun _ => True) O1) : wpI K W ex (iRng2 aa) G O PI := fun Z F H σ X S s R q =>
  h Z F H σ X S s _ fun ds vs F1 H1 O1 S1 e1 r1 ⟨m, n, hds, hb, p⟩ => by
    subst hds
    cases r1 with
    | cons ra rb =>
      cases ra
      cases rb with
      | cons rc rd =>
        cases rc
        cases rd
        exact ⟨m, n, rfl, hb, q _ _ _ F1 H1 O1 S1 e1 walk_rng p⟩
/-- (0, x), (1, y), .. -/
def enumD (xs : List D) : List D := xs.zipIdx.map fun p => D.tup [.int (p.2 : Nat), p.1]
theorem enumD_len {xs : List D} : (enumD xs).length = xs.length := by simp [enumD]
theorem enumD_at {xs : List D} {i : Nat} {x : D} (h : (enumD xs)[i]? = some x) : ∃ y, xs[i]? = some y ∧ x = .tup [.int (i : Nat), y] := by
  unfold enumD at h
  rw [List.getElem?_map, List.getElem?_zipIdx] at h
  cases e : xs[i]? with
  | none => rw [e] at h; cases h
  | some y =>
    rw [e] at h
    have h2 := Option.some.inj h
    exact ⟨y, rfl, by rw [← h2]; simp⟩
theorem wpI_enum {PI : List D → (Ow → Prop) → Ow → Prop} (h : wpA K W ex aa G O fun ds O1 => ∃ d xs, ds = [d] ∧ seqOf O1 d xs ∧ PI (enumD xs) (fun O' => seqOf O' d xs) O1) : wpI K W ex (iEnum K aa) G O PI := fun Z F H σ X S s R q =>
  h Z F H σ X S s _ fun ds vs F1 H1 O1 S1 e1 r1 ⟨d, xs, hds, hsq, p⟩ => by
    subst hds
    cases r1 with
    | cons ra rb =>
      cases rb
      obtain ⟨a, vs, rfl, hv, rv⟩ := hsq.at S1 ra
      refine ⟨a, vs, rfl, hv, q _ (enumD xs) _ F1 H1 O1 S1 e1 ⟨fun Z F2 H2 O2 i x S2 e2 hC hx => ?_, fun Z F2 H2 O2 S2 e2 hC => ?_⟩ p⟩
      · obtain ⟨y, hy, rfl⟩ := enumD_at hx
        obtain ⟨a', vs', ea, hv', rv'⟩ := hC.at S2 (ra.mono e2)
        cases ea
        obtain ⟨u, hu, ru⟩ := rv'.get hy
        refine ⟨⟨vs', u, hv', hu⟩, fun z H3 hz => ?_⟩
        obtain ⟨T, x, rfl, nT, rfl, fx⟩ := hz
        have ex : x = u := Option.some.inj ((fx _ hv').symm.trans hu)
        subst ex
        have nF := S2.ex.none nT
        exact ⟨_, S2.frz _ nT, Ex.new nF, .tup (SqT.of upd_same) (.cons (.int _) (.cons (ru.mono (Ex.new nF)) .nil))⟩
      · obtain ⟨a', vs', ea, hv', rv'⟩ := hC.at S2 (ra.mono e2)
        cases ea
        refine ⟨vs', hv', ?_⟩
        rw [enumD_len, rv'.length]
        exact Nat.le_refl _
/-- for: I the invariant by the turn -/
theorem wpS_for {wi : TI} {g : TG} (h : wpI K W ex wi G O fun xs C O1 => ∃ I : Nat → Gm → Ow → Prop, I 0 G O1 ∧ (∀ i G' O', i ≤ xs.length → I i G' O' → C O') ∧
      (∀ i x G' O', xs[i]? = some x → I i G' O' → wpG K g x G' O' fun G2 O2 => wpS K W ex t G2 O2 { E with nx := I (i + 1), ct := I (i + 1), bk := E.nx }) ∧ ∀ G' O', I xs.length G' O' → E.nx G' O') :
    wpS K W ex (tFor wi g t) G O E := fun Z F H σ X S s D0 q =>
  h Z F H σ X S s _ fun J xs C F1 H1 O1 S1 e1 hw ⟨I, h0, hl, hs, hd⟩ => by
    refine ⟨fun i m σ' H' => i + m = xs.length ∧ ∃ F2 G2 O2, S0 K Z F2 H' O2 ∧ Slots K F2 G2 σ' ∧ Ex F1 F2 ∧ I i G2 O2, ⟨xs.length, by omega, F1, G, O1, S1, s.mono e1, Ex.refl _, h0⟩, fun i m σ' H' hW => ?_⟩
    obtain ⟨em, F2, G2, O2, S2, s2, e2, hI⟩ := hW
    have hC := hl i G2 O2 (by omega) hI
    have qn := q.mono (e1.trans e2)
    by_cases hi : i < xs.length
    · obtain ⟨x, hx⟩ : ∃ x, xs[i]? = some x := ⟨xs[i], List.getElem?_eq_getElem hi⟩
      obtain ⟨g1, g2⟩ := hw.go Z F2 H' O2 i x S2 e2 hC hx
      refine .inr ⟨g1, fun σ3 H3 => ∃ F3 G3 O3, S0 K Z F3 H3 O3 ∧ Slots K F3 G3 σ3 ∧ Ex F1 F3 ∧ I (i + 1) G3 O3, fun σ3 H3 h3 => ⟨m - 1, by omega, by omega, h3⟩, fun z H3 hz => ?_⟩
      obtain ⟨F3, S3, e3, rz⟩ := g2 z H3 hz
      refine hs i x G2 O2 hx hI Z F3 _ σ' z S3 (s2.mono e3) rz _ fun F4 H4 σ4 G4 O4 S4 s4 e4 p4 => p4 Z F4 H4 σ4 (X.mono (e1.trans (e2.trans (e3.trans e4)))) S4 s4 _ ⟨?_, (qn.mono (e3.trans e4)).rt, (qn.mono (e3.trans e4)).nx, ?_⟩
      · exact fun F5 H5 σ5 G5 O5 e5 S5 s5 p5 => ⟨F5, G5, O5, S5, s5, e2.trans (e3.trans (e4.trans e5)), p5⟩
      · exact fun F5 H5 σ5 G5 O5 e5 S5 s5 p5 => ⟨F5, G5, O5, S5, s5, e2.trans (e3.trans (e4.trans e5)), p5⟩
    · have : i = xs.length := by omega
      subst this
      exact .inl ⟨hw.stop Z F2 H' O2 S2 e2 hC, qn.nx F2 H' σ' G2 O2 (Ex.refl _) S2 s2 (hd _ _ hI)⟩
/-! ### comprehensions -/
def wipeG (G : Gm) : List Nat → Gm
  | [] => G
  | v :: vs => (wipeG G vs).set v none
theorem Slots.wipe {F : Hp} {σ : L2.St} (s : Slots K F G σ) : ∀ vs : List Nat, Slots K F (wipeG G vs) (wipe σ vs)
  | [] => s
  | v :: vs => (Slots.wipe s vs).unset
theorem wipe_at {σ : L2.St} {k : Nat} : ∀ {vs : List Nat}, (L2.wipe σ vs)[k]? = if k ∈ vs then (σ[k]?).map (fun _ => none) else σ[k]?
  | [] => by simp [L2.wipe]
  | v :: vs => by
    show ((L2.wipe σ vs).set v none)[k]? = _
    by_cases hk : v = k
    · subst hk
      rw [List.getElem?_set_self']
      have ih := wipe_at (σ := σ) (k := v) (vs := vs)
      rw [ih]
      by_cases hm : v ∈ vs
      · simp [hm]
        cases σ[v]? <;> rfl
      · simp [hm]
        cases σ[v]? <;> rfl
    · rw [List.getElem?_set_ne hk, wipe_at (σ := σ) (k := k) (vs := vs)]
      have : k ≠ v := fun e => hk e.symm
      simp [this]
theorem wipe_ext {σ τ : L2.St} {vs : List Nat} (hl : σ.length = τ.length) (h : ∀ k, k ∉ vs → σ[k]? = τ[k]?) : L2.wipe σ vs = L2.wipe τ vs := by
  apply List.ext_getElem?
  intro k
  rw [wipe_at, wipe_at]
  by_cases hk : k ∈ vs
  · rw [if_pos hk, if_pos hk]
    by_cases hb : k < σ.length
    · rw [List.getElem?_eq_getElem hb, List.getElem?_eq_getElem (by omega)] <;> rfl
    · rw [List.getElem?_eq_none (by omega), List.getElem?_eq_none (by omega)] <;> rfl
  · rw [if_neg hk, if_neg hk]
    exact h k hk
/-- a target that stores in slots among vs alone -/
def gIn (vs : List Nat) (g : TG) : Prop := ∀ v (σ : L2.St) H (Q : L2.St → Hp → Prop), g v σ H Q → g v σ H fun σ' H' => Q σ' H' ∧ σ'.length = σ.length ∧ ∀ k, k ∉ vs → σ'[k]? = σ[k]?
def gsIn (vs : List Nat) (g : TGs) : Prop := ∀ v (σ : L2.St) H (Q : L2.St → Hp → Prop), g v σ H Q → g v σ H fun σ' H' => Q σ' H' ∧ σ'.length = σ.length ∧ ∀ k, k ∉ vs → σ'[k]? = σ[k]?
theorem gIn_name {vs : List Nat} {j : Nat} (h : j ∈ vs) : gIn vs (gName j) := fun v σ H Q q => ⟨q, by simp, fun k hk => List.getElem?_set_ne (fun e => hk (by rw [← e]; exact h))⟩
theorem gsIn_nil {vs : List Nat} : gsIn vs gNil := fun v σ H Q q => ⟨q.1, q.2, rfl, fun _ _ => rfl⟩
theorem gsIn_cons {vs : List Nat} {g : TG} {gs : TGs} (h : gIn vs g) (m : ∀ v (σ : L2.St) H (Q Q' : L2.St → Hp → Prop), (∀ a b, Q a b → Q' a b) → g v σ H Q → g v σ H Q') (hs : gsIn vs gs)
    (ms : ∀ v (σ : L2.St) H (Q Q' : L2.St → Hp → Prop), (∀ a b, Q a b → Q' a b) → gs v σ H Q → gs v σ H Q') : gsIn vs (gCons g gs) := fun v σ H Q q => by
  obtain ⟨x, r, rfl, q⟩ := q
  refine ⟨x, r, rfl, m _ _ _ _ _ (fun a b z => ?_) (h _ _ _ _ q)⟩
  obtain ⟨z1, z2, z3⟩ := z
  refine ms _ _ _ _ _ (fun a' b' y => ?_) (hs _ _ _ _ z1)
  obtain ⟨y1, y2, y3⟩ := y
  exact ⟨y1, y2.trans z2, fun k hk => (y3 k hk).trans (z3 k hk)⟩
abbrev gMono (g : TG) : Prop := ∀ v (σ : L2.St) H (Q Q' : L2.St → Hp → Prop), (∀ a b, Q a b → Q' a b) → g v σ H Q → g v σ H Q'
abbrev gsMono (g : TGs) : Prop := ∀ v (σ : L2.St) H (Q Q' : L2.St → Hp → Prop), (∀ a b, Q a b → Q' a b) → g v σ H Q → g v σ H Q'
theorem gMono_name {j : Nat} : gMono (gName j) := fun v σ H Q Q' k q => k _ _ q
theorem gsMono_nil : gsMono gNil := fun v σ H Q Q' k q => ⟨q.1, k _ _ q.2⟩
theorem gsMono_cons {g : TG} {gs : TGs} (h : gMono g) (hs : gsMono gs) : gsMono (gCons g gs) := fun v σ H Q Q' k q => by
  obtain ⟨x, r, rfl, q⟩ := q
  exact ⟨x, r, rfl, h _ _ _ _ _ (fun a b z => hs _ _ _ _ _ k z) q⟩
theorem gMono_tup {n : Nat} {gs : TGs} (hs : gsMono gs) : gMono (gTup K n gs) := fun v σ H Q Q' k q => by
  obtain ⟨a, xs, h1, h2, h3, q⟩ := q
  exact ⟨a, xs, h1, h2, h3, hs _ _ _ _ _ k q⟩
theorem gIn_tup {vs : List Nat} {n : Nat} {gs : TGs} (hs : gsIn vs gs) : gIn vs (gTup K n gs) := fun v σ H Q q => by
  obtain ⟨a, xs, h1, h2, h3, q⟩ := q
  exact ⟨a, xs, h1, h2, h3, hs _ _ _ _ q⟩
theorem gIn_tup2 {vs : List Nat} {i j : Nat} (hi : i ∈ vs) (hj : j ∈ vs) : gIn vs (gTup K 2 (gCons (gName i) (gCons (gName j) gNil))) := gIn_tup (gsIn_cons (gIn_name hi) gMono_name (gsIn_cons (gIn_name hj) gMono_name gsIn_nil gsMono_nil) (gsMono_cons gMono_name gsMono_nil))
theorem gMono_tup2 {i j : Nat} : gMono (gTup K 2 (gCons (gName i) (gCons (gName j) gNil))) := gMono_tup (gsMono_cons gMono_name (gsMono_cons gMono_name gsMono_nil))
/-- entered anew, with one more object that is to be kept -/
def En0.hold (Z : En0) (p : Addr) (o : HO) : En0 := ⟨fun a => if a = p then none else Z.F a, upd Z.H p o, Z.M⟩
theorem S0.hold {Z : En0} {F H : Hp} {O : Ow} (S : S0 K Z F H O) {p : Addr} {o : HO} (hp : H p = some o) (hF : F p = none) (hO : ∀ q ∈ O, q.a ≠ p) : S0 K (Z.hold p o) F H O where
  ex := S.ex
  frame := fun a u hm e => by
    by_cases z : a = p
    · subst z
      have e2 : upd Z.H a o a = some u := e
      rw [upd_same] at e2
      rw [hp]
      exact e2
    · have e2 : upd Z.H p o a = some u := e
      rw [upd_ne z] at e2
      exact S.frame a u hm e2
  fz := fun a e => by
    show F a = if a = p then none else Z.F a
    by_cases z : a = p
    · subst z
      rw [if_pos rfl]
      exact hF
    · rw [if_neg z]
      have e2 : upd Z.H p o a ≠ none := e
      rw [upd_ne z] at e2
      exact S.fz a e2
  alive := S.alive
  own := fun q hq => by
    obtain ⟨h1, h2, h3, h4⟩ := S.own q hq
    refine ⟨h1, h2, fun e => ?_, h4⟩
    show upd Z.H p o q.a = none
    rw [upd_ne (hO q hq)]
    exact h3 e
  nd := S.nd
theorem S0.unhold {Z : En0} {F H : Hp} {O : Ow} {p : Addr} {o : HO} (S : S0 K (Z.hold p o) F H O) (hZ : Z.H p = none) (hM : p ∉ Z.M) : S0 K Z F H O ∧ H p = some o ∧ F p = none ∧ ∀ q ∈ O, q.a ≠ p := by
  have key : ∀ a, a ≠ p → (Z.hold p o).H a = Z.H a := fun a z => upd_ne z
  have kp : (Z.hold p o).H p = some o := upd_same
  refine ⟨⟨S.ex, fun a u hm e => ?_, fun a e => ?_, S.alive, fun q hq => ?_, S.nd⟩, S.frame p o hM kp, ?_, fun q hq e => ?_⟩
  · have z : a ≠ p := fun z => by
      rw [z, hZ] at e
      cases e
    exact S.frame a u hm (by rw [key a z]; exact e)
  · have z : a ≠ p := fun z => e (by rw [z]; exact hZ)
    have h := S.fz a (by rw [key a z]; exact e)
    have h2 : F a = if a = p then none else Z.F a := h
    rw [if_neg z] at h2
    exact h2
  · obtain ⟨h1, h2, h3, h4⟩ := S.own q hq
    refine ⟨h1, h2, fun e => ?_, h4⟩
    have h5 := h3 e
    have z : q.a ≠ p := fun z => by
      rw [z, kp] at h5
      cases h5
    rw [key _ z] at h5
    exact h5
  · have h := S.fz p (by rw [kp]; intro z; cases z)
    have h2 : F p = if p = p then none else Z.F p := h
    rw [if_pos rfl] at h2
    exact h2
  · obtain ⟨h1, h2, h3, h4⟩ := S.own q hq
    cases hb : q.loc with
    | true =>
      have h5 := h3 hb
      rw [e, kp] at h5
      cases h5
    | false => exact hM (by rw [← e]; exact h4 hb)
theorem XOk.hold {Z : En0} {F0 : Hp} {p : Addr} {o : HO} (X : XOk K Z F0 ex W) (hZ : Z.H p = none) (hM : p ∉ Z.M) : XOk K (Z.hold p o) F0 ex W := fun x d F H σ G O e0 S s r e => X x d F H σ G O e0 (S.unhold hZ hM).1 s r e
/-- an object of ours that was not told of is told: frozen | owned -/
theorem S0.keepF {Z : En0} {F H : Hp} {O : Ow} (S : S0 K Z F H O) {p : Addr} {o : HO} (hp : H p = some o) (hF : F p = none) (hO : ∀ q ∈ O, q.a ≠ p) (hZ : Z.H p = none) : S0 K Z (upd F p o) H O where
  ex := fun a u e => by
    by_cases z : a = p
    · subst z
      rw [upd_same] at e
      rw [hp]
      exact e
    · rw [upd_ne z] at e
      exact S.ex a u e
  frame := S.frame
  fz := fun a e => by
    have z : a ≠ p := fun z => e (by rw [z]; exact hZ)
    rw [upd_ne z]
    exact S.fz a e
  alive := S.alive
  own := fun q hq => by
    obtain ⟨h1, h2, h3⟩ := S.own q hq
    exact ⟨by rw [upd_ne (hO q hq)]; exact h1, h2.mono (Ex.new hF) fun _ e => e, h3⟩
  nd := S.nd
theorem S0.take {Z : En0} {F H : Hp} {O : Ow} (S : S0 K Z F H O) {p : Addr} {d : D} (hF : F p = none) (hm : Mu K F H p d) (hO : ∀ q ∈ O, q.a ≠ p) (hZ : Z.H p = none) : S0 K Z F H (⟨p, true, d⟩ :: O) where
  ex := S.ex
  frame := S.frame
  fz := S.fz
  alive := S.alive
  own := fun q hq => by
    rcases List.mem_cons.mp hq with rfl | hq
    · exact ⟨hF, hm, fun _ => hZ, fun e => by cases e⟩
    · exact S.own q hq
  nd := by
    rw [List.map_cons, List.nodup_cons]
    refine ⟨fun hq => ?_, S.nd⟩
    obtain ⟨q, h1, h2⟩ := List.mem_map.mp hq
    exact hO q h1 h2
/-- an untold object of ours is written -/
theorem S0.writeU {Z : En0} {F H : Hp} {O : Ow} (S : S0 K Z F H O) {p : Addr} {o : HO} (hF : F p = none) (hO : ∀ q ∈ O, q.a ≠ p) (hZ : Z.H p = none) : S0 K Z F (upd H p o) O where
  ex := fun a u e => by
    have z : a ≠ p := fun z => by
      rw [z, hF] at e
      cases e
    rw [upd_ne z]
    exact S.ex a u e
  frame := fun a u hm e => by
    have z : a ≠ p := fun z => by
      rw [z, hZ] at e
      cases e
    rw [upd_ne z]
    exact S.frame a u hm e
  fz := S.fz
  alive := fun a hm => by
    by_cases z : a = p
    · subst z
      rw [upd_same]
      intro q
      cases q
    · rw [upd_ne z]
      exact S.alive a hm
  own := fun q hq => by
    obtain ⟨h1, h2, h3⟩ := S.own q hq
    refine ⟨h1, h2.mono (Ex.refl _) fun u e => ?_, h3⟩
    rw [upd_ne (hO q hq)]
    exact e
  nd := S.nd
/-- how a comprehension's list goes on: frozen | owned -/
def lcEnd (fr : Bool) (acc : List D) (O : Ow) (P : D → Ow → Prop) : Prop := match fr with
  | true => P (.lst acc) O
  | false => ∀ a, (∀ q ∈ O, q.a ≠ a) → P (.mut a) (⟨a, true, .lst acc⟩ :: O)
theorem wpE_lc {wi : TI} {g : TG} {vs : List Nat} (fr : Bool) (hg : gIn vs g) (gm : gMono g) (h : wpI K W ex wi G O fun xs C O1 => xs.length < sizeLine ∧ ∃ I : Nat → List D → Ow → Prop, I 0 [] O1 ∧ (∀ i acc O', i ≤ xs.length → I i acc O' → C O') ∧
      (∀ i x acc O', xs[i]? = some x → I i acc O' → wpG K g x (wipeG G vs) O' fun G2 O2 => wpT K W ex tt G2 O2 fun b O3 => (b = true → wpE K W ex te G2 O3 fun y O4 => I (i + 1) (acc ++ [y]) O4) ∧ (b = false → I (i + 1) acc O3)) ∧
      ∀ acc O', I xs.length acc O' → lcEnd fr acc O' P) : wpE K W ex (tLc wi g tt te vs) G O P := fun Z F H σ X S s Q q =>
  h Z F H σ X S s _ fun J xs C F1 H1 O1 S1 e1 hw ⟨hz, I, h0, hl, hs, hd⟩ Dl hD => by
    have hZ := S1.fresh hD
    have hM := S1.notM hD
    refine ⟨fun i m H' => i + m = xs.length ∧ ∃ F2 O2 acc vacc, S0 K Z F2 H' O2 ∧ Ex F1 F2 ∧ F2 Dl = none ∧ H' Dl = some (.lst vacc) ∧ Rps K F2 acc vacc ∧ acc.length ≤ i ∧ I i acc O2 ∧ ∀ p ∈ O2, p.a ≠ Dl,
      ⟨xs.length, by omega, F1, O1, [], [], S1.junk _ hD, Ex.refl _, S1.ex.none hD, upd_same, .nil, Nat.zero_le _, h0, S1.freshO hD⟩, fun i m H' hW => ?_⟩
    obtain ⟨em, F2, O2, acc, vacc, S2, e2, f2, hD2, r2, l2, hI, nO⟩ := hW
    have hC := hl i acc O2 (by omega) hI
    by_cases hi : i < xs.length
    · obtain ⟨x, hx⟩ : ∃ x, xs[i]? = some x := ⟨xs[i], List.getElem?_eq_getElem hi⟩
      have S2' := S2.hold hD2 f2 nO
      obtain ⟨g1, g2⟩ := hw.go _ F2 H' O2 i x S2' e2 hC hx
      obtain ⟨Nx, hNx⟩ : ∃ Nx : Hp → Prop, Nx = fun H3 => ∃ F3 O3 acc3 vacc3, S0 K Z F3 H3 O3 ∧ Ex F1 F3 ∧ F3 Dl = none ∧ H3 Dl = some (.lst vacc3) ∧ Rps K F3 acc3 vacc3 ∧ acc3.length ≤ i + 1 ∧ I (i + 1) acc3 O3 ∧ ∀ p ∈ O3, p.a ≠ Dl := ⟨_, rfl⟩
      refine .inr ⟨g1, Nx, fun H3 h3 => ⟨m - 1, by omega, by omega, by rw [hNx] at h3; exact h3⟩, fun z H3 hz3 => ?_⟩
      obtain ⟨F3, S3, e3, rz⟩ := g2 z H3 hz3
      have X' : XOk K (Z.hold Dl (.lst vacc)) F ex W := X.hold hZ hM
      have sw : Slots K F3 (wipeG G vs) (L2.wipe σ vs) := (s.mono (e1.trans (e2.trans e3))).wipe vs
      have hgo := hs i x acc O2 hx hI (Z.hold Dl (.lst vacc)) F3 H3 _ z S3 sw rz
      refine gm z _ H3 _ _ (fun σ2 H4 hq => ?_) (hg z _ H3 _ (hgo (fun σ2 H4 => tt σ2 H4 fun b H5 => if b = true then te σ2 H5 fun y H6 => ∃ acc3, H6 Dl = some (.lst acc3) ∧ acc3.length < sizeLine ∧ Nx (upd H6 Dl (.lst (acc3 ++ [y]))) else Nx H5) ?_))
      · obtain ⟨q1, q2, q3⟩ := hq
        refine ⟨wipe_ext (q2.trans (wipe_length σ vs)) fun k hk => (q3 k hk).trans ?_, q1⟩
        rw [wipe_at, if_neg hk]
      · intro F4 H4 σ4 G4 O4 S4 s4 e4 p4
        refine p4 _ F4 H4 σ4 (X'.mono (e1.trans (e2.trans (e3.trans e4)))) S4 s4 _ fun b F5 H5 O5 S5 e5 p5 => ?_
        cases b with
        | true =>
          refine p5.1 rfl _ F5 H5 σ4 (X'.mono (e1.trans (e2.trans (e3.trans (e4.trans e5))))) S5 (s4.mono e5) _ fun y vy F6 H6 O6 S6 e6 r6 p6 => ?_
          obtain ⟨S7, k1, k2, k3⟩ := S6.unhold hZ hM
          have e26 := e3.trans (e4.trans (e5.trans e6))
          exact ⟨vacc, k1, by rw [← r2.length]; omega, by rw [hNx]; exact ⟨F6, O6, acc ++ [y], vacc ++ [vy], S7.writeU k2 k3 hZ, e2.trans e26, k2, upd_same, (r2.mono e26).app (.one r6), by simp; omega, p6, k3⟩⟩
        | false =>
          obtain ⟨S7, k1, k2, k3⟩ := S5.unhold hZ hM
          have e25 := e3.trans (e4.trans e5)
          show Nx H5
          rw [hNx]
          exact ⟨F5, O5, acc, vacc, S7, e2.trans e25, k2, k1, r2.mono e25, by omega, p5.2 rfl, k3⟩
    · have ei : i = xs.length := by omega
      subst ei
      refine .inl ⟨hw.stop Z F2 H' O2 S2 e2 hC, ?_⟩
      have hend := hd acc O2 hI
      cases fr with
      | true => exact q _ _ _ H' O2 (S2.keepF hD2 f2 nO hZ) (e1.trans (e2.trans (Ex.new f2))) (.lst upd_same (r2.mono (Ex.new f2))) hend
      | false => exact q _ _ F2 H' _ (S2.take (d := .lst acc) f2 ⟨vacc, hD2, r2⟩ nO hZ) (e1.trans e2) (.mut Dl) (hend Dl nO)
end
end PyD
/-! PyD2: operations on values. -/
namespace PyD
open PySem PySem.Spec L2
section
variable {K : PySem.W.Frag} {W : WX} {ex : Ek} {G : Gm} {O : Ow} {P : D → Ow → Prop} {PT : Bool → Ow → Prop} {PA : List D → Ow → Prop} {E : EnD} {ta tb te tc : TE} {tt uu : TT} {t u : TS} {aa ab : TA}
/-! ### ints -/
theorem wpR_Ii {C : Int → Int → Prop} {f : Int → Int → Int} {i j : Int} (hc : C i j) (p : P (.int (f i j)) O) : wpR K (rI C fun i j => .int (f i j)) (.int i) (.int j) O P := fun Z F H vx vy S rx ry Q q => by
  cases rx
  cases ry
  exact ⟨i, j, rfl, rfl, hc, q _ _ F H O S (Ex.refl F) (.int _) p⟩
theorem wpR_I0i {f : Int → Int → Int} {i j : Int} (p : P (.int (f i j)) O) : wpR K (rI0 fun i j => .int (f i j)) (.int i) (.int j) O P := fun Z F H vx vy S rx ry Q q => by
  cases rx
  cases ry
  exact ⟨i, j, rfl, rfl, q _ _ F H O S (Ex.refl F) (.int _) p⟩
theorem wpR_I0b {f : Int → Int → Bool} {i j : Int} (p : P (.bl (f i j)) O) : wpR K (rI0 fun i j => .bl (f i j)) (.int i) (.int j) O P := fun Z F H vx vy S rx ry Q q => by
  cases rx
  cases ry
  exact ⟨i, j, rfl, rfl, q _ _ F H O S (Ex.refl F) (.bl _) p⟩
theorem wpU_int {f : Int → Int} {i : Int} (p : P (.int (f i)) O) : wpU K (rU fun i => .int (f i)) (.int i) O P := fun Z F H vx S rx Q q => by
  cases rx
  exact ⟨i, rfl, q _ _ F H O S (Ex.refl F) (.int _) p⟩
theorem wpR_or1 {r r' : R2} {x y : D} (h : wpR K r x y O P) : wpR K (fun x y H Q => r x y H Q ∨ r' x y H Q) x y O P := fun Z F H vx vy S rx ry Q q => .inl (h Z F H vx vy S rx ry Q q)
theorem wpR_or2 {r r' : R2} {x y : D} (h : wpR K r' x y O P) : wpR K (fun x y H Q => r x y H Q ∨ r' x y H Q) x y O P := fun Z F H vx vy S rx ry Q q => .inr (h Z F H vx vy S rx ry Q q)
theorem wpC_or1 {r r' : List V → Hp → VK → Prop} {xs : List D} (h : wpC K r xs O P) : wpC K (fun xs H Q => r xs H Q ∨ r' xs H Q) xs O P := fun Z F H vs S rx Q q => .inl (h Z F H vs S rx Q q)
theorem wpC_or2 {r r' : List V → Hp → VK → Prop} {xs : List D} (h : wpC K r' xs O P) : wpC K (fun xs H Q => r xs H Q ∨ r' xs H Q) xs O P := fun Z F H vs S rx Q q => .inr (h Z F H vs S rx Q q)
/-! ### a + b: ints, lists, texts -/
def rAddS : R2 := fun x y H Q => ∃ i j, x = .str i ∧ y = .str j ∧ i.length + j.length ≤ sizeLine ∧ Q (.str (i ++ j)) H
def rAddI : R2 := rI0 fun i j => .int (i + j)
def rAddA : R2 := fun x y H Q => rAddI x y H Q ∨ rCat x y H Q ∨ rAddS x y H Q
theorem opA_add {X : Cx} : OpR X (binaryOp .Add) rAddA := OpR.or op_add (OpR.or op_cat op_add_str)
theorem wpR_addI {i j : Int} (p : P (.int (i + j)) O) : wpR K rAddA (.int i) (.int j) O P := fun Z F H vx vy S rx ry Q q => .inl (wpR_I0i (f := fun i j => i + j) p Z F H vx vy S rx ry Q q)
theorem wpR_addS {i j : Str} (hl : i.length + j.length ≤ sizeLine) (p : P (.str (i ++ j)) O) : wpR K rAddA (.str i) (.str j) O P := fun Z F H vx vy S rx ry Q q => by
  cases rx
  cases ry
  exact .inr (.inr ⟨i, j, rfl, rfl, hl, q _ _ F H O S (Ex.refl F) (.str _) p⟩)
/-- a list that was made: frozen or owned -/
def lstOf (O : Ow) (d : D) (xs : List D) : Prop := d = .lst xs ∨ ∃ a b, d = .mut a ∧ (⟨a, b, .lst xs⟩ : Ob) ∈ O
theorem lstOf.seq {d : D} {xs : List D} (h : lstOf O d xs) : seqOf O d xs := by
  rcases h with h | h
  · exact .inl h
  · exact .inr (.inr h)
theorem lstOf.at {Z : En0} {F H : Hp} {d : D} {xs : List D} {v : V} (h : lstOf O d xs) (S : S0 K Z F H O) (r : Rp K F d v) : ∃ a vs, v = .ref a ∧ H a = some (.lst vs) ∧ Rps K F xs vs := by
  rcases h with rfl | ⟨a, b, rfl, hm⟩
  · cases r with
    | lst h1 h2 => exact ⟨_, _, rfl, S.ex _ _ h1, h2⟩
  · cases r
    obtain ⟨_, ⟨vs, h2, h3⟩, _⟩ := S.own _ hm
    exact ⟨_, vs, rfl, h2, h3⟩
theorem lst_l {xs : List D} : lstOf O (.lst xs) xs := .inl rfl
theorem lst_m {xs : List D} {a : Addr} {b : Bool} {i : Nat} (h : O[i]? = some ⟨a, b, .lst xs⟩) : lstOf O (.mut a) xs := .inr ⟨a, b, rfl, List.mem_of_getElem? h⟩
theorem seq_l {xs : List D} : seqOf O (.lst xs) xs := .inl rfl
theorem seq_k {xs : List D} : seqOf O (.kl xs) xs := .inr (.inl rfl)
theorem seq_m {xs : List D} {a : Addr} {b : Bool} {i : Nat} (h : O[i]? = some ⟨a, b, .lst xs⟩) : seqOf O (.mut a) xs := .inr (.inr ⟨a, b, rfl, List.mem_of_getElem? h⟩)
/-- what is made new: frozen | owned -/
def mkEnd (fr : Bool) (xs : List D) (O : Ow) (P : D → Ow → Prop) : Prop := lcEnd fr xs O P
theorem mk_new {Z : En0} {F H : Hp} {fr : Bool} {xs : List D} {vs : List V} {Q : VK} (S : S0 K Z F H O) (r : Rps K F xs vs) (h : lcEnd fr xs O P) (q : ∀ d v F' H' O', S0 K Z F' H' O' → Ex F F' → Rp K F' d v → P d O' → Q v H') : ∀ p, H p = none → Q (.ref p) (upd H p (.lst vs)) := fun p hp => by
  have hF := S.ex.none hp
  cases fr with
  | true => exact q _ _ _ _ _ (S.frz _ hp) (Ex.new hF) (.lst upd_same (r.mono (Ex.new hF))) h
  | false => exact q _ _ F _ _ (S.new _ (.lst xs) hp ⟨vs, upd_same, r⟩) (Ex.refl F) (.mut p) (h p (S.freshO hp))
theorem wpR_addL {x y : D} {xs ys : List D} (fr : Bool) (hx : lstOf O x xs) (hy : lstOf O y ys) (hl : xs.length + ys.length ≤ sizeLine) (p : lcEnd fr (xs ++ ys) O P) : wpR K rAddA x y O P := fun Z F H vx vy S rx ry Q q => by
  obtain ⟨a, vs, rfl, ha, ra⟩ := hx.at S rx
  obtain ⟨b, ws, rfl, hb, rb⟩ := hy.at S ry
  exact .inr (.inl ⟨a, b, vs, ws, rfl, rfl, ha, hb, by rw [← ra.length, ← rb.length]; exact hl, mk_new S (ra.app rb) p q⟩)
/-! ### displays -/
theorem wpE_lst (fr : Bool) (h : wpA K W ex aa G O fun xs O1 => xs.length ≤ sizeLine ∧ lcEnd fr xs O1 P) : wpE K W ex (tLst aa) G O P := fun Z F H σ X S s Q q =>
  h Z F H σ X S s _ fun xs vs F1 H1 O1 S1 e1 r1 ⟨hl, p⟩ => ⟨by rw [← r1.length]; exact hl, mk_new S1 r1 p fun d v F' H' O' S' e r p => q d v F' H' O' S' (e1.trans e) r p⟩
theorem wpE_tup (h : wpA K W ex aa G O fun xs O1 => xs.length ≤ sizeLine ∧ P (.tup xs) O1) : wpE K W ex (tTup aa) G O P := fun Z F H σ X S s Q q =>
  h Z F H σ X S s _ fun xs vs F1 H1 O1 S1 e1 r1 ⟨hl, p⟩ => ⟨by rw [← r1.length]; exact hl, fun a ha => by
    have hF := S1.ex.none ha
    exact q _ _ _ _ _ (S1.frz _ ha) (e1.trans (Ex.new hF)) (.tup (SqT.of upd_same) (r1.mono (Ex.new hF))) p⟩
/-! ### subscripts -/
theorem wpR_ixL {x : D} {xs : List D} {i : Int} {y : D} (hx : seqOf O x xs) (hi : atI xs i = some y) (p : P y O) : wpR K (rIxL K) x (.int i) O P := fun Z F H vx vy S rx ry Q q => by
  obtain ⟨a, vs, rfl, ha, ra⟩ := hx.at S rx
  cases ry
  obtain ⟨j, hj, hx⟩ : ∃ j, ixN xs.length i = some j ∧ xs[j]? = some y := by
    unfold atI at hi
    cases e : ixN xs.length i with
    | none => rw [e] at hi; cases hi
    | some j => rw [e] at hi; exact ⟨j, rfl, hi⟩
  obtain ⟨v, hv, rv⟩ := ra.get hx
  refine ⟨a, vs, i, v, rfl, rfl, ha, ?_, q _ _ F H O S (Ex.refl F) rv p⟩
  unfold atI
  rw [← ra.length, hj]
  exact hv
theorem wpR_ixT {xs : List D} {i : Int} {y : D} (hi : atI xs i = some y) (p : P y O) : wpR K (rIxT K) (.tup xs) (.int i) O P := fun Z F H vx vy S rx ry Q q => by
  cases rx with
  | @tup a vs _ ht ra =>
  cases ry
  obtain ⟨j, hj, hx⟩ : ∃ j, ixN xs.length i = some j ∧ xs[j]? = some y := by
    unfold atI at hi
    cases e : ixN xs.length i with
    | none => rw [e] at hi; cases hi
    | some j => rw [e] at hi; exact ⟨j, rfl, hi⟩
  obtain ⟨v, hv, rv⟩ := ra.get hx
  refine ⟨a, vs, i, v, rfl, rfl, ex_t S.ex ht, ?_, q _ _ F H O S (Ex.refl F) rv p⟩
  unfold atI
  rw [← ra.length, hj]
  exact hv
def rIxLT (K : PySem.W.Frag) : R2 := fun x y H Q => rIxL K x y H Q ∨ rIxT K x y H Q
theorem ix_lt {X : Cx} : IxR X (rIxLT X.K) := IxR.or ix_list ix_tup
theorem wpR_ixA {x : D} {xs : List D} {i : Int} {y : D} (hx : seqOf O x xs ∨ x = .tup xs) (hi : atI xs i = some y) (p : P y O) : wpR K (rIxLT K) x (.int i) O P := fun Z F H vx vy S rx ry Q q => by
  rcases hx with hx | rfl
  · exact .inl (wpR_ixL hx hi p Z F H vx vy S rx ry Q q)
  · exact .inr (wpR_ixT hi p Z F H vx vy S rx ry Q q)
theorem atI_nn {xs : List D} {i : Int} {y : D} (h0 : 0 ≤ i) (h : xs[i.toNat]? = some y) : atI xs i = some y := by
  obtain ⟨n, rfl⟩ := Int.eq_ofNat_of_zero_le h0
  exact atI_nat (by simpa using h)
/-! ### slices -/
theorem Rps.cut {F : Hp} {xs : List D} {vs : List V} (r : Rps K F xs vs) (lo hi : Option Int) : Rps K F ((xs.drop (HT.sIx xs.length 0 lo)).take (HT.sIx xs.length xs.length hi - HT.sIx xs.length 0 lo)) (cutV vs lo hi) := by
  unfold cutV
  rw [← r.length]
  exact (r.drop _).take _
def cutD (xs : List D) (lo hi : Option Int) : List D := (xs.drop (HT.sIx xs.length 0 lo)).take (HT.sIx xs.length xs.length hi - HT.sIx xs.length 0 lo)
theorem wpE_slL (fr : Bool) {tl th : TO} (h : wpE K W ex te G O fun x O1 => wpO K W ex tl G O1 fun lo O2 => wpO K W ex th G O2 fun hi O3 => ∃ xs, seqOf O3 x xs ∧ lcEnd fr (cutD xs lo hi) O3 P) : wpE K W ex (tSl (rSlL K) te tl th) G O P := fun Z F H σ X S s Q q =>
  h Z F H σ X S s _ fun d v F1 H1 O1 S1 e1 r1 p1 => p1 Z F1 H1 σ (X.mono e1) S1 (s.mono e1) _ fun lo F2 H2 O2 S2 e2 p2 => p2 Z F2 H2 σ (X.mono (e1.trans e2)) S2 (s.mono (e1.trans e2)) _ fun hi F3 H3 O3 S3 e3 ⟨xs, hx, p⟩ => by
    obtain ⟨a, vs, rfl, ha, ra⟩ := hx.at S3 (r1.mono (e2.trans e3))
    exact ⟨a, vs, rfl, ha, mk_new S3 (ra.cut lo hi) p fun d v F' H' O' S' e r p => q d v F' H' O' S' (e1.trans (e2.trans (e3.trans e))) r p⟩
/-! ### in -/
def flatD : D → Bool
  | .non => true
  | .bl _ => true
  | .int _ => true
  | .str _ => true
  | _ => false
theorem flatD_v {F : Hp} {d : D} {v : V} (r : Rp K F d v) (h : flatD d = true) : flatV v = true := by
  cases r <;> first | rfl | (exact absurd h (by decide)) | cases h
theorem flats_v {F : Hp} : ∀ {ds : List D} {vs : List V}, Rps K F ds vs → ds.all flatD = true → vs.all flatV = true
  | _, _, .nil, _ => rfl
  | _, _, .cons a r, h => by
    rw [List.all_cons] at h ⊢
    obtain ⟨h1, h2⟩ := Bool.and_eq_true_iff.mp h
    rw [flatD_v a h1, flats_v r h2] <;> rfl
/-- x in ints -/
theorem inV_ints (i : Int) : ∀ ns : List Int, inV (.int i) (ns.map V.int) = decide (i ∈ ns)
  | [] => rfl
  | n :: ns => by
    have ih := inV_ints i ns
    unfold inV at ih ⊢
    rw [List.map_cons, List.any_cons, ih]
    show ((n == i) || decide (i ∈ ns)) = decide (i ∈ n :: ns)
    by_cases h : n = i
    · subst h
      simp
    · have h2 : ¬ i = n := fun e => h e.symm
      simp [h, h2]
theorem wpR_inI {neg : Bool} {i : Int} {x : D} {ns : List Int} (hx : seqOf O x (ns.map D.int) ∨ x = .tup (ns.map D.int)) (p : P (.bl (if neg then !decide (i ∈ ns) else decide (i ∈ ns))) O) : wpR K (rIn K neg) (.int i) x O P := fun Z F H vx vy S rx ry Q q => by
  cases rx
  have go : ∀ a vs, vy = .ref a → (SqL K H a vs ∨ SqT K H a vs) → Rps K F (ns.map D.int) vs → rIn K neg (.int i) vy H Q := fun a vs ev h r => by
    subst ev
    have e := r.ints
    subst e
    refine ⟨a, _, rfl, h, rfl, by simp [flatV], ?_⟩
    rw [inV_ints]
    exact q _ _ F H O S (Ex.refl F) (.bl _) p
  rcases hx with hx | rfl
  · obtain ⟨a, vs, rfl, ha, ra⟩ := hx.at S ry
    exact go a vs rfl (.inl ha) ra
  · cases ry with
    | @tup a vs _ ht ra => exact go a vs rfl (.inr (ex_t S.ex ht)) ra
/-! ### None -/
def rIsN : R2 := fun x y H Q => y = .non ∧ Q (.bl (decide (x = .non))) H
def rNotN : R2 := fun x y H Q => y = .non ∧ Q (.bl (!decide (x = .non))) H
theorem opA_isN {X : Cx} : OpR X (compareOp .Is) rIsN := op_isN
theorem opA_notN {X : Cx} : OpR X (compareOp .IsNot) rNotN := op_notN
def isNon : D → Bool
  | .non => true
  | _ => false
theorem isNon_v {F : Hp} {d : D} {v : V} (r : Rp K F d v) : decide (v = .non) = isNon d := by
  cases r <;> rfl
theorem wpR_isN {x : D} (p : P (.bl (isNon x)) O) : wpR K rIsN x .non O P := fun Z F H vx vy S rx ry Q q => by
  cases ry
  refine ⟨rfl, ?_⟩
  rw [isNon_v rx]
  exact q _ _ F H O S (Ex.refl F) (.bl _) p
theorem wpR_notN {x : D} (p : P (.bl (!isNon x)) O) : wpR K rNotN x .non O P := fun Z F H vx vy S rx ry Q q => by
  cases ry
  refine ⟨rfl, ?_⟩
  rw [isNon_v rx]
  exact q _ _ F H O S (Ex.refl F) (.bl _) p
/-! ### == -/
mutual
/-- data whose == is equality: no bools, no objects -/
def plainD : D → Bool
  | .non => true
  | .int _ => true
  | .str s => PySem.PyData.strOk s
  | .lst xs => plainDs xs
  | .kl xs => plainDs xs
  | .tup xs => plainDs xs
  | _ => false
def plainDs : List D → Bool
  | [] => true
  | x :: xs => plainD x && plainDs xs
end
mutual
def toPd : D → PyData
  | .int i => .int i
  | .str s => .str s
  | .bl b => .bool b
  | .lst xs => .list (toPds xs)
  | .kl xs => .list (toPds xs)
  | .tup xs => .tuple (toPds xs)
  | _ => .none
def toPds : List D → List PyData
  | [] => []
  | x :: xs => toPd x :: toPds xs
end
mutual
theorem Rp.dp {F H : Hp} (e : Ex F H) : ∀ {d : D} {v : V}, Rp K F d v → plainD d = true → Dp K H v (toPd d)
  | _, _, .non, _ => .non
  | _, _, .int i, _ => .int i
  | _, _, .str s, _ => .str s
  | _, _, .lst h r, p => .lst (SqL.of (e _ _ h)) (Rps.dp e r p)
  | _, _, .kl h r, p => .lst (ex_l e h) (Rps.dp e r p)
  | _, _, .tup h r, p => .tup (ex_t e h) (Rps.dp e r p)
  | _, _, .bl _, p => by cases p
  | _, _, .ref _, p => by cases p
  | _, _, .mut _, p => by cases p
  | _, _, .ty _, p => by cases p
  | _, _, .dK _ _ _, p => by cases p
  | _, _, .dT _ _ _, p => by cases p
  | _, _, .ins _ _ _, p => by cases p
  | _, _, .exc0 _ _, p => by cases p
  | _, _, .exc1 _ _ _, p => by cases p
theorem Rps.dp {F H : Hp} (e : Ex F H) : ∀ {ds : List D} {vs : List V}, Rps K F ds vs → plainDs ds = true → DpAll K H vs (toPds ds)
  | _, _, .nil, _ => .nil
  | _, _, .cons a r, p => .cons (Rp.dp e a (Bool.and_eq_true_iff.mp p).1) (Rps.dp e r (Bool.and_eq_true_iff.mp p).2)
end
mutual
theorem canLay_pd : ∀ d : D, plainD d = true → (toPd d).canLay0 = true
  | .non, _ => rfl
  | .int _, _ => rfl
  | .str s, p => p
  | .lst xs, p => canLay_pds xs p
  | .kl xs, p => canLay_pds xs p
  | .tup xs, p => canLay_pds xs p
  | .bl _, p => by cases p
  | .ref _, p => by cases p
  | .mut _, p => by cases p
  | .ty _, p => by cases p
  | .dK _, p => by cases p
  | .dT _, p => by cases p
  | .ins _ _, p => by cases p
  | .exc _ _ _ _, p => by cases p
theorem canLay_pds : ∀ ds : List D, plainDs ds = true → PyData.canLayAll0 (toPds ds) = true
  | [], _ => rfl
  | d :: ds, p => Bool.and_eq_true_iff.mpr ⟨canLay_pd d (Bool.and_eq_true_iff.mp p).1, canLay_pds ds (Bool.and_eq_true_iff.mp p).2⟩
end
/-- the same data, kl and lst alike -/
def norm (d : D) : D := match d with
  | .kl xs => .lst xs
  | d => d
mutual
theorem eqv_pd : ∀ d e : D, plainD d = true → plainD e = true → (PyData.eqv (toPd d) (toPd e) = true ↔ toPd d = toPd e)
  | .non, e, _, q => by cases e <;> first | exact (Bool.false_ne_true q).elim | simp [toPd, PyData.eqv]
  | .int i, e, _, q => by cases e <;> first | exact (Bool.false_ne_true q).elim | simp [toPd, PyData.eqv]
  | .str s, e, _, q => by cases e <;> first | exact (Bool.false_ne_true q).elim | simp [toPd, PyData.eqv]
  | .lst xs, e, p, q => by
    cases e <;> first
      | exact (Bool.false_ne_true q).elim
      | (simp only [toPd, PyData.eqv, PyData.list.injEq]; exact eqv_pds xs _ p q)
      | simp [toPd, PyData.eqv]
  | .kl xs, e, p, q => by
    cases e <;> first
      | exact (Bool.false_ne_true q).elim
      | (simp only [toPd, PyData.eqv, PyData.list.injEq]; exact eqv_pds xs _ p q)
      | simp [toPd, PyData.eqv]
  | .tup xs, e, p, q => by
    cases e <;> first
      | exact (Bool.false_ne_true q).elim
      | (simp only [toPd, PyData.eqv, PyData.tuple.injEq]; exact eqv_pds xs _ p q)
      | simp [toPd, PyData.eqv]
  | .bl _, _, p, _ => by cases p
  | .ref _, _, p, _ => by cases p
  | .mut _, _, p, _ => by cases p
  | .ty _, _, p, _ => by cases p
  | .dK _, _, p, _ => by cases p
  | .dT _, _, p, _ => by cases p
  | .ins _ _, _, p, _ => by cases p
  | .exc _ _ _ _, _, p, _ => by cases p
theorem eqv_pds : ∀ ds es : List D, plainDs ds = true → plainDs es = true → (PyData.eqvAll (toPds ds) (toPds es) = true ↔ toPds ds = toPds es)
  | [], [], _, _ => by simp [toPds, PyData.eqvAll]
  | [], _ :: _, _, _ => by simp [toPds, PyData.eqvAll]
  | _ :: _, [], _, _ => by simp [toPds, PyData.eqvAll]
  | d :: ds, e :: es, p, q => by
    have h1 := eqv_pd d e (Bool.and_eq_true_iff.mp p).1 (Bool.and_eq_true_iff.mp q).1
    have h2 := eqv_pds ds es (Bool.and_eq_true_iff.mp p).2 (Bool.and_eq_true_iff.mp q).2
    simp only [toPds, PyData.eqvAll, Bool.and_eq_true, List.cons.injEq, h1, h2]
end
end
end PyD
/-! PyD3: equality, built-ins, methods, dicts. -/
namespace PyD
open PySem PySem.Spec L2
section
variable {K : PySem.W.Frag} {W : WX} {ex : Ek} {G : Gm} {O : Ow} {P : D → Ow → Prop} {PT : Bool → Ow → Prop} {PA : List D → Ow → Prop} {E : EnD} {ta tb te tc : TE} {tt uu : TT} {t u : TS} {aa ab : TA}
/-! ### == and != -/
def rEqA (K : PySem.W.Frag) : R2 := fun x y H Q => rEq x y H Q ∨ rEqD K x y H Q
def rNeA (K : PySem.W.Frag) : R2 := fun x y H Q => rNe x y H Q ∨ rNeD K x y H Q
theorem opA_eq {X : Cx} (hu : X.A.units + 64 < cLine) : OpR X (compareOp .Eq) (rEqA X.K) := OpR.or op_eq (op_eqD hu)
theorem opA_ne {X : Cx} (hu : X.A.units + 64 < cLine) : OpR X (compareOp .NotEq) (rNeA X.K) := OpR.or op_ne (op_neD hu)
theorem dec_iff {p q : Prop} [Decidable p] [Decidable q] (h : p ↔ q) : decide p = decide q := by
  by_cases c : p
  · rw [decide_eq_true c, decide_eq_true (h.mp c)]
  · rw [decide_eq_false c, decide_eq_false fun z => c (h.mpr z)]
theorem wpR_eqI {i j : Int} (p : P (.bl (decide (i = j))) O) : wpR K (rEqA K) (.int i) (.int j) O P := fun Z F H vx vy S rx ry Q q => by
  cases rx
  cases ry
  refine .inl ⟨rfl, ?_⟩
  rw [dec_iff (show V.int i = V.int j ↔ i = j by simp)]
  exact q _ _ F H O S (Ex.refl F) (.bl _) p
theorem wpR_neI {i j : Int} (p : P (.bl (!decide (i = j))) O) : wpR K (rNeA K) (.int i) (.int j) O P := fun Z F H vx vy S rx ry Q q => by
  cases rx
  cases ry
  refine .inl ⟨rfl, ?_⟩
  rw [dec_iff (show V.int i = V.int j ↔ i = j by simp)]
  exact q _ _ F H O S (Ex.refl F) (.bl _) p
theorem wpR_eqS {i j : Str} (p : P (.bl (decide (i = j))) O) : wpR K (rEqA K) (.str i) (.str j) O P := fun Z F H vx vy S rx ry Q q => by
  cases rx
  cases ry
  refine .inl ⟨rfl, ?_⟩
  rw [dec_iff (show V.str i = V.str j ↔ i = j by simp)]
  exact q _ _ F H O S (Ex.refl F) (.bl _) p
theorem wpR_neS {i j : Str} (p : P (.bl (!decide (i = j))) O) : wpR K (rNeA K) (.str i) (.str j) O P := fun Z F H vx vy S rx ry Q q => by
  cases rx
  cases ry
  refine .inl ⟨rfl, ?_⟩
  rw [dec_iff (show V.str i = V.str j ↔ i = j by simp)]
  exact q _ _ F H O S (Ex.refl F) (.bl _) p
theorem wpR_eqB {i j : Bool} (p : P (.bl (decide (i = j))) O) : wpR K (rEqA K) (.bl i) (.bl j) O P := fun Z F H vx vy S rx ry Q q => by
  cases rx
  cases ry
  refine .inl ⟨rfl, ?_⟩
  rw [dec_iff (show V.bl i = V.bl j ↔ i = j by simp)]
  exact q _ _ F H O S (Ex.refl F) (.bl _) p
/-- what data an object holds now: an owned list by what it holds -/
def viewOf (O : Ow) (d e : D) : Prop := d = e ∨ ∃ a b xs, d = .mut a ∧ (⟨a, b, .lst xs⟩ : Ob) ∈ O ∧ e = .lst xs
theorem view_self {d : D} : viewOf O d d := .inl rfl
theorem view_m {xs : List D} {a : Addr} {b : Bool} {i : Nat} (h : O[i]? = some ⟨a, b, .lst xs⟩) : viewOf O (.mut a) (.lst xs) := .inr ⟨a, b, xs, rfl, List.mem_of_getElem? h, rfl⟩
theorem viewOf.dp {Z : En0} {F H : Hp} {d e : D} {v : V} (h : viewOf O d e) (S : S0 K Z F H O) (r : Rp K F d v) (p : plainD e = true) : Dp K H v (toPd e) := by
  rcases h with rfl | ⟨a, b, xs, rfl, hm, rfl⟩
  · exact r.dp S.ex p
  · cases r
    obtain ⟨_, ⟨vs, h2, h3⟩, _⟩ := S.own _ hm
    exact .lst (SqL.of h2) (h3.dp S.ex p)
def shal (d : D) : Prop := plainD d = true ∧ (toPd d).depth ≤ 64
theorem shal.ok {d : D} (h : shal d) : SeqAt.shaped (toPd d) = true := Bool.and_eq_true_iff.mpr ⟨canLay_pd d h.1, decide_eq_true h.2⟩
theorem wpR_eqD {x y d e : D} (hx : viewOf O x d) (hy : viewOf O y e) (sd : shal d) (se : shal e) (p : ∀ b : Bool, (b = true ↔ toPd d = toPd e) → P (.bl b) O) : wpR K (rEqA K) x y O P := fun Z F H vx vy S rx ry Q q =>
  .inr ⟨_, _, hx.dp S rx sd.1, hy.dp S ry se.1, sd.ok, se.ok, q _ _ F H O S (Ex.refl F) (.bl _) (p _ (eqv_pd d e sd.1 se.1))⟩
theorem wpR_neD {x y d e : D} (hx : viewOf O x d) (hy : viewOf O y e) (sd : shal d) (se : shal e) (p : ∀ b : Bool, (b = true ↔ toPd d = toPd e) → P (.bl (!b)) O) : wpR K (rNeA K) x y O P := fun Z F H vx vy S rx ry Q q =>
  .inr ⟨_, _, hx.dp S rx sd.1, hy.dp S ry se.1, sd.ok, se.ok, q _ _ F H O S (Ex.refl F) (.bl _) (p _ (eqv_pd d e sd.1 se.1))⟩
theorem plain_ints (ns : List Int) : plainDs (ns.map D.int) = true := by
  induction ns with
  | nil => rfl
  | cons n ns ih => exact Bool.and_eq_true_iff.mpr ⟨rfl, ih⟩
theorem pds_map {α : Type} (f : α → D) : ∀ xs : List α, toPds (xs.map f) = xs.map fun x => toPd (f x)
  | [] => rfl
  | x :: xs => by
    rw [List.map_cons, List.map_cons, ← pds_map f xs] <;> rfl
theorem depthAll_le {n : Nat} : ∀ {ds : List PyData}, (∀ d ∈ ds, d.depth ≤ n) → PyData.depthAll ds ≤ n
  | [], _ => by unfold PyData.depthAll; exact Nat.zero_le _
  | d :: ds, h => by
    unfold PyData.depthAll
    exact Nat.max_le.mpr ⟨h d List.mem_cons_self, depthAll_le fun e he => h e (List.mem_cons_of_mem _ he)⟩
/-- plain data of a depth of at most n -/
def shalN (n : Nat) (d : D) : Prop := plainD d = true ∧ (toPd d).depth ≤ n
theorem shalN.ok {n : Nat} {d : D} (h : shalN n d) (hn : n ≤ 64) : shal d := ⟨h.1, Nat.le_trans h.2 hn⟩
theorem shalN.mono {n m : Nat} {d : D} (h : shalN n d) (hn : n ≤ m) : shalN m d := ⟨h.1, Nat.le_trans h.2 hn⟩
theorem shalN_int {n : Nat} {i : Int} : shalN n (.int i) := ⟨rfl, by show (PyData.int i).depth ≤ n; unfold PyData.depth; exact Nat.zero_le _⟩
theorem shalN_non {n : Nat} : shalN n .non := ⟨rfl, by show (PyData.none).depth ≤ n; unfold PyData.depth; exact Nat.zero_le _⟩
theorem shalN_str {n : Nat} {s : Str} (h : PySem.PyData.strOk s = true) : shalN n (.str s) := ⟨h, by show (PyData.str s).depth ≤ n; unfold PyData.depth; exact Nat.zero_le _⟩
theorem plains_of : ∀ {xs : List D}, (∀ x ∈ xs, plainD x = true) → plainDs xs = true
  | [], _ => rfl
  | x :: xs, h => Bool.and_eq_true_iff.mpr ⟨h x List.mem_cons_self, plains_of fun y hy => h y (List.mem_cons_of_mem _ hy)⟩
theorem toPds_map : ∀ xs : List D, toPds xs = xs.map toPd
  | [] => rfl
  | x :: xs => by rw [List.map_cons, ← toPds_map xs] <;> rfl
theorem shalN_lst {n : Nat} {xs : List D} (h : ∀ x ∈ xs, shalN n x) : shalN (n + 1) (.lst xs) := by
  refine ⟨plains_of fun x hx => (h x hx).1, ?_⟩
  show (PyData.list (toPds xs)).depth ≤ n + 1
  unfold PyData.depth
  refine Nat.succ_le_succ (depthAll_le fun d hd => ?_)
  rw [toPds_map] at hd
  obtain ⟨x, hx, rfl⟩ := List.mem_map.mp hd
  exact (h x hx).2
theorem shalN_tup {n : Nat} {xs : List D} (h : ∀ x ∈ xs, shalN n x) : shalN (n + 1) (.tup xs) := by
  refine ⟨plains_of fun x hx => (h x hx).1, ?_⟩
  show (PyData.tuple (toPds xs)).depth ≤ n + 1
  unfold PyData.depth
  refine Nat.succ_le_succ (depthAll_le fun d hd => ?_)
  rw [toPds_map] at hd
  obtain ⟨x, hx, rfl⟩ := List.mem_map.mp hd
  exact (h x hx).2
theorem shal_L (ns : List Int) : shal (L ns) := (shalN_lst (n := 0) fun x hx => by
  obtain ⟨n, _, rfl⟩ := List.mem_map.mp hx
  exact shalN_int).ok (by decide)
theorem map_inj {α β : Type} {f : α → β} (h : ∀ a b, f a = f b → a = b) : ∀ {xs ys : List α}, xs.map f = ys.map f → xs = ys
  | [], [], _ => rfl
  | [], _ :: _, e => by cases e
  | _ :: _, [], e => by cases e
  | x :: xs, y :: ys, e => by
    rw [List.map_cons, List.map_cons, List.cons.injEq] at e
    rw [h _ _ e.1, map_inj h e.2]
theorem pd_lst {α : Type} {f : α → D} (h : ∀ a b, toPd (f a) = toPd (f b) → a = b) {xs ys : List α} : toPd (.lst (xs.map f)) = toPd (.lst (ys.map f)) ↔ xs = ys := by
  constructor
  · intro e
    have e2 : toPds (xs.map f) = toPds (ys.map f) := PyData.list.inj e
    rw [pds_map, pds_map] at e2
    exact map_inj h e2
  · intro e
    rw [e]
theorem pd_L {ns ms : List Int} : toPd (L ns) = toPd (L ms) ↔ ns = ms := pd_lst fun a b e => by
  have e2 : PyData.int a = PyData.int b := e
  exact PyData.int.inj e2
theorem wpR_eqL {x y : D} {ns ms : List Int} (hx : viewOf O x (L ns)) (hy : viewOf O y (L ms)) (p : ∀ b : Bool, (b = true ↔ ns = ms) → P (.bl b) O) : wpR K (rEqA K) x y O P := wpR_eqD hx hy (shal_L _) (shal_L _) fun b h => p b (h.trans pd_L)
theorem wpR_neL {x y : D} {ns ms : List Int} (hx : viewOf O x (L ns)) (hy : viewOf O y (L ms)) (p : ∀ b : Bool, (b = true ↔ ns = ms) → P (.bl (!b)) O) : wpR K (rNeA K) x y O P := wpR_neD hx hy (shal_L _) (shal_L _) fun b h => p b (h.trans pd_L)
/-! ### len, list, sum, .. -/
def rLenA (K : PySem.W.Frag) : List V → Hp → VK → Prop := fun xs H Q => ∃ x n, xs = [x] ∧ LenV K x H n ∧ Q (.int n) H
theorem callA_len {X : Cx} : CallR X (.builtin "len") (rLenA X.K) := call_len
theorem wpC_lenL {x : D} {xs : List D} (hx : seqOf O x xs) (p : P (.int (xs.length : Int)) O) : wpC K (rLenA K) [x] O P := fun Z F H vs S r Q q => by
  cases r with
  | cons ra rb =>
    cases rb
    obtain ⟨a, vs, rfl, ha, rv⟩ := hx.at S ra
    exact ⟨_, vs.length, rfl, .inl ⟨vs, ha, rfl⟩, by rw [← rv.length]; exact q _ _ F H O S (Ex.refl F) (.int _) p⟩
theorem wpC_lenT {xs : List D} (p : P (.int (xs.length : Int)) O) : wpC K (rLenA K) [.tup xs] O P := fun Z F H vs S r Q q => by
  cases r with
  | cons ra rb =>
    cases rb
    cases ra with
    | @tup a vs _ ht rv => exact ⟨_, vs.length, rfl, .inr ⟨vs, ex_t S.ex ht, rfl⟩, by rw [← rv.length]; exact q _ _ F H O S (Ex.refl F) (.int _) p⟩
theorem wpC_lenS {s : Str} (hl : s.length ≤ sizeLine) (p : P (.int (s.length : Int)) O) : wpC K (rLenA K) [.str s] O P := fun Z F H vs S r Q q => by
  cases r with
  | cons ra rb =>
    cases rb
    cases ra
    exact ⟨_, s.length, rfl, ⟨hl, rfl⟩, q _ _ F H O S (Ex.refl F) (.int _) p⟩
def rListA (K : PySem.W.Frag) : List V → Hp → VK → Prop := fun xs H Q => ∃ p ys, xs = [.ref p] ∧ (SqL K H p ys ∨ SqT K H p ys) ∧ ∀ l, H l = none → Q (.ref l) (upd H l (.lst ys))
theorem callA_list {X : Cx} : CallR X (.type "list") (rListA X.K) := call_list_of
theorem wpC_list (fr : Bool) {x : D} {xs : List D} (hx : seqOf O x xs) (p : lcEnd fr xs O P) : wpC K (rListA K) [x] O P := fun Z F H vs S r Q q => by
  cases r with
  | cons ra rb =>
    cases rb
    obtain ⟨a, vs, rfl, ha, rv⟩ := hx.at S ra
    exact ⟨a, vs, rfl, .inl ha, mk_new S rv p q⟩
theorem wpC_listT (fr : Bool) {xs : List D} (p : lcEnd fr xs O P) : wpC K (rListA K) [.tup xs] O P := fun Z F H vs S r Q q => by
  cases r with
  | cons ra rb =>
    cases rb
    cases ra with
    | @tup a vs _ ht rv => exact ⟨a, vs, rfl, .inr (ex_t S.ex ht), mk_new S rv p q⟩
def rTupA (K : PySem.W.Frag) : List V → Hp → VK → Prop := fun xs H Q => ∃ p ys, xs = [.ref p] ∧ ((SqL K H p ys ∧ ∀ l, H l = none → Q (.ref l) (upd H l (.tup ys))) ∨ (SqT K H p ys ∧ Q (.ref p) H))
theorem callA_tup {X : Cx} : CallR X (.type "tuple") (rTupA X.K) := call_tuple_of
theorem wpC_tupL {x : D} {xs : List D} (hx : seqOf O x xs) (p : P (.tup xs) O) : wpC K (rTupA K) [x] O P := fun Z F H vs S r Q q => by
  cases r with
  | cons ra rb =>
    cases rb
    obtain ⟨a, vs, rfl, ha, rv⟩ := hx.at S ra
    refine ⟨a, vs, rfl, .inl ⟨ha, fun l hl => ?_⟩⟩
    have hF := S.ex.none hl
    exact q _ _ _ _ _ (S.frz _ hl) (Ex.new hF) (.tup (SqT.of upd_same) (rv.mono (Ex.new hF))) p
theorem wpC_sum {x : D} {ns : List Int} (hx : seqOf O x (ns.map D.int)) (p : P (.int ns.sum) O) : wpC K (rSum K) [x] O P := fun Z F H vs S r Q q => by
  cases r with
  | cons ra rb =>
    cases rb
    obtain ⟨a, vs, rfl, ha, rv⟩ := hx.at S ra
    have e := rv.ints
    subst e
    exact ⟨a, ns, rfl, ha, q _ _ F H O S (Ex.refl F) (.int _) p⟩
theorem wpC_min {x : D} {ns : List Int} (hx : seqOf O x (ns.map D.int)) (h0 : 0 < ns.length) (p : ∀ m, m ∈ ns → (∀ y, y ∈ ns → m ≤ y) → P (.int m) O) : wpC K (rMin K) [x] O P := fun Z F H vs S r Q q => by
  cases r with
  | cons ra rb =>
    cases rb
    obtain ⟨a, vs, rfl, ha, rv⟩ := hx.at S ra
    have e := rv.ints
    subst e
    exact ⟨a, ns, rfl, ha, h0, fun m h1 h2 => q _ _ F H O S (Ex.refl F) (.int _) (p m h1 h2)⟩
theorem wpC_max {x : D} {ns : List Int} (hx : seqOf O x (ns.map D.int)) (h0 : 0 < ns.length) (p : ∀ m, m ∈ ns → (∀ y, y ∈ ns → y ≤ m) → P (.int m) O) : wpC K (rMax K) [x] O P := fun Z F H vs S r Q q => by
  cases r with
  | cons ra rb =>
    cases rb
    obtain ⟨a, vs, rfl, ha, rv⟩ := hx.at S ra
    have e := rv.ints
    subst e
    exact ⟨a, ns, rfl, ha, h0, fun m h1 h2 => q _ _ F H O S (Ex.refl F) (.int _) (p m h1 h2)⟩
theorem wpC_all {x : D} {bs : List Bool} (hx : seqOf O x (bs.map D.bl)) (p : P (.bl (bs.all id)) O) : wpC K (rAll K) [x] O P := fun Z F H vs S r Q q => by
  cases r with
  | cons ra rb =>
    cases rb
    obtain ⟨a, vs, rfl, ha, rv⟩ := hx.at S ra
    have e := rv.bls
    subst e
    exact ⟨a, bs, rfl, ha, q _ _ F H O S (Ex.refl F) (.bl _) p⟩
theorem wpC_any {x : D} {bs : List Bool} (hx : seqOf O x (bs.map D.bl)) (p : P (.bl (bs.any id)) O) : wpC K (rAny K) [x] O P := fun Z F H vs S r Q q => by
  cases r with
  | cons ra rb =>
    cases rb
    obtain ⟨a, vs, rfl, ha, rv⟩ := hx.at S ra
    have e := rv.bls
    subst e
    exact ⟨a, bs, rfl, ha, q _ _ F H O S (Ex.refl F) (.bl _) p⟩
theorem wpC_sortI (fr : Bool) {x : D} {ns : List Int} (hx : seqOf O x (ns.map D.int)) (p : ∀ ms : List Int, ms.Perm ns → ms.Pairwise (· ≤ ·) → lcEnd fr (ms.map D.int) O P) : wpC K (rSortedI K) [x] O P := fun Z F H vs S r Q q => by
  cases r with
  | cons ra rb =>
    cases rb
    obtain ⟨a, vs, rfl, ha, rv⟩ := hx.at S ra
    have e := rv.ints
    subst e
    exact ⟨a, ns, rfl, ha, fun ms l h1 h2 hl => mk_new S (Rps.of_ints ms) (p ms h1 h2) q l hl⟩
def rMax2 : List V → Hp → VK → Prop := fun xs H Q => ∃ i j, xs = [.int i, .int j] ∧ Q (.int (if j > i then j else i)) H
def rMin2 : List V → Hp → VK → Prop := fun xs H Q => ∃ i j, xs = [.int i, .int j] ∧ Q (.int (if j < i then j else i)) H
theorem callA_max2 {X : Cx} (hc : X.calm = true) : CallR X (.builtin "max") rMax2 := call_max2 hc
theorem callA_min2 {X : Cx} (hc : X.calm = true) : CallR X (.builtin "min") rMin2 := call_min2 hc
theorem wpC_max2 {i j : Int} (p : P (.int (if j > i then j else i)) O) : wpC K rMax2 [.int i, .int j] O P := fun Z F H vs S r Q q => by
  cases r with
  | cons ra rb =>
    cases rb with
    | cons rc rd =>
      cases rd
      cases ra
      cases rc
      exact ⟨i, j, rfl, q _ _ F H O S (Ex.refl F) (.int _) p⟩
theorem wpC_min2 {i j : Int} (p : P (.int (if j < i then j else i)) O) : wpC K rMin2 [.int i, .int j] O P := fun Z F H vs S r Q q => by
  cases r with
  | cons ra rb =>
    cases rb with
    | cons rc rd =>
      cases rd
      cases ra
      cases rc
      exact ⟨i, j, rfl, q _ _ F H O S (Ex.refl F) (.int _) p⟩
def rAbs : List V → Hp → VK → Prop := fun xs H Q => ∃ i, xs = [.int i] ∧ Q (.int (if i < 0 then -i else i)) H
theorem callA_abs {X : Cx} : CallR X (.builtin "abs") rAbs := call_abs
theorem wpC_abs {i : Int} (p : P (.int (if i < 0 then -i else i)) O) : wpC K rAbs [.int i] O P := fun Z F H vs S r Q q => by
  cases r with
  | cons ra rb =>
    cases rb
    cases ra
    exact ⟨i, rfl, q _ _ F H O S (Ex.refl F) (.int _) p⟩
def rIntA : List V → Hp → VK → Prop := fun xs H Q => (∃ i, xs = [.int i] ∧ Q (.int i) H) ∨ ∃ k, xs = [.bl k] ∧ Q (.int (if k then 1 else 0)) H
theorem callA_int {X : Cx} : CallR X (.type "int") rIntA := call_int1
theorem wpC_int {i : Int} (p : P (.int i) O) : wpC K rIntA [.int i] O P := fun Z F H vs S r Q q => by
  cases r with
  | cons ra rb =>
    cases rb
    cases ra
    exact .inl ⟨i, rfl, q _ _ F H O S (Ex.refl F) (.int _) p⟩
/-! ### isinstance -/
inductive TyD (O : Ow) : D → String → Prop where
  | non : TyD O .non "NoneType"
  | bl (b : Bool) : TyD O (.bl b) "bool"
  | int (i : Int) : TyD O (.int i) "int"
  | str (s : Str) : TyD O (.str s) "str"
  | lst (xs : List D) : TyD O (.lst xs) "list"
  | own {a : Addr} {b : Bool} {xs : List D} (h : (⟨a, b, .lst xs⟩ : Ob) ∈ O) : TyD O (.mut a) "list"
  | tup (xs : List D) : TyD O (.tup xs) "tuple"
  | dK (kvs : List (Key × D)) : TyD O (.dK kvs) "dict"
theorem wpC_isi {x : D} {t n : String} {b : Bool} (ht : TyD O x t) (hk : kitB t n = some b) (p : P (.bl b) O) : wpC K (rIsi K) [x, .ty n] O P := fun Z F H vs S r Q q => by
  cases r with
  | @cons _ _ vx _ ra rb =>
    cases rb with
    | cons rc rd =>
      cases rd
      cases rc
      have go : TyX K H vx (.type t) := by
        cases ht with
        | non => cases ra; exact .base .non
        | bl b => cases ra; exact .base (.bl b)
        | int i => cases ra; exact .base (.int i)
        | str s => cases ra; exact .base (.str s)
        | lst xs => cases ra with
          | lst h1 _ => exact .base (.lst (S.ex _ _ h1))
        | own h =>
          cases ra
          obtain ⟨_, ⟨vs, h2, _⟩, _⟩ := S.own _ h
          exact .base (.lst h2)
        | tup xs => cases ra with
          | tup h1 _ =>
            rcases ex_t S.ex h1 with (h1 | ⟨o, h1⟩) | ⟨o, its, m, h1, h2, _⟩
            · exact .base (.tup h1)
            · exact .fTuple h1
            · exact .kTuple h1 h2
        | dK kvs => cases ra with
          | dK h1 _ _ => exact .base (.dK (S.ex _ _ h1))
      exact ⟨_, _, _, _, b, rfl, .ty n, go, kit_ty hk, q _ _ F H O S (Ex.refl F) (.bl _) p⟩
/-! ### methods of lists -/
theorem wpE_bm {T : String} {r : V → List V → Hp → VK → Prop} (ht : T = "list") (h : wpE K W ex te G O fun x O1 => (∃ xs, seqOf O1 x xs) ∧ wpA K W ex aa G O1 fun ys O2 => wpM K r x ys O2 P) : wpE K W ex (tBM K T r te aa) G O P := fun Z F H σ X S s Q q =>
  h Z F H σ X S s _ fun x v F1 H1 O1 S1 e1 r1 ⟨⟨xs, hx⟩, p1⟩ => by
    subst ht
    obtain ⟨a, vs, rfl, ha, rv⟩ := hx.at S1 r1
    exact ⟨.inl ⟨rfl, vs, ha⟩, p1 Z F1 H1 σ (X.mono e1) S1 (s.mono e1) _ fun ys vy F2 H2 O2 S2 e2 r2 p2 => p2 Z F2 H2 _ _ S2 (r1.mono e2) r2 Q fun d v F3 H3 O3 S3 e3 r3 p3 => q d v F3 H3 O3 S3 (e1.trans (e2.trans e3)) r3 p3⟩
theorem wpE_bm0 {T : String} {r : V → List V → Hp → VK → Prop} (ht : T = "list") (h : wpE K W ex te G O fun x O1 => (∃ xs, seqOf O1 x xs) ∧ wpM K r x [] O1 P) : wpE K W ex (tBM0 K T r te) G O P := fun Z F H σ X S s Q q =>
  h Z F H σ X S s _ fun x v F1 H1 O1 S1 e1 r1 ⟨⟨xs, hx⟩, p1⟩ => by
    subst ht
    obtain ⟨a, vs, rfl, ha, rv⟩ := hx.at S1 r1
    exact ⟨.inl ⟨rfl, vs, ha⟩, p1 Z F1 H1 _ _ S1 r1 .nil Q fun d v F3 H3 O3 S3 e3 r3 p3 => q d v F3 H3 O3 S3 (e1.trans e3) r3 p3⟩
theorem wpM_append {j : Nat} {a : Addr} {b : Bool} {xs : List D} {y : D} (hj : O[j]? = some ⟨a, b, .lst xs⟩) (hl : xs.length < sizeLine) (p : P .non (O.set j ⟨a, b, .lst (xs ++ [y])⟩)) : wpM K rAppend (.mut a) [y] O P := fun Z F H vx vs S rx r Q q => by
  cases rx
  cases r with
  | cons ra rb =>
    cases rb
    obtain ⟨_, ⟨ws, h2, h3⟩, _⟩ := S.own _ (List.mem_of_getElem? hj)
    exact ⟨a, ws, _, rfl, rfl, h2, by rw [← h3.length]; exact hl, q _ _ F _ _ (S.write hj (d' := .lst (xs ++ [y])) ⟨_, upd_same, h3.app (.one ra)⟩) (Ex.refl F) .non p⟩
theorem wpM_pop {j : Nat} {a : Addr} {b : Bool} {xs : List D} {y : D} (hj : O[j]? = some ⟨a, b, .lst xs⟩) (hy : xs[xs.length - 1]? = some y) (p : P y (O.set j ⟨a, b, .lst xs.dropLast⟩)) : wpM K rPop (.mut a) [] O P := fun Z F H vx vs S rx r Q q => by
  cases rx
  cases r
  obtain ⟨_, ⟨ws, h2, h3⟩, _⟩ := S.own _ (List.mem_of_getElem? hj)
  obtain ⟨v, hv, rv⟩ := h3.get hy
  refine ⟨a, ws, v, rfl, rfl, h2, by rw [← h3.length]; exact hv, q _ _ F _ _ (S.write hj (d' := .lst xs.dropLast) ⟨_, upd_same, ?_⟩) (Ex.refl F) rv p⟩
  rw [List.dropLast_eq_take, List.dropLast_eq_take, ← h3.length]
  exact h3.take _
theorem wpM_popAt {j : Nat} {a : Addr} {b : Bool} {xs : List D} {i : Int} {y : D} (hj : O[j]? = some ⟨a, b, .lst xs⟩) (h0 : 0 ≤ i) (hb : i < 2 ^ 63) (hy : xs[i.toNat]? = some y) (p : P y (O.set j ⟨a, b, .lst (xs.eraseIdx i.toNat)⟩)) : wpM K rPopAt (.mut a) [.int i] O P := fun Z F H vx vs S rx r Q q => by
  cases rx
  cases r with
  | cons ra rb =>
    cases rb
    cases ra
    obtain ⟨_, ⟨ws, h2, h3⟩, _⟩ := S.own _ (List.mem_of_getElem? hj)
    obtain ⟨v, hv, rv⟩ := h3.get hy
    have hlen : i.toNat < ws.length := (List.getElem?_eq_some_iff.mp hv).1
    refine ⟨a, ws, i, i.toNat, v, rfl, rfl, h2, by omega, hb, ?_, hv, q _ _ F _ _ (S.write hj (d' := .lst (xs.eraseIdx i.toNat)) ⟨_, upd_same, h3.erase _⟩) (Ex.refl F) rv p⟩
    exact (ixN_seq (n := ws.length) (by unfold ixN; rw [if_pos h0, if_pos (by omega)])).1
def rInsert : V → List V → Hp → VK → Prop := fun x vs H Q => ∃ (l : Addr) (xs : List V) (i : Int) (y : V), x = .ref l ∧ vs = [.int i, y] ∧ H l = some (.lst xs) ∧ xs.length < sizeLine ∧ 0 ≤ i ∧ i < 2 ^ 63 ∧
    Q .non (upd H l (.lst (xs.take i.toNat ++ [y] ++ xs.drop i.toNat)))
theorem mtA_insert {X : Cx} : MtR X "list.insert" rInsert := mt_insert
theorem wpM_insert {j : Nat} {a : Addr} {b : Bool} {xs : List D} {i : Int} {y : D} (hj : O[j]? = some ⟨a, b, .lst xs⟩) (hl : xs.length < sizeLine) (h0 : 0 ≤ i) (hb : i < 2 ^ 63) (p : P .non (O.set j ⟨a, b, .lst (xs.take i.toNat ++ [y] ++ xs.drop i.toNat)⟩)) : wpM K rInsert (.mut a) [.int i, y] O P := fun Z F H vx vs S rx r Q q => by
  cases rx
  cases r with
  | cons ra rb =>
    cases rb with
    | cons rc rd =>
      cases rd
      cases ra
      obtain ⟨_, ⟨ws, h2, h3⟩, _⟩ := S.own _ (List.mem_of_getElem? hj)
      exact ⟨a, ws, i, _, rfl, rfl, h2, by rw [← h3.length]; exact hl, h0, hb, q _ _ F _ _ (S.write hj (d' := .lst (xs.take i.toNat ++ [y] ++ xs.drop i.toNat)) ⟨_, upd_same, ((h3.take _).app (.one rc)).app (h3.drop _)⟩) (Ex.refl F) .non p⟩
theorem wpM_reverse {j : Nat} {a : Addr} {b : Bool} {xs : List D} (hj : O[j]? = some ⟨a, b, .lst xs⟩) (p : P .non (O.set j ⟨a, b, .lst xs.reverse⟩)) : wpM K rReverse (.mut a) [] O P := fun Z F H vx vs S rx r Q q => by
  cases rx
  cases r
  obtain ⟨_, ⟨ws, h2, h3⟩, _⟩ := S.own _ (List.mem_of_getElem? hj)
  exact ⟨a, ws, rfl, rfl, h2, q _ _ F _ _ (S.write hj (d' := .lst xs.reverse) ⟨_, upd_same, h3.rev⟩) (Ex.refl F) .non p⟩
theorem wpM_indexI {x : D} {ns : List Int} {i : Int} (hx : seqOf O x (ns.map D.int)) (hi : i ∈ ns) (p : P (.int (ns.idxOf i : Nat)) O) : wpM K (rIndex K) x [.int i] O P := fun Z F H vx vs S rx r Q q => by
  cases r with
  | cons ra rb =>
    cases rb
    cases ra
    obtain ⟨a, vs, rfl, ha, rv⟩ := hx.at S rx
    have e := rv.ints
    subst e
    have hl := List.idxOf_lt_length_iff.mpr hi
    refine ⟨a, _, .int i, ns.idxOf i, .int i, rfl, rfl, ha, rfl, by simp [flatV], ?_, by simp [eqV], fun m z' hm hz => ?_, q _ _ F H O S (Ex.refl F) (.int _) p⟩
    · rw [List.getElem?_map, List.getElem?_eq_getElem hl]
      simp
    · rw [List.getElem?_map, List.getElem?_eq_getElem (show m < ns.length by omega)] at hz
      have hz2 : z' = V.int ns[m] := (Option.some.inj hz).symm
      subst hz2
      show (ns[m] == i) = false
      have h3 := List.not_of_lt_findIdx (p := (· == i)) (xs := ns) (show m < ns.findIdx (· == i) from hm)
      simpa using h3
/-- xs[i] = v -/
theorem wpPut_lst {j : Nat} {a : Addr} {b : Bool} {xs : List D} {i : Int} {d : D} {PO : Ow → Prop} (hj : O[j]? = some ⟨a, b, .lst xs⟩) (h0 : 0 ≤ i) (hi : i < xs.length) (p : PO (O.set j ⟨a, b, .lst (xs.set i.toNat d)⟩)) : wpPut K rSetL (.mut a) (.int i) d O PO := fun Z F H vo vi vv S ro ri rv Q q => by
  cases ro
  cases ri
  obtain ⟨_, ⟨ws, h2, h3⟩, _⟩ := S.own _ (List.mem_of_getElem? hj)
  refine ⟨a, ws, i, i.toNat, rfl, rfl, h2, ?_, q F _ _ (S.write hj (d' := .lst (xs.set i.toNat d)) ⟨_, upd_same, h3.set _ rv⟩) (Ex.refl F) p⟩
  unfold ixN
  rw [if_pos h0, if_pos (by rw [← h3.length]; exact hi)]
/-! ### truth -/
def tTru (K : PySem.W.Frag) (ta : TE) : TT := fun σ H Q => ta σ H fun x H' => ∃ k, TruV K x H' k ∧ Q k H'
inductive TrD (O : Ow) : D → Bool → Prop where
  | non : TrD O .non false
  | bl (b : Bool) : TrD O (.bl b) b
  | int (i : Int) : TrD O (.int i) (i != 0)
  | str (s : Str) (h : s.length ≤ sizeLine) : TrD O (.str s) ((s.length : Int) != 0)
  | seq {x : D} {xs : List D} (h : seqOf O x xs) : TrD O x (!xs.isEmpty)
  | tup (xs : List D) : TrD O (.tup xs) (!xs.isEmpty)
theorem isEmpty_rps {F : Hp} {ds : List D} {vs : List V} (r : Rps K F ds vs) : ds.isEmpty = vs.isEmpty := by
  cases r <;> rfl
theorem wpT_tru (h : wpE K W ex te G O fun d O1 => ∃ b, TrD O1 d b ∧ PT b O1) : wpT K W ex (tTru K te) G O PT := fun Z F H σ X S s Q q =>
  h Z F H σ X S s _ fun d v F1 H1 O1 S1 e1 r1 ⟨b, hd, p⟩ => by
    refine ⟨b, ?_, q b F1 H1 O1 S1 e1 p⟩
    cases hd with
    | non => cases r1; rfl
    | bl b => cases r1; rfl
    | int i => cases r1; rfl
    | str s h => cases r1; exact ⟨h, rfl⟩
    | seq h =>
      obtain ⟨a, vs, rfl, ha, rv⟩ := h.at S1 r1
      exact .inl ⟨vs, ha, by rw [isEmpty_rps rv]⟩
    | tup xs =>
      cases r1 with
      | tup h1 rv => exact .inr (.inl ⟨_, ex_t S1.ex h1, by rw [isEmpty_rps rv]⟩)
end
end PyD
/-! PyD4: dicts; promises over data; calls; a def by its body. -/
namespace PyD
open PySem PySem.Spec L2
section
variable {K : PySem.W.Frag} {W : WX} {ex : Ek} {G : Gm} {O : Ow} {P : D → Ow → Prop} {PT : Bool → Ow → Prop} {PA : List D → Ow → Prop} {E : EnD} {ta tb te tc td : TE} {tt uu : TT} {t u : TS} {aa ab : TA}
/-! ### dicts -/
section
variable {κ : Type} [DecidableEq κ]
def valD (kvs : List (κ × D)) (k : κ) : Option D := (kvs.find? fun kv => decide (kv.1 = k)).map (·.2)
def putD (kvs : List (κ × D)) (k : κ) (v : D) : List (κ × D) := if (kvs.any fun kv => decide (kv.1 = k)) = true then kvs.map (fun kv => if kv.1 = k then (kv.1, v) else kv) else kvs ++ [(k, v)]
def RKv (K : PySem.W.Frag) (F : Hp) (kds : List (κ × D)) (kvs : List (κ × V)) : Prop := kds.map (·.1) = kvs.map (·.1) ∧ Rps K F (kds.map (·.2)) (kvs.map (·.2))
omit [DecidableEq κ] in
theorem RKv.nil {F : Hp} : RKv K F ([] : List (κ × D)) [] := ⟨rfl, .nil⟩
omit [DecidableEq κ] in
theorem RKv.len {F : Hp} {kds : List (κ × D)} {kvs : List (κ × V)} (r : RKv K F kds kvs) : kds.length = kvs.length := by
  have h := congrArg List.length r.1
  simpa using h
omit [DecidableEq κ] in
theorem RKv.cons_inv {F : Hp} {p : κ × D} {kds : List (κ × D)} {kvs : List (κ × V)} (r : RKv K F (p :: kds) kvs) : ∃ v kvs', kvs = (p.1, v) :: kvs' ∧ Rp K F p.2 v ∧ RKv K F kds kvs' := by
  cases kvs with
  | nil => cases r.1
  | cons q kvs =>
    obtain ⟨h1, h2⟩ := r
    rw [List.map_cons, List.map_cons, List.cons.injEq] at h1
    cases h2 with
    | cons ra rb =>
      refine ⟨q.2, kvs, ?_, ra, h1.2, rb⟩
      rw [h1.1]
theorem RKv.val {F : Hp} {k : κ} : ∀ {kds : List (κ × D)} {kvs : List (κ × V)}, RKv K F kds kvs → (∀ d, valD kds k = some d → ∃ v, valV kvs k = some v ∧ Rp K F d v) ∧ (valD kds k = none → valV kvs k = none)
  | [], kvs, r => by
    have : kvs = [] := by
      cases kvs with
      | nil => rfl
      | cons q kvs => cases r.1
    subst this
    exact ⟨fun d h => by simp [valD] at h, fun _ => rfl⟩
  | p :: kds, kvs, r => by
    obtain ⟨v, kvs', rfl, rv, r'⟩ := r.cons_inv
    have ih := RKv.val (k := k) r'
    by_cases h : p.1 = k
    · refine ⟨fun d e => ⟨v, by simp [valV, List.find?_cons, h], ?_⟩, fun e => ?_⟩
      · simp [valD, List.find?_cons, h] at e
        rw [← e]
        exact rv
      · simp [valD, List.find?_cons, h] at e
    · have e1 : valD (p :: kds) k = valD kds k := by simp [valD, List.find?_cons, h]
      have e2 : valV ((p.1, v) :: kvs') k = valV kvs' k := by simp [valV, List.find?_cons, h]
      rw [e1, e2]
      exact ih
theorem RKv.any {F : Hp} {k : κ} : ∀ {kds : List (κ × D)} {kvs : List (κ × V)}, RKv K F kds kvs → (kds.any fun kv => decide (kv.1 = k)) = kvs.any fun kv => decide (kv.1 = k)
  | [], kvs, r => by
    cases kvs with
    | nil => rfl
    | cons q kvs => cases r.1
  | p :: kds, kvs, r => by
    obtain ⟨v, kvs', rfl, rv, r'⟩ := r.cons_inv
    rw [List.any_cons, List.any_cons, RKv.any r']
theorem RKv.put {F : Hp} {k : κ} {d : D} {v : V} {kds : List (κ × D)} {kvs : List (κ × V)} (r : RKv K F kds kvs) (rv : Rp K F d v) : RKv K F (putD kds k d) (putK kvs k v) := by
  unfold putD putK
  rw [r.any]
  split
  · have go : ∀ {kds : List (κ × D)} {kvs : List (κ × V)}, RKv K F kds kvs → RKv K F (kds.map fun kv => if kv.1 = k then (kv.1, d) else kv) (kvs.map fun kv => if kv.1 = k then (kv.1, v) else kv) := by
      intro kds
      induction kds with
      | nil =>
        intro kvs r
        cases kvs with
        | nil => exact .nil
        | cons q kvs => cases r.1
      | cons p kds ih =>
        intro kvs r
        obtain ⟨u, kvs', rfl, ru, r'⟩ := r.cons_inv
        obtain ⟨h1, h2⟩ := ih r'
        rw [List.map_cons, List.map_cons]
        by_cases h : p.1 = k
        · rw [if_pos h, if_pos h]
          exact ⟨by simp only [List.map_cons, h1], .cons rv h2⟩
        · rw [if_neg h, if_neg h]
          exact ⟨by simp only [List.map_cons, h1], .cons ru h2⟩
    exact go r
  · refine ⟨by rw [List.map_append, List.map_append, r.1] <;> rfl, ?_⟩
    rw [List.map_append, List.map_append]
    exact r.2.app (.one rv)
end
/-- a dict with ints and texts as keys: frozen or owned -/
def dOf (O : Ow) (x : D) (kds : List (Key × D)) : Prop := x = .dK kds ∨ ∃ a b, x = .mut a ∧ (⟨a, b, .dK kds⟩ : Ob) ∈ O
theorem d_l {kds : List (Key × D)} : dOf O (.dK kds) kds := .inl rfl
theorem d_m {kds : List (Key × D)} {a : Addr} {b : Bool} {i : Nat} (h : O[i]? = some ⟨a, b, .dK kds⟩) : dOf O (.mut a) kds := .inr ⟨a, b, rfl, List.mem_of_getElem? h⟩
theorem dOf.at {Z : En0} {F H : Hp} {x : D} {kds : List (Key × D)} {v : V} (h : dOf O x kds) (S : S0 K Z F H O) (r : Rp K F x v) : ∃ a kvs, v = .ref a ∧ H a = some (.dK kvs) ∧ RKv K F kds kvs := by
  rcases h with rfl | ⟨a, b, rfl, hm⟩
  · cases r with
    | dK h1 h2 h3 => exact ⟨_, _, rfl, S.ex _ _ h1, h2, h3⟩
  · cases r
    obtain ⟨_, ⟨vs, h2, h3, h4⟩, _⟩ := S.own _ hm
    exact ⟨_, vs, rfl, h2, h3, h4⟩
def kD : Key → D
  | .inl i => .int i
  | .inr s => .str s
theorem kD_v {F : Hp} {k : Key} {v : V} (r : Rp K F (kD k) v) : v = kV k := by
  cases k with
  | inl i => cases r; rfl
  | inr s => cases r; rfl
theorem wpE_dnew (p : ∀ a, (∀ q ∈ O, q.a ≠ a) → P (.mut a) (⟨a, true, .dK []⟩ :: O)) : wpE K W ex tDNewK G O P := fun Z F H σ X S s Q q a ha =>
  q _ _ F _ _ (S.new _ (.dK []) ha ⟨[], upd_same, rfl, .nil⟩) (Ex.refl F) (.mut a) (p a (S.freshO ha))
theorem wpE_dget (h : wpE K W ex td G O fun x O1 => wpE K W ex te G O1 fun y O2 => ∃ kds k v, dOf O2 x kds ∧ y = kD k ∧ valD kds k = some v ∧ P v O2) : wpE K W ex (tDGet td te) G O P := fun Z F H σ X S s Q q =>
  h Z F H σ X S s _ fun x vx F1 H1 O1 S1 e1 r1 p1 => p1 Z F1 H1 σ (X.mono e1) S1 (s.mono e1) _ fun y vy F2 H2 O2 S2 e2 r2 ⟨kds, k, v, hd, hy, hv, p⟩ => by
    obtain ⟨a, kvs, rfl, ha, rk⟩ := hd.at S2 (r1.mono e2)
    subst hy
    obtain rfl := kD_v r2
    obtain ⟨w, hw, rw'⟩ := rk.val.1 v hv
    exact ⟨a, w, rfl, by rw [← hw]; exact DGet.k ha, q _ _ F2 H2 O2 S2 (e1.trans e2) rw' p⟩
theorem wpE_din (h : wpE K W ex te G O fun y O1 => wpE K W ex td G O1 fun x O2 => ∃ kds k, dOf O2 x kds ∧ y = kD k ∧ P (.bl (valD kds k).isSome) O2) : wpE K W ex (tDIn te td) G O P := fun Z F H σ X S s Q q =>
  h Z F H σ X S s _ fun y vy F1 H1 O1 S1 e1 r1 p1 => p1 Z F1 H1 σ (X.mono e1) S1 (s.mono e1) _ fun x vx F2 H2 O2 S2 e2 r2 ⟨kds, k, hd, hy, p⟩ => by
    obtain ⟨a, kvs, rfl, ha, rk⟩ := hd.at S2 r2
    subst hy
    obtain rfl := kD_v r1
    refine ⟨a, _, rfl, DGet.k ha, ?_⟩
    have e : (valV kvs k).isSome = (valD kds k).isSome := by
      cases e : valD kds k with
      | none => rw [rk.val.2 e] <;> rfl
      | some d =>
        obtain ⟨w, hw, _⟩ := rk.val.1 d e
        rw [hw] <;> rfl
    rw [e]
    exact q _ _ F2 H2 O2 S2 (e1.trans e2) (.bl _) p
theorem wpE_dnotin (h : wpE K W ex te G O fun y O1 => wpE K W ex td G O1 fun x O2 => ∃ kds k, dOf O2 x kds ∧ y = kD k ∧ P (.bl (!(valD kds k).isSome)) O2) : wpE K W ex (tDNotIn te td) G O P := fun Z F H σ X S s Q q =>
  h Z F H σ X S s _ fun y vy F1 H1 O1 S1 e1 r1 p1 => p1 Z F1 H1 σ (X.mono e1) S1 (s.mono e1) _ fun x vx F2 H2 O2 S2 e2 r2 ⟨kds, k, hd, hy, p⟩ => by
    obtain ⟨a, kvs, rfl, ha, rk⟩ := hd.at S2 r2
    subst hy
    obtain rfl := kD_v r1
    refine ⟨a, _, rfl, DGet.k ha, ?_⟩
    have e : (valV kvs k).isSome = (valD kds k).isSome := by
      cases e : valD kds k with
      | none => rw [rk.val.2 e] <;> rfl
      | some d =>
        obtain ⟨w, hw, _⟩ := rk.val.1 d e
        rw [hw] <;> rfl
    rw [e]
    exact q _ _ F2 H2 O2 S2 (e1.trans e2) (.bl _) p
theorem wpS_dput (h : wpE K W ex tb G O fun v O1 => wpE K W ex td G O1 fun x O2 => wpE K W ex te G O2 fun y O3 => ∃ (j : Nat) (a : Addr) (b : Bool) (kds : List (Key × D)) (k : Key), x = .mut a ∧ O3[j]? = some ⟨a, b, .dK kds⟩ ∧ y = kD k ∧ kds.length < sizeLine ∧ E.nx G (O3.set j ⟨a, b, .dK (putD kds k v)⟩)) :
    wpS K W ex (sDPut td te tb) G O E := fun Z F H σ X S s D0 q =>
  h Z F H σ X S s _ fun v vv F1 H1 O1 S1 e1 r1 p1 => p1 Z F1 H1 σ (X.mono e1) S1 (s.mono e1) _ fun x vx F2 H2 O2 S2 e2 r2 p2 => p2 Z F2 H2 σ (X.mono (e1.trans e2)) S2 (s.mono (e1.trans e2)) _ fun y vy F3 H3 O3 S3 e3 r3 ⟨j, a, b, kds, k, hx, hj, hy, hl, p⟩ => by
    subst hx
    subst hy
    cases r2
    obtain rfl := kD_v r3
    obtain ⟨_, ⟨kvs, h2, h3, h4⟩, _⟩ := S3.own _ (List.mem_of_getElem? hj)
    have rk : RKv K F3 kds kvs := ⟨h3, h4⟩
    have rp := rk.put (k := k) (r1.mono (e2.trans e3))
    exact ⟨a, _, rfl, DPut.k h2 (by rw [← rk.len]; exact hl), q.nx F3 _ σ G _ (e1.trans (e2.trans e3)) (S3.write hj (d' := .dK (putD kds k v)) ⟨_, upd_same, rp.1, rp.2⟩) (s.mono (e1.trans (e2.trans e3))) p⟩
/-! ### promises over data -/
abbrev Kk := D → Ow → Prop
abbrev Xk := Xc → Ow → Prop
abbrev DSp := List D → Ow → Kk → Xk → Prop
def entry (F H : Hp) (O : Ow) : En0 := ⟨F, H, O.map Ob.a⟩
def toSp (K : PySem.W.Frag) (sp : DSp) : Sp := fun vs H Q E0 => ∃ ds F O k x, S0 K (entry F H O) F H O ∧ (∀ p ∈ O, p.loc = false) ∧ Rps K F ds vs ∧ sp ds O k x ∧
  (∀ d O' v F' H', S0 K (entry F H O) F' H' O' → Rp K F' d v → k d O' → Q v H') ∧ ∀ e O' dd F' H', S0 K (entry F H O) F' H' O' → XR K F' e dd → x e O' → E0 (.ref e.cls) dd H'
theorem toSp_len {sp : DSp} {n : Nat} (h : ∀ ds O k x, sp ds O k x → ds.length = n) : ∀ vs H Q E0, toSp K sp vs H Q E0 → vs.length = n := fun vs H Q E0 ⟨ds, F, O, k, x, _, _, r, q, _⟩ => by
  rw [← r.length]
  exact h _ _ _ _ q
/-- the slots at a def's entry -/
def startD (n : Nat) (ds : List D) : Gm := ds.map some ++ List.replicate (n - ds.length) none
theorem slots_start {F : Hp} {N : List Str} {ds : List D} {vs : List V} (r : Rps K F ds vs) : Slots K F (startD N.length ds) (L2.start N vs) := by
  refine ⟨?_, fun i d h => ?_⟩
  · unfold startD L2.start
    rw [List.length_append, List.length_append, List.length_map, List.length_map, List.length_replicate, List.length_replicate, r.length]
  · unfold startD at h
    unfold L2.start
    by_cases hi : i < ds.length
    · rw [List.getElem?_append_left (by rw [List.length_map]; exact hi), List.getElem?_map] at h
      rw [List.getElem?_append_left (by rw [List.length_map, ← r.length]; exact hi), List.getElem?_map]
      cases e : ds[i]? with
      | none => rw [e] at h; cases h
      | some d' =>
        rw [e] at h
        have h2 : d' = d := by simpa using h
        subst h2
        obtain ⟨v, hv, rv⟩ := r.get e
        exact ⟨v, by rw [hv] <;> rfl, rv⟩
    · rw [List.getElem?_append_right (by rw [List.length_map]; omega), List.getElem?_replicate] at h
      split at h <;> cases h
/-- a body that keeps its promise over data keeps it -/
theorem body_ok {sp : DSp} {N : List Str} {ts : WX → TS} (h : ∀ W ds O k x, sp ds O k x → (∀ p ∈ O, p.loc = false) → wpS K W (fun e _ O' => x e O') (ts W) (startD N.length ds) O { nx := fun _ O' => k .non O', rt := k }) :
    ∀ vs H Q E0, toSp K sp vs H Q E0 → ts (fun cls d _ H => E0 cls d H) { nx := fun _ H' => Q .non H', rt := Q } (L2.start N vs) H := fun vs H Q E0 ⟨ds, F, O, k, x, S, lo, r, q, qk, qx⟩ =>
  h _ ds O _ _ q lo (entry F H O) F H _ (fun x d F' H' σ G O' _ S' s' r' e' => qx _ _ d F' H' S' r' e') S (slots_start r) _
    ⟨fun F' H' σ G O' _ S' s' p => qk _ _ .non F' H' S' .non p, fun F' H' d v O' _ S' r' p => qk _ _ v F' H' S' r' p, fun _ _ _ _ _ _ _ _ z => z.elim, fun _ _ _ _ _ _ _ _ z => z.elim⟩
/-! ### calls -/
/-- the heap, handed to a callee that is handed no owned object -/
theorem S0.call0 {Z : En0} {F H : Hp} (S : S0 K Z F H O) : S0 K (entry F H []) F H [] where
  ex := S.ex
  frame := fun _ _ _ e => e
  fz := fun _ _ => rfl
  alive := fun _ h => by cases h
  own := fun _ h => by cases h
  nd := .nil
theorem S0.back0 {Z : En0} {F H F' H' : Hp} {N : Ow} (S : S0 K Z F H O) (S' : S0 K (entry F H []) F' H' N) : S0 K Z F' H' (N ++ O) ∧ Ex F F' := by
  have keep : ∀ a o, H a = some o → H' a = some o := fun a o e => S'.frame a o (by simp [entry]) e
  have eF : Ex F F' := fun a o e => by
    have h1 := S.ex a o e
    rw [S'.fz a (by show H a ≠ none; rw [h1]; intro z; cases z)]
    exact e
  have loc : ∀ p ∈ N, p.loc = true ∧ H p.a = none := fun p hp => by
    obtain ⟨_, _, h3, h4⟩ := S'.own p hp
    cases hb : p.loc with
    | true => exact ⟨rfl, h3 hb⟩
    | false =>
      have := h4 hb
      simp [entry] at this
  refine ⟨⟨S'.ex, fun a o hm e => keep a o (S.frame a o hm e), fun a e => ?_, fun a hm e => ?_, fun p hp => ?_, ?_⟩, eF⟩
  · have h1 : H a ≠ none := fun z => e (S.fresh z)
    rw [S'.fz a h1]
    exact S.fz a e
  · cases e2 : H a with
    | none => exact S.alive a hm e2
    | some o =>
      rw [keep a o e2] at e
      cases e
  · rcases List.mem_append.mp hp with hp | hp
    · obtain ⟨h1, h2, _, _⟩ := S'.own p hp
      obtain ⟨l1, l2⟩ := loc p hp
      exact ⟨h1, h2, fun _ => S.fresh l2, fun e => by rw [l1] at e; cases e⟩
    · obtain ⟨h1, h2, h3⟩ := S.own p hp
      obtain ⟨o, ho⟩ := h2.some
      refine ⟨?_, h2.mono eF (fun o e => keep _ o e), h3⟩
      rw [S'.fz p.a (by show H p.a ≠ none; rw [ho]; intro z; cases z)]
      exact h1
  · rw [List.map_append]
    refine List.nodup_append.mpr ⟨S'.nd, S.nd, fun x hx y hy e => ?_⟩
    subst e
    obtain ⟨p, hp, rfl⟩ := List.mem_map.mp hx
    obtain ⟨r, hr, e⟩ := List.mem_map.mp hy
    obtain ⟨o, ho⟩ := (S.own r hr).2.1.some
    rw [e, (loc p hp).2] at ho
    cases ho
theorem wpE_call0 {sp : DSp} {dvs : List V} {dds : List D} (hd : ∀ F, Rps K F dds dvs) (h : wpA K W ex aa G O fun ds O1 => sp (ds ++ dds) [] (fun d N => P d (N ++ O1)) (fun x N => ex x G (N ++ O1))) :
    wpE K W ex (tCallSD (toSp K sp) dvs (WE W) aa) G O P := fun Z F H σ X S s Q q =>
  h Z F H σ X S s _ fun ds vs F1 H1 O1 S1 e1 r1 p1 => by
    refine ⟨ds ++ dds, F1, [], _, _, S1.call0, fun _ h => (by cases h), r1.app (hd F1), p1, fun d N v F' H' S' r' k => ?_, fun x N dd F' H' S' r' k => ?_⟩
    · obtain ⟨S2, e2⟩ := S1.back0 S'
      exact q d v F' H' _ S2 (e1.trans e2) r' k
    · obtain ⟨S2, e2⟩ := S1.back0 S'
      exact X x dd F' H' σ G _ (e1.trans e2) S2 (s.mono (e1.trans e2)) r' k
/-- the heap, handed to a callee that is handed one owned object -/
theorem S0.call1 {Z : En0} {F H : Hp} (S : S0 K Z F H O) {j : Nat} {a : Addr} {b : Bool} {d : D} (hj : O[j]? = some ⟨a, b, d⟩) : S0 K (entry F H [⟨a, false, d⟩]) F H [⟨a, false, d⟩] := by
  obtain ⟨h1, h2, h3⟩ := S.own _ (List.mem_of_getElem? hj)
  refine ⟨S.ex, fun _ _ _ e => e, fun _ _ => rfl, fun x hx => ?_, fun p hp => ?_, by simp⟩
  · have e : x = a := by simpa [entry] using hx
    subst e
    obtain ⟨o, ho⟩ := h2.some
    show H x ≠ none
    rw [ho]
    intro z
    cases z
  · have e : p = ⟨a, false, d⟩ := by simpa using hp
    subst e
    exact ⟨h1, h2, fun e => (by cases e), fun _ => (by simp [entry])⟩
theorem S0.back1 {Z : En0} {F H F' H' : Hp} {N : Ow} (S : S0 K Z F H O) {j : Nat} {a : Addr} {b : Bool} {d d' : D} (hj : O[j]? = some ⟨a, b, d⟩) (S' : S0 K (entry F H [⟨a, false, d⟩]) F' H' (N ++ [⟨a, false, d'⟩])) : S0 K Z F' H' (N ++ O.set j ⟨a, b, d'⟩) ∧ Ex F F' := by
  have own1 := S.own _ (List.mem_of_getElem? hj)
  have keep : ∀ x o, x ≠ a → H x = some o → H' x = some o := fun x o hx e => S'.frame x o (by simpa [entry] using hx) e
  have eF : Ex F F' := fun x o e => by
    have h1 := S.ex x o e
    rw [S'.fz x (by show H x ≠ none; rw [h1]; intro z; cases z)]
    exact e
  have nda : ∀ p ∈ N, p.a ≠ a := fun p hp e => by
    have nd := S'.nd
    rw [List.map_append] at nd
    exact (List.nodup_append.mp nd).2.2 p.a (List.mem_map_of_mem hp) a (by simp) e
  have loc : ∀ p ∈ N, p.loc = true ∧ H p.a = none := fun p hp => by
    obtain ⟨_, _, h3, h4⟩ := S'.own p (List.mem_append_left _ hp)
    cases hb : p.loc with
    | true => exact ⟨rfl, h3 hb⟩
    | false =>
      have h5 := h4 hb
      have h6 : p.a = a := by simpa [entry] using h5
      exact absurd h6 (nda p hp)
  obtain ⟨_, hma, _⟩ := S'.own ⟨a, false, d'⟩ (List.mem_append_right _ (by simp))
  have na : ∀ o, Z.H a = some o → a ∈ Z.M := fun o e => by
    cases b with
    | true =>
      have := own1.2.2.1 rfl
      have h2 : Z.H a = none := this
      rw [h2] at e
      cases e
    | false => exact own1.2.2.2 rfl
  refine ⟨⟨S'.ex, fun x o hm e => ?_, fun x e => ?_, fun x hm e => ?_, fun p hp => ?_, ?_⟩, eF⟩
  · have hx : x ≠ a := fun z => hm (by rw [z]; exact na o (by rw [← z]; exact e))
    exact keep x o hx (S.frame x o hm e)
  · have h1 : H x ≠ none := fun z => e (S.fresh z)
    rw [S'.fz x h1]
    exact S.fz x e
  · by_cases hx : x = a
    · rw [hx] at e
      obtain ⟨o, ho⟩ := hma.some
      rw [ho] at e
      cases e
    · cases e2 : H x with
      | none => exact S.alive x hm e2
      | some o =>
        rw [keep x o hx e2] at e
        cases e
  · rcases List.mem_append.mp hp with hp | hp
    · obtain ⟨h1, h2, _, _⟩ := S'.own p (List.mem_append_left _ hp)
      obtain ⟨l1, l2⟩ := loc p hp
      exact ⟨h1, h2, fun _ => S.fresh l2, fun e => by rw [l1] at e; cases e⟩
    · by_cases hx : p.a = a
      · have hi : (O.set j ⟨a, b, d'⟩)[j]? = some ⟨a, b, d'⟩ := List.getElem?_set_self (List.getElem?_eq_some_iff.mp hj).1
        have nd2 : ((O.set j ⟨a, b, d'⟩).map Ob.a).Nodup := by rw [map_a_set hj]; exact S.nd
        have e := nd_idx nd2 hi hp hx
        subst e
        refine ⟨?_, hma, own1.2.2⟩
        rw [S'.fz a (by obtain ⟨o, ho⟩ := own1.2.1.some; show H a ≠ none; have h9 : H a = some o := ho; rw [h9]; intro z; cases z)]
        exact own1.1
      · rcases List.mem_or_eq_of_mem_set hp with hp | rfl
        · obtain ⟨h1, h2, h3⟩ := S.own p hp
          obtain ⟨o, ho⟩ := h2.some
          refine ⟨?_, h2.mono eF (fun o e => keep _ o hx e), h3⟩
          rw [S'.fz p.a (by show H p.a ≠ none; rw [ho]; intro z; cases z)]
          exact h1
        · exact absurd rfl hx
  · rw [List.map_append, map_a_set hj]
    have ndN : (N.map Ob.a).Nodup := by
      have nd := S'.nd
      rw [List.map_append] at nd
      exact (List.nodup_append.mp nd).1
    refine List.nodup_append.mpr ⟨ndN, S.nd, fun x hx y hy e => ?_⟩
    subst e
    obtain ⟨p, hp, rfl⟩ := List.mem_map.mp hx
    obtain ⟨r, hr, e⟩ := List.mem_map.mp hy
    obtain ⟨o, ho⟩ := (S.own r hr).2.1.some
    rw [e, (loc p hp).2] at ho
    cases ho
/-- a call that is handed the owned object at j -/
theorem wpE_call1 {sp : DSp} {dvs : List V} {dds : List D} (hd : ∀ F, Rps K F dds dvs) (h : wpA K W ex aa G O fun ds O1 => ∃ (j : Nat) (a : Addr) (b : Bool) (d : D), O1[j]? = some ⟨a, b, d⟩ ∧
      sp (ds ++ dds) [⟨a, false, d⟩] (fun r N => ∃ M d', N = M ++ [⟨a, false, d'⟩] ∧ P r (M ++ O1.set j ⟨a, b, d'⟩)) (fun x N => ∃ M d', N = M ++ [⟨a, false, d'⟩] ∧ ex x G (M ++ O1.set j ⟨a, b, d'⟩))) :
    wpE K W ex (tCallSD (toSp K sp) dvs (WE W) aa) G O P := fun Z F H σ X S s Q q =>
  h Z F H σ X S s _ fun ds vs F1 H1 O1 S1 e1 r1 ⟨j, a, b, d, hj, p1⟩ => by
    refine ⟨ds ++ dds, F1, _, _, _, S1.call1 hj, fun p h => (by have e : p = ⟨a, false, d⟩ := (by simpa using h); rw [e]), r1.app (hd F1), p1, fun r N v F' H' S' r' k => ?_, fun x N dd F' H' S' r' k => ?_⟩
    · obtain ⟨M, d', rfl, k⟩ := k
      obtain ⟨S2, e2⟩ := S1.back1 hj S'
      exact q r v F' H' _ S2 (e1.trans e2) r' k
    · obtain ⟨M, d', rfl, k⟩ := k
      obtain ⟨S2, e2⟩ := S1.back1 hj S'
      exact X x dd F' H' σ G _ (e1.trans e2) S2 (s.mono (e1.trans e2)) r' k
end
end PyD
/-! PyX: own exceptions whose __init__(self, f) says super().__init__(a text of f), self.f = f. -/
namespace PySem
namespace OwnX
open PySem.W PySem.Calls PyProof.Rows PySem.HandSPX
/-! ### the text of __init__ -/
def iA (at_ : Str) (p1 p2 : Pos) : Arguments := { posonlyargs := [], args := [{ arg := "self", annotation := none, pos := p1 }, { arg := at_, annotation := none, pos := p2 }], vararg := none, kwonlyargs := [], kw_defaults := [], kwarg := none, defaults := [] }
def sup (q0 q1 q2 q3 q4 : Pos) (msg : Expr) : Stmt := .Expr (.Call (.Attribute (.Call (.Name "super" q0) [] [] q1) "__init__" q2) [msg] [] q3) q4
def iB (at_ : Str) (msg : Expr) (q0 q1 q2 q3 q4 r1 r2 r3 r4 : Pos) : List Stmt := [sup q0 q1 q2 q3 q4 msg, .Assign [.Attribute (.Name "self" r1) at_ r2] (.Name at_ r3) r4]
def iS (at_ : Str) : Scope := { kind := .function, names := [(PySem.Str.ofString "self", .local), (at_, .local), (PySem.Str.ofString "__class__", .free), (PySem.Str.ofString "super", .globalImplicit)], isGenerator := false, isCoroutine := false, more := [] }
/-- super().__init__(..) is a method's call -/
def SupOk (msg : Expr) (q0 q1 q2 q3 : Pos) : Prop := ∀ env : Env, starEach [msg] env = [(false, eval msg env)] ∧ ∃ pl : Sem Bool, eval (.Call (.Attribute (.Call (.Name "super" q0) [] [] q1) "__init__" q2) [msg] [] q3) env = (do
  let ov ← attributeBase (.Call (.Name "super" q0) [] [] q1) "__init__" env (eval (.Call (.Name "super" q0) [] [] q1) env)
  standAt q2.atName
  let (f, first) ← holding [ov] (getMethod ov "__init__" pl)
  callWith q3 f first (backTo q3 (starEach [msg] env)) [])
/-- what the written part says of the class at C and of its __init__, at fI -/
structure Txt (prog : Program) (K : Frag) (at_ : Str) (msg : Expr) (C fI : Addr) : Prop where
  cls : ∃ nm q N bs bm sn sub ab col dd k0 k1 k2 k3 k5, K.lookup C = some (excClassObj nm q C N bs bm true sn sub ab col dd k0 k1 k2 k3 k5 "ValueError.__new__") ∧ refsVE bm = true
  sa : findIn K (.ref C) "__setattr__" = some (some (.builtin "object.__setattr__"))
  noN : findIn K (.ref C) at_ = some none
  iC : findIn K (.ref C) "__init__" = some (some (.ref fI))
  tC : typeIn K (.ref fI) = some (.type "function")
  opq : nsIn K cStatics "thirdparty.any" = some none
  along : ks_superIn K C C "__init__" = some (some (.builtin "ValueError.__init__"))
  subB : subIn K (.ref C) (.type "ValueError") = some true
  subC : mroIn K C (.ref C) = some true
  ok : (at_ == ("self" : Str)) = false ∧ (at_ == ("super" : Str)) = false ∧ (at_ == ("__class__" : Str)) = false ∧ (at_ == ("__debug__" : Str)) = false
  bnd : ∀ (qual : Str) (p1 p2 : Pos) (body : List Stmt) (doc pm : Value) (an : Option Addr) (cdv ct : Value) (cc : Addr) (a v : Value), bindArgs (fnX "__init__" qual (iA at_ p1 p2) body (iS at_) [("__class__", cc)] .none .none doc pm an cdv ct) ⟨[a, v], []⟩ = pure ([(("self" : Str), a), (at_, v)] : List (Str × Value))
  top : (prog.main.scope.names.lookup ("super" : Str)).isSome = false
  fn : ∃ (oc : Value) (od : Option Addr) (doc pm : Value) (an : Option Addr) (cda cc : Addr) (ct : Value) (osl : Array (Option Value)) (qual : Str) (p1 p2 q0 q1 q2 q3 q4 r1 r2 r3 r4 : Pos) (ccl cl : Value) (cdd cld : Option Addr) (vs : Array Value) (ccs csl : Array (Option Value)) (file : Str) (tf : Tok),
    K.lookup fI = some ⟨oc, od, .func (fnX "__init__" qual (iA at_ p1 p2) (iB at_ msg q0 q1 q2 q3 q4 r1 r2 r3 r4) (iS at_) [("__class__", cc)] .none .none doc pm an (.ref cda) ct), osl⟩ ∧ codeIn K (.ref cda) qual = true ∧
    K.lookup cda = some ⟨ccl, cdd, .fields vs, ccs⟩ ∧ vs[2]? = some (.str file tf) ∧ ((prog.main.file : Str) == file) = true ∧ K.lookup cc = some ⟨cl, cld, .cell (some (.ref C)), csl⟩ ∧ SupOk msg q0 q1 q2 q3
section
variable {prog : Program} {w : World} {A : Around} {E : Value → Shared → Prop} {h : Heap} {g : Array GenState} {d : Drawn} {t : Nat} {os : OsState}
theorem bw_call {nm q : Str} {C N u e t0 : Addr} {bs bm : List Value} {hdct : Bool} {sn : List Str} {sub : List Value} {ab : Bool} {col : Option Bool} {dd : Option Addr} {k0 k1 k2 k3 k5 : Option Value} {rest : List Value} {Q : Value → Shared → Prop}
    (hC : h.get? C = some (excClassObj nm q C N bs bm hdct sn sub ab col dd k0 k1 k2 k3 k5 "ValueError.__new__")) (he : h.get? e = some (excO C t0)) (hu : h.get? u = some (kxs_mw "ValueError.__init__" e)) (hrest : rest.length ≤ sizeLine)
    (hq : ∀ h' t1, (∀ b o, b ≠ e → h.get? b = some o → h'.get? b = some o) → h'.get? e = some (excO C t1) → Q .none ⟨h', g, d, t, os⟩) :
    wpAny (model prog w) A (call (.ref u) rest) Q E ⟨h, g, d, t, os⟩ := by
  refine wpAny_call (codeAny_of_tree ?_)
  show wpAny _ A.in1 (callAny (.ref u) ⟨rest, []⟩) _ _ _
  simp only [callAny]
  refine wpAny_bind (wpAny_load hu ?_)
  simp only [kxs_mw, show (Value.type "method-wrapper" == Value.type "method" || Value.type "method-wrapper" == Value.type "builtin_function_or_method" || Value.type "method-wrapper" == Value.type "method-wrapper") = true by decide, if_true]
  refine KFB.if_so (by decide) ?_
  refine wpAny_bind (check_bound_init F.excBase_ValueError.toExcCallFacts hC he rfl ?_)
  refine wpAny_bind (wpAny_pure (wpAny_pure ?_))
  refine ⟨plainId_quiet F.excBase_ValueError.init.plain _, codeAny_builtin F.excBase_ValueError.initEntry ?_⟩
  exact exc_init_tree (cls := .ref C) (t0 := t0) (dv := none) (c2 := .none) (c3 := .none) (b4 := .bool false) he hrest fun h' k e' _ => hq h' h.objs.size k e'
end
/-- what __init__ leaves of a fresh exception at x -/
structure InitEnd (at_ : Str) (h h' : Heap) (x C dx t1 : Addr) (v : Value) : Prop where
  keep : ∀ b o, b ≠ x → h.get? b = some o → h'.get? b = some o
  obj : h'.get? x = some { cls := .ref C, dict := some dx, data := .fields #[.ref t1, .none, .none, .none, .bool false, .none] }
  dbig : h.objs.size ≤ dx
  dne : dx ≠ x
  ns : h'.Ns1 dx (fun y => if y = at_ then some v else none)
/-- the message's evaluation, the attribute's name bound to v -/
def MsgOk (prog : Program) (w : World) (at_ : Str) (msg : Expr) (v : Value) : Prop :=
  ∀ (A : Around) (env : Env) (s : Shared) (m : Str → Option Value) (Q : Value → Shared → Prop) (E : Value → Shared → Prop), env.scope.kind = .function → env.kindOf at_ = some .local → s.heap.Ns env.locals m → m at_ = some v →
    (∀ v' h' tk, (∀ b o, s.heap.get? b = some o → h'.get? b = some o) → Q v' { s with heap := h', toks := tk }) → wpAny (model prog w) A (eval msg env) Q E s
theorem lk_self {at_ : Str} : (iS at_).names.lookup ("self" : Str) = some .local := rfl
section
variable {prog : Program} {w : World} {A : Around} {R : Result → Shared → Prop} {s : Shared} {K : Frag} {mg mb : Str → Option Value} {at_ : Str} {msg : Expr} {C fI : Addr}
theorem own_init (T : Txt prog K at_ msg C fI) {x t0 : Addr} {v : Value} (X : K.In s.heap) (hlim : s.heap.NoLimit) (hG : s.heap.Ns mainGlobals mg) (hsup : mg "super" = none) (hB : s.heap.Ns builtinsNs mb) (hblt : ∀ x : Str, x ≠ "__name__" → mb x = bootBuiltins x)
    (hx : s.heap.get? x = some (excO C t0)) (hnx : K.lookup x = none) (hroom : A.depth < recursionLimit) (hmsg : MsgOk prog w at_ msg v)
    (hq : ∀ h' tk dx t1, InitEnd at_ s.heap h' x C dx t1 v → R (.ok (.ret .none)) { s with heap := h', toks := tk }) :
    codeAny (model prog w) A (.call (.ref fI) ⟨[.ref x, v], []⟩) R s := by
  obtain ⟨oc, od, doc, pm, an, cda, cc, ct, osl, qual, p1, p2, q0, q1, q2, q3, q4, r1, r2, r3, r4, ccl, cl, cdd, cld, vs, ccs, csl, file, tf, ho, hcd, hcode, hvs, hfile, hcell, hmc⟩ := T.fn
  obtain ⟨nm, q, N, bs, bm, sn, sub, ab, col, dd, k0, k1, k2, k3, k5, hC, hbm⟩ := T.cls
  obtain ⟨n1, n2, n3, n4⟩ := T.ok
  have hne : at_ ≠ ("self" : Str) := fun e => by rw [e] at n1; exact absurd n1 (by decide)
  have hcl : clsIn K C = some { name := nm, bases := bs, mro := .ref C :: bm, ns := N, qualname := q, hasDict := true, slotNames := sn, subclasses := sub, abstract := ab, collection := col, hasDel := false } := by unfold clsIn; rw [hC] <;> rfl
  have la : (iS at_).names.lookup at_ = some .local := by
    show List.lookup at_ (_ :: _) = _
    rw [List.lookup_cons]
    rw [show (at_ == PySem.Str.ofString "self") = false from n1]
    show List.lookup at_ (_ :: _) = _
    rw [List.lookup_cons, show (at_ == at_) = true from by simp]
  have lsup : (iS at_).names.lookup ("super" : Str) = some .globalImplicit := by
    show List.lookup _ (_ :: _) = _
    rw [List.lookup_cons, show (("super" : Str) == PySem.Str.ofString "self") = false from by decide]
    show List.lookup _ (_ :: _) = _
    rw [List.lookup_cons, show (("super" : Str) == at_) = false from by
      have e : at_ ≠ ("super" : Str) := fun e => by rw [e] at n2; exact absurd n2 (by decide)
      exact beq_eq_false_iff_ne.mpr (Ne.symm e)]
    rfl
  have lcls : (iS at_).names.lookup ("__class__" : Str) = some .free := by
    show List.lookup _ (_ :: _) = _
    rw [List.lookup_cons, show (("__class__" : Str) == PySem.Str.ofString "self") = false from by decide]
    show List.lookup _ (_ :: _) = _
    rw [List.lookup_cons, show (("__class__" : Str) == at_) = false from by
      have e : at_ ≠ ("__class__" : Str) := fun e => by rw [e] at n3; exact absurd n3 (by decide)
      exact beq_eq_false_iff_ne.mpr (Ne.symm e)]
    rfl
  obtain ⟨hp, g, dr, tk, os⟩ := s
  refine ks_codeAny_call_defAt (fd := fnX "__init__" qual (iA at_ p1 p2) (iB at_ msg q0 q1 q2 q3 q4 r1 r2 r3 r4) (iS at_) [("__class__", cc)] .none .none doc pm an (.ref cda) ct) (body := iB at_ msg q0 q1 q2 q3 q4 r1 r2 r3 r4) (binds := [(("self" : Str), .ref x), (at_, v)])
    hroom (X _ _ ho) rfl hlim (codeRec_of X hcd) rfl (BindsTo.of_eq ?_) ?_ ?_ (fun h1 hn k => ?_) rfl rfl rfl
  · exact T.bnd _ _ _ _ _ _ _ _ _ _ _ _
  · intro y hy
    simp only [fnX, iS, List.mem_cons, List.not_mem_nil, or_false] at hy
    rcases hy with rfl | rfl | rfl | rfl <;> (intro z; cases z)
  · intro y hy
    simp only [List.mem_cons, List.not_mem_nil, or_false] at hy
    rcases hy with rfl | rfl
    · exact lk_self
    · exact la
  · have hx1 := k _ _ hx
    have X1 : K.In h1 := X.keeps k
    have xL : hp.objs.size ≠ x := Nat.ne_of_gt (Heap.lt_size hx)
    have mself : (([(("self" : Str), Value.ref x), (at_, v)] : List (Str × Value)).reverse.lookup ("self" : Str)) = some (.ref x) := by
      show List.lookup _ [_, _] = _
      rw [List.lookup_cons, show (("self" : Str) == at_) = false from beq_eq_false_iff_ne.mpr (Ne.symm hne)]
      rfl
    have mat : (([(("self" : Str), Value.ref x), (at_, v)] : List (Str × Value)).reverse.lookup at_) = some v := by
      show List.lookup _ [_, _] = _
      rw [List.lookup_cons, show (at_ == at_) = true from by simp]
    refine ks_wpAt_execs_cons (ks_wpAt_Expr_any ?_ rfl ?_)
    · obtain ⟨hstar, pl, hpl⟩ := hmc (callEnv (fnX "__init__" qual (iA at_ p1 p2) (iB at_ msg q0 q1 q2 q3 q4 r1 r2 r3 r4) (iS at_) [("__class__", cc)] .none .none doc pm an (.ref cda) ct) hp.objs.size fI)
      refine ks_wpAt_MethodCall ?hh hpl
      · -- super()
        refine ks_wpAt_super_base (env := callEnv (fnX "__init__" qual (iA at_ p1 p2) (iB at_ msg q0 q1 q2 q3 q4 r1 r2 r3 r4) (iS at_) [("__class__", cc)] .none .none doc pm an (.ref cda) ct) hp.objs.size fI)
          lsup lcls (by decide) rfl (X1 _ _ ho) rfl (ar := { arg := "self", annotation := none, pos := p1 }) rfl rfl (X1 _ _ hcode) rfl hvs hfile T.top ?_
        have G1 : h1.Ns mainGlobals mg := hG.keeps k
        have B1 : h1.Ns builtinsNs mb := hB.keeps k
        have I1 : InstAt h1 x (excO C t0) C none := ⟨hx1, rfl, rfl, trivial⟩
        refine ks_loadName_global rfl lsup (loadGlobal_builtin (env := callEnv _ hp.objs.size fI) G1 hsup B1 ((hblt _ (by decide +kernel)).trans (by first | boot_by_name | rfl | kernel_rfl)) ⟨rfl, ?_⟩)
        refine wpAny_loadName_free rfl lcls rfl ⟨_, X1 _ _ hcell, rfl⟩ ?_
        refine wpAny_loadName_local rfl lk_self hn mself ?_
        refine ks_wpAny_isType_cls (X1 _ _ hC) rfl ⟨rfl, ?_⟩
        refine ks_wpAny_call_super (X1 _ _ hC) rfl hx1 rfl (fun c e => by cases e) (looks_mroIn X1 T.subC) (fun h2 e2 k2 => ?_)
        -- its __init__
        have X2 : K.In h2 := X1.keeps k2
        have hx2 := k2 _ _ hx1
        have I2 : InstAt h2 x (excO C t0) C none := ⟨hx2, rfl, rfl, trivial⟩
        have hal := T.along
        unfold ks_superIn at hal
        rw [hcl] at hal
        refine kxs_getMethod kxs_ValueError e2 (looks_opaque X2 T.opq) (l₀ := .ref C :: bm) (fun A Q E s k q => wpAny_bind ((looks_clsIn X2 hcl) A _ E s k (wpAny_pure q))) rfl X2 hal (I2.type.andThen (looks_subIn X2 T.subB)) (ks_ne X2 I2 hcl) (by decide) ?_
        have k3 : ∀ b o, h2.get? b = some o → (h2.push (kxs_mw "ValueError.__init__" x)).get? b = some o := fun b o e => Heap.get?_push_of_some _ e
        have hu3 : (h2.push (kxs_mw "ValueError.__init__" x)).get? h2.objs.size = some (kxs_mw "ValueError.__init__" x) := Heap.get?_push_at rfl rfl
        show wpAny _ _ (callWith q3 (.ref h2.objs.size) [] (backTo q3 (starEach [msg] _)) []) _ _ _
        rw [hstar]
        refine kxs_callWith (i := "ValueError.__init__") (x := x) ?_ ?_
        · rfl
        · have hn2 : (h2.push (kxs_mw "ValueError.__init__" x)).Ns hp.objs.size (fun y => ([((("self" : Str)), Value.ref x), (at_, v)] : List (Str × Value)).reverse.lookup y) := hn.keeps fun b o e => k3 b o (k2 b o e)
          refine evalArgs_plain ?_
          refine Calls.spliced_cons ?_
          refine hmsg _ _ _ _ _ _ rfl la hn2 mat fun v' h4 tk4 k4 => ?_
          refine Calls.spliced_nil ?_
          have k24 : ∀ b o, h2.get? b = some o → h4.get? b = some o := fun b o e => k4 b o (k3 b o e)
          refine ⟨k4 _ _ hu3, ?_⟩
          refine bw_call (e := x) ((X2.keeps k24) _ _ hC) (k24 _ _ hx2) (k4 _ _ hu3) (by show 1 ≤ sizeLine; decide) fun h5 t1 k5 hx5 => ?_
          -- self.f = f
          have k15 : ∀ b o, b ≠ x → h1.get? b = some o → h5.get? b = some o := fun b o hb e => k5 b o hb (k24 b o (k2 b o e))
          have X5 : K.In h5 := fun a o e => k15 a o (fun z => by rw [z, hnx] at e; cases e) (X1 a o e)
          obtain ⟨oL, es, ep, hL, rL⟩ := hn
          have hn5 : h5.Ns hp.objs.size (fun y => ([((("self" : Str)), Value.ref x), (at_, v)] : List (Str × Value)).reverse.lookup y) := ⟨oL, es, ep, k15 _ _ xL hL, rL⟩
          show wpAt _ _ _ (execs _ _) _ _ _
          refine ks_wpAt_execs_cons (wpAt_of_wpAny (plainObj_wpAny_Assign_Attribute ?_))
          refine ESX.ldL (v := v) hn5 mat (ESX.ldL (v := .ref x) hn5 mself ?_ rfl lk_self (by decide)) rfl la n4
          refine set_plain X5 (ox := excO C t1) (od := none) ⟨hx5, rfl, rfl, trivial⟩ T.sa ?_
          refine exc_osa X5 hx5 hcl (show refsVE (.ref C :: bm) = true from hbm) rfl T.noN (fun h6 tk6 dx k6 dn dne hx6 hn6 => ?_)
          show wpAt _ _ _ (execs _ _) _ _ _
          refine wpAt_of_wpAny (wpAny_execs_nil (hq h6 tk6 dx t1 ⟨fun b o hb e => k6 b o hb (k15 b o hb (k b o e)), hx6, ?_, dne, hn6⟩))
          have z1 : hp.objs.size < h5.objs.size := Heap.lt_size (show h5.get? hp.objs.size = some oL from k15 _ _ xL hL)
          exact Nat.le_of_lt (Nat.lt_of_lt_of_le z1 dn)
    · rfl
/-- a made exception -/
structure OwnMade (at_ : Str) (h h' : Heap) (e C d : Addr) (v : Value) : Prop where
  keep : ∀ b o, h.get? b = some o → h'.get? b = some o
  new : h.objs.size ≤ e
  obj : ∃ oe vs, h'.get? e = some oe ∧ oe.cls = .ref C ∧ oe.dict = some d ∧ oe.data = .fields vs ∧ vs[1]? = some .none
  dbig : h.objs.size ≤ d
  dne : d ≠ e
  ns : h'.Ns1 d (fun y => if y = at_ then some v else none)
theorem one_size (v : Value) : [v].length ≤ sizeLine := by
  rw [sizeLine_eq]
  exact (by decide : 1 ≤ 16777216)
theorem own_made (T : Txt prog K at_ msg C fI) {v : Value} (X : K.In s.heap) (hlim : s.heap.NoLimit) (hG : s.heap.Ns mainGlobals mg) (hsup : mg "super" = none) (hB : s.heap.Ns builtinsNs mb) (hblt : ∀ x : Str, x ≠ "__name__" → mb x = bootBuiltins x)
    (hroom : A.depth + 1 < recursionLimit) (hmsg : MsgOk prog w at_ msg v)
    (hq : ∀ h' tk e d, OwnMade at_ s.heap h' e C d v → R (.ok (.ret (.ref e))) { s with heap := h', toks := tk }) :
    codeAny (model prog w) A (.call (.ref C) ⟨[v], []⟩) R s := by
  obtain ⟨nm, q, N, bs, bm, sn, sub, ab, col, dd, k0, k1, k2, k3, k5, hC, hbm⟩ := T.cls
  obtain ⟨hp, g, dr, tk, os⟩ := s
  have k : ∀ b o, hp.get? b = some o → ((hp.push (kdv_tup [v])).push (excO C hp.objs.size)).get? b = some o := fun b o e => Heap.get?_push_of_some _ (Heap.get?_push_of_some _ e)
  have hget : ((hp.push (kdv_tup [v])).push (excO C hp.objs.size)).get? (hp.objs.size + 1) = some (excO C hp.objs.size) := by heap_get
  have hnx : K.lookup (hp.objs.size + 1) = none := by
    cases e : K.lookup (hp.objs.size + 1) with
    | none => rfl
    | some o =>
      have z : hp.get? (hp.objs.size + 1) = some o := X _ _ e
      exact absurd (Nat.lt_of_succ_lt (Heap.lt_size z)) (Nat.lt_irrefl _)
  refine call_own F.excBase_ValueError (fun X => refsVE_contains X bm hbm) (X _ _ hC) (looks_findIn X T.iC) (fun self => bind_fn X self T.tC) (one_size v) ?_
  refine own_init (s := ⟨(hp.push (kdv_tup [v])).push (excO C hp.objs.size), g, dr, tk, os⟩) T (X.keeps k) (hlim.keeps k) (hG.keeps k) hsup (hB.keeps k) hblt hget hnx ?_ hmsg fun h' tk' dx t1 ⟨k', hx, dn, dne, hns⟩ => ?_
  · show A.depth + 1 < recursionLimit
    exact hroom
  · have old : ∀ b o, hp.get? b = some o → h'.get? b = some o := fun b o e => k' b o (Nat.ne_of_lt (Nat.lt_succ_of_lt (Heap.lt_size e))) (k b o e)
    have z : hp.objs.size + 1 + 1 ≤ dx := by
      first
        | (simpa only [Heap.size_push] using dn)
        | exact dn
        | (have q := dn; rw [Heap.size_push, Heap.size_push] at q; exact q)
    exact ⟨rfl, hq h' tk' (hp.objs.size + 1) dx ⟨old, Nat.le_succ _, ⟨_, _, hx, rfl, rfl, rfl, rfl⟩, Nat.le_trans (Nat.le_trans (Nat.le_succ _) (Nat.le_succ _)) z, dne, hns⟩⟩
end
end OwnX
end PySem
namespace L2
open PySem PySem.Spec PyProof.Rows
theorem relO_at {at_ : Str} {v : V} {v' : Value} (r : RelV v v') (f : Str) : RelO (List.lookup f [(at_, v)]) (if f = at_ then some v' else none) := by
  by_cases hw : f = at_
  · subst hw
    rw [if_pos rfl]
    have q : List.lookup f [(f, v)] = some v := by simp [List.lookup]
    rw [q]
    exact r
  · rw [if_neg hw]
    have qw : (f == at_) = false := by simpa using hw
    have q2 : List.lookup f [(at_, v)] = none := by simp [List.lookup, qw]
    rw [q2]
    trivial
/-- X(e), X an own exception class with one attribute: okV says which values its text takes -/
def tMkX (C : Addr) (at_ : Str) (okV : V → Prop) (ta : TA) : St → Hp → XK → Prop := fun σ H Q => ta σ H fun vs H1 => ∃ v, vs = [v] ∧ okV v ∧ ∀ d, H1 d = none → Q (.ref C) (some d) (upd H1 d (.xd [(at_, v)]))
section
variable {X : Cx} {C fI : Addr}
theorem pmk_x {x at_ : Str} {msg : Expr} {okV : V → Prop} {a : Expr} {ta : TA} {p pos : Pos} {k : Nat} (T : PySem.OwnX.Txt X.prog X.K at_ msg C fI) (gC : X.mg x = some (.ref C)) (kC : PySem.W.keepIn X.K (.ref C) = true) (exC : PySem.W.subIn X.K (.ref C) (.type "BaseException") = some true)
    (tyC : PySem.W.typeIn X.K (.ref C) = some (.type "type")) (gs : X.mg "super" = none) (hmsg : ∀ v u, okV v → RelV v u → PySem.OwnX.MsgOk X.prog X.w at_ msg u) (hr : Room k X.A) (ha : PA X [a] ta) (hg : Gl X x) (hdb : (x == ("__debug__" : Str)) = false := by decide)
    (he : starEach (a :: []) X.env = (false, eval a X.env) :: starEach [] X.env := by rfl) (hpl : (backTo pos (starEach [] X.env)).any (·.1) = false := by rfl) :
    PMk X (.Call (.Name x p) [a] [] pos) (tMkX C at_ okV ta) := by
  intro pins s σ H Q I h
  refine wpAny_Call_Name_kw (ld_glob I hg gC ?_ hdb)
  refine PySem.W.callWith_K (h₀ := X.base) I.ok.mod.kin kC (thn (ha.run pos pins s σ H _ I h) fun us s1 hh => ?_) he hpl
  obtain ⟨vs, H1, I1, r1, v, ev, hok, q1⟩ := hh
  subst ev
  refine ⟨I1.kIn, ?_⟩
  cases r1 with
  | cons rv rn =>
    rename_i v' us'
    cases rn
    show wpAny _ _ (call (.ref C) [v']) _ _ _
    have hlim := I1.nolimit
    have hG := I1.ok.mod.glob.keeps I1.bk
    obtain ⟨mb, hB0, hblt⟩ := I1.ok.mod.blt
    have hB := hB0.keeps I1.bk
    obtain ⟨hp, g, dr, tk, os⟩ := s1
    refine wpAny_call (PySem.OwnX.own_made T I1.kIn hlim hG gs hB hblt (by have := hr.dp; omega) (hmsg v v' hok rv) fun h' tk' e d M => ?_)
    show MkP X pins σ Q (.ref e) ⟨h', g, dr, tk', os⟩
    obtain ⟨oe, fv, hoe, hc, hd, hdat, h1⟩ := M.obj
    have hns := M.ns
    obtain ⟨G', g1, g2⟩ := restrict h' fun b => decide (b ≠ e)
    have gk : ∀ b, b ≠ e → G'.get? b = h'.get? b := fun b hb => g1 b (decide_eq_true hb)
    have ge : G'.get? e = none := g2 e (by simp)
    have old : ∀ b o, hp.get? b = some o → G'.get? b = some o := fun b o q => (gk b (Nat.ne_of_lt (Nat.lt_of_lt_of_le (Heap.lt_size q) M.new))).trans (M.keep b o q)
    have ob : ObjOk X.prog X.w (upd H1 d (.xd [(at_, v)])) G' d (.xd [(at_, v)]) :=
      ⟨_, hns.at (fun o q => (gk d M.dne).trans q), fun f => relO_at rv f⟩
    have J : Inv X pins σ (upd H1 d (.xd [(at_, v)])) ⟨G', g, dr, tk', os⟩ := I1.laid (t' := tk') old M.dbig ob
    refine ⟨e, oe, fv, ⟨G', g, dr, tk', os⟩, _, .ref C, some d, rfl, J, fun b o q => ?_, ge, hoe, ⟨hc, hd⟩, hdat, h1, ?_, rfl, I1.bare, raises_own exC tyC, q1 d (I1.hok.fresh M.dbig)⟩
    · by_cases hb : b = e
      · have q' : G'.get? b = some o := q
        rw [hb, ge] at q'; cases q'
      · exact (gk b hb).symm.trans q
    · rw [upd_ne (Ne.symm M.dne)]
      exact I1.hok.fresh M.new
def tRaiseX (C : Addr) (at_ : Str) (okV : V → Prop) (W : WX) (ta : TA) : TS := fun _ σ H => tMkX C at_ okV ta σ H fun cls d H' => W cls d σ H'
theorem ps_raiseX {x at_ : Str} {msg : Expr} {okV : V → Prop} {a : Expr} {ta : TA} {W : WX} {p pos pos2 : Pos} {k : Nat} (hc : X.calm = true) (tk : Takes X W) (T : PySem.OwnX.Txt X.prog X.K at_ msg C fI) (gC : X.mg x = some (.ref C)) (kC : PySem.W.keepIn X.K (.ref C) = true) (exC : PySem.W.subIn X.K (.ref C) (.type "BaseException") = some true)
    (tyC : PySem.W.typeIn X.K (.ref C) = some (.type "type")) (gs : X.mg "super" = none) (hmsg : ∀ v u, okV v → RelV v u → PySem.OwnX.MsgOk X.prog X.w at_ msg u) (hr : Room k X.A) (ha : PA X [a] ta) (hg : Gl X x) (hdb : (x == ("__debug__" : Str)) = false := by decide)
    (he : starEach (a :: []) X.env = (false, eval a X.env) :: starEach [] X.env := by rfl) (hpl : (backTo pos (starEach [] X.env)).any (·.1) = false := by rfl) :
    PS X (.Raise (some (.Call (.Name x p) [a] [] pos)) none pos2) (tRaiseX C at_ okV W ta) := ps_raise hc tk (pmk_x T gC kC exC tyC gs hmsg hr ha hg hdb he hpl)
end
/-! ### the texts: parts written, {f} of an int -/
def fmtI (v : V) : Prop := ∃ i : Int, v = .int i ∧ i.natAbs.log2 < 1920
section
variable {prog : Program} {w : World} {at_ : Str}
theorem msg_part {A : Around} {env : Env} {s : Shared} {m : Str → Option Value} {Q : Value → Shared → Prop} {E : Value → Shared → Prop} {i : Int} {t : Tok} {p1 p2 : Pos} (hk : env.scope.kind = .function) (hl : env.kindOf at_ = some .local) (hn : s.heap.Ns env.locals m) (hv : m at_ = some (.int i t)) (hd : (at_ == ("__debug__" : Str)) = false)
    (hb : i.natAbs.log2 < 1920) (q : Q (.str (toString i) (s.toks + 1)) { s with toks := s.toks + 1 + 1 }) : wpAny (model prog w) A (eval (.FormattedValue (.Name at_ p1) (-1) none p2) env) Q E s :=
  wpAny_FormattedValue_plain (PySem.ESX.ldL hn hv (wpAny_formatField_int hb q) hk hl hd)
theorem msg_3 {a b : Str} {j1 j2 : Nat} {p0 p1 p2 p3 p4 : Pos} (hd : (at_ == ("__debug__" : Str)) = false) (la : a.length ≤ 1000) (lb : b.length ≤ 1000) (v : V) (u : Value) (hv : fmtI v) (r : RelV v u) :
    PySem.OwnX.MsgOk prog w at_ (.JoinedStr [.Constant (.str a) j1 p1, .FormattedValue (.Name at_ p2) (-1) none p3, .Constant (.str b) j2 p4] p0) u := by
  obtain ⟨i, rfl, hb⟩ := hv
  obtain ⟨t, rfl⟩ := r
  intro A env s m Q E hk hl hn hm q
  have l1 := PyProof.Rows.int_text_len_1921 hb
  refine wpAny_JoinedStr ?_
  refine Calls.Constant_str ⟨a, _, rfl, ?_, ?_⟩
  · rw [PySem.Str.length_append]
    exact Nat.le_trans (show Str.empty.length + a.length ≤ 5000 by show 0 + a.length ≤ 5000; omega) (by decide)
  refine msg_part hk hl hn hm hd hb ⟨_, _, rfl, ?_, ?_⟩
  · rw [PySem.Str.length_append, PySem.Str.length_append]
    exact Nat.le_trans (show Str.empty.length + a.length + _ ≤ 5000 by show 0 + a.length + _ ≤ 5000; omega) (by decide)
  refine Calls.Constant_str ⟨b, _, rfl, ?_, ?_⟩
  · rw [PySem.Str.length_append, PySem.Str.length_append, PySem.Str.length_append]
    exact Nat.le_trans (show Str.empty.length + a.length + _ + b.length ≤ 5000 by show 0 + a.length + _ + _ ≤ 5000; omega) (by decide)
  refine ⟨?_, q _ s.heap _ fun _ _ e => e⟩
  rw [PySem.Str.length_append, PySem.Str.length_append, PySem.Str.length_append]
  exact Nat.le_trans (show Str.empty.length + a.length + _ + b.length ≤ 5000 by show 0 + a.length + _ + _ ≤ 5000; omega) (by decide)
theorem msg_2 {a : Str} {j1 : Nat} {p0 p1 p2 p3 : Pos} (hd : (at_ == ("__debug__" : Str)) = false) (la : a.length ≤ 1000) (v : V) (u : Value) (hv : fmtI v) (r : RelV v u) :
    PySem.OwnX.MsgOk prog w at_ (.JoinedStr [.Constant (.str a) j1 p1, .FormattedValue (.Name at_ p2) (-1) none p3] p0) u := by
  obtain ⟨i, rfl, hb⟩ := hv
  obtain ⟨t, rfl⟩ := r
  intro A env s m Q E hk hl hn hm q
  have l1 := PyProof.Rows.int_text_len_1921 hb
  refine wpAny_JoinedStr ?_
  refine Calls.Constant_str ⟨a, _, rfl, ?_, ?_⟩
  · rw [PySem.Str.length_append]
    exact Nat.le_trans (show Str.empty.length + a.length ≤ 5000 by show 0 + a.length ≤ 5000; omega) (by decide)
  have z : (Str.empty ++ a ++ (toString i : Str)).length ≤ sizeLine := by
    rw [PySem.Str.length_append, PySem.Str.length_append]
    exact Nat.le_trans (show Str.empty.length + a.length + _ ≤ 5000 by show 0 + a.length + _ ≤ 5000; omega) (by decide)
  exact msg_part hk hl hn hm hd hb ⟨_, _, rfl, z, z, q _ s.heap _ fun _ _ e => e⟩
end
end L2
/-! PyT: try with several clauses that name the error; isinstance of a caught error that has a dict of its own. -/
namespace PyT
open PySem PySem.Spec PyProof.Rows L2
abbrev Cl := Value × Nat × (Addr → Value → Option Addr → TS)
/-- behind a clause's suite its name is gone -/
def gone (D : Ends) (i : Nat) : Ends := { nx := fun τ J => D.nx (τ.set i none) J, rt := D.rt, bk := fun τ J => D.bk (τ.set i none) J, ct := fun τ J => D.ct (τ.set i none) J }
def wCls (K : PySem.W.Frag) (Wout : WX) (D : Ends) : List Cl → WX
  | [] => Wout
  | (c, i, ts) :: r => fun cls d τ J => ∃ hit, PySem.W.exmOne K cls c = some hit ∧ (hit = true → ∀ a, J a = none → ts a cls d (gone D i) (τ.set i (some (.ref a))) J) ∧ (hit = false → wCls K Wout D r cls d τ J)
inductive ClsOk (X : Cx) : List ExceptHandler → List Cl → Prop
  | nil : ClsOk X [] []
  | cons {x n : Str} {i : Nat} {c : Value} {ts : Addr → Value → Option Addr → TS} {b0 : Stmt} {suite : List Stmt} {np ph : Pos} {hds : List ExceptHandler} {l : List Cl} (hc : Names X x c) (hi : X.N[i]? = some n) (hln : X.env.kindOf n = some .local)
      (hsu : ∀ (a : Addr) (oe : Obj) (cls : Value) (d : Option Addr) (pn : List (Addr × Obj)), Zc cls d oe → (∃ vs, oe.data = .fields vs) → PSs (X.suite a ((a, oe) :: pn)) (b0 :: suite) (ts a cls d)) (r : ClsOk X hds l) :
      ClsOk X (.ExceptHandler (some (.Name x np)) (some n) (b0 :: suite) ph :: hds) ((c, i, ts) :: l)
section
variable {X : Cx} {pins : List (Addr × Obj)} {D : Ends} {a : Addr} {cls : Value} {d : Option Addr} {τ : L2.St} {J0 : Hp}
/-- a suite's end -/
theorem suite_end {n : Str} {i : Nat} {q : Addr × Obj} {ph : Pos} {f : Flow} {s6 : Shared} {pn : List (Addr × Obj)} (ok : X.Ok) (hN : X.N.Nodup) (hi : X.N[i]? = some n) (hln : X.env.kindOf n = some .local)
    (un : ∀ {τ' : L2.St} {J' : Hp}, Inv (X.suite a pn) [] τ' J' s6 → Inv X pins τ' J' s6) (h : SP (X.suite a pn) [] (gone D i) f s6) :
    wpAny (model X.prog X.w) X.A (do bindName X.env n .none; unbindBehindTheSuite X.env n ph) (fun _ s7 => SP X pins D f s7) X.xe s6 := by
  cases f with
  | ret u =>
    obtain ⟨v6, τ6, J6, S6, r6, q6⟩ := h
    exact gone_ok (un S6) hN hi hln fun s7 I7 => ⟨v6, _, _, I7, r6, q6⟩
  | next =>
    obtain ⟨τ6, J6, S6, q6⟩ := h
    exact gone_ok (un S6) hN hi hln fun s7 I7 => ⟨_, _, I7, q6⟩
  | brk =>
    obtain ⟨τ6, J6, S6, q6⟩ := h
    exact gone_ok (un S6) hN hi hln fun s7 I7 => ⟨_, _, I7, q6⟩
  | cont =>
    obtain ⟨τ6, J6, S6, q6⟩ := h
    exact gone_ok (un S6) hN hi hln fun s7 I7 => ⟨_, _, I7, q6⟩
end
section
variable {X : Cx} {body : List Stmt} {h0 : ExceptHandler} {hds : List ExceptHandler} {l : List Cl} {pos : Pos} {tb : WX → TS} {Wout : WX}
/-- what is known of an error that has landed, the clauses ahead of it -/
structure Land (X : Cx) (Wout : WX) (pins : List (Addr × Obj)) (B hB : Heap) (sI s' : Shared) (a : Addr) (cls : Value) (d : Option Addr) (τ : L2.St) (J : Hp) : Prop where
  inv : Inv X pins τ J sI
  go : ∀ h, HandSPX.FlyingZ B (X.env :: X.outer) a (Zc cls d) h → hB.UpToSlots h → Inv X pins τ J { s' with heap := h }
  na : J a = none
  nL : a ≠ X.env.locals
  nF : a ∉ X.fs
  up : ∀ h, HandSPX.HeldZ B (X.env :: X.outer) a (Zc cls d) X.env.locals h → hB.UpToSlots h → Wout cls d τ J → X.xe (.ref a) { s' with heap := h }
theorem run_clauses {D : Ends} {pins : List (Addr × Obj)} {B hB : Heap} {sI s' : Shared} {a : Addr} {cls : Value} {d : Option Addr} {τ : L2.St} {J : Hp} (hN : X.N.Nodup) (hf : X.env.frame = some X.env.locals) (ok : X.Ok) : ∀ {hs : List ExceptHandler} {l : List Cl}, ClsOk X hs l →
    ∀ {h : Heap}, Land X Wout pins B hB sI s' a cls d τ J → hB.UpToSlots h → HandSPX.FlyingZ B (X.env :: X.outer) a (Zc cls d) h → wCls X.K Wout D l cls d τ J →
      wpAny (model X.prog X.w) X.A (handleBy (.ref a) X.env hs) (SP X pins D) X.xe { s' with heap := h } := by
  intro hs l hk
  induction hk with
  | nil =>
    intro h Ld uh fl w
    refine wpAny_handleBy_nil ?_
    obtain ⟨_, _, _, ox, vx, T, oT, tx, ex, zx, dx, e1, er⟩ := id fl
    unfold PySem.passOn
    refine wpAny_bind (wpAny_field ex dx e1 ?_)
    have tn : ¬ ((Value.ref T == Value.none) = true) := by simp
    rw [if_neg tn]
    have out : wpAny (model X.prog X.w) X.A (setFlight (.ref a) X.env.frame) (fun _ s4 => wpAny (model X.prog X.w) X.A (throw (.ref a) : Sem Flow) (SP X pins D) X.xe s4) X.xe { s' with heap := h } := by
      rw [hf]
      exact HandSPX.setFlight_upZ fl fun h4 hh4 u4 => wpAny_throw (Ld.up h4 hh4 (uh.trans u4) w)
    first
      | exact wpAny_bind (wpAny_pure (wpAny_bind out))
      | exact wpAny_bind out
  | @cons x n i c ts b0 suite np ph hds l hc hi hln hsu r ih =>
    intro h Ld uh fl w
    obtain ⟨hit, hm, hyes, hno⟩ := w
    have I3 := Ld.go h fl uh
    obtain ⟨o3, v3, e3, z3, d3⟩ := fl.there
    have S3 := I3.suite e3 d3 Ld.na Ld.nL Ld.nF
    have tyL : PySem.W.Looks (model X.prog X.w) h (typeOf (.ref a)) cls := fun A Q E s k q => wpAny_typeOf_ref (k _ _ e3) (by rw [z3.1]; exact q)
    have LM := PySem.W.exm_one (M := model X.prog X.w) I3.kIn tyL hm
    refine wpAny_handleBy_cons (codeAny_handlers_test ?_) (by intro q; cases q)
    have named : ∀ {Q : Value → Shared → Prop} {E : Value → Shared → Prop}, Q c { s' with heap := h } → wpAny (model X.prog X.w) (X.A.mark (some (.ref a))) (eval (.Name x np) X.env) Q E { s' with heap := h } := fun {Q E} q => by
      obtain ⟨k1, k2, k3 | ⟨k3, k4, k5⟩⟩ := hc
      · exact ld_glob (X := X.suite a _) S3 k1 k3 q k2
      · exact ld_blt (X := X.suite a _) S3 k1 k3 k4 q k5 k2
    refine named (LM.here ?_)
    cases hit with
    | false => exact ih Ld uh fl (hno rfl)
    | true =>
      refine codeAny_handlers_suite_as ?_
      refine HandSPX.lands_againZ fl fun h4 fl4 u4 => ?_
      obtain ⟨o4, v4, e4, z4, d4⟩ := fl4.there
      have S4 := (Ld.go h4 fl4 (uh.trans u4)).suite e4 d4 Ld.na Ld.nL Ld.nF
      refine store_ok (X := X.suite a _) (v := .ref a) S4 hN hi (.inl hln) rfl (fun s5 S5 => ?_) (.inr hln)
      refine wpAny_mono ((hsu a o4 cls d _ z4 ⟨_, d4⟩).run [] s5 _ J (gone D i) S5 (hyes rfl a Ld.na)) (fun f s6 h6 => ?_) (fun _ _ z => False.elim z)
      exact suite_end (q := (a, o4)) ok hN hi hln (fun I => I.unsuite ok) h6
theorem ps_try_cls (hs : X.stack = X.env :: X.outer) (hf : X.env.frame = some X.env.locals) (hN : X.N.Nodup) (tk : Takes X Wout)
    (hb : ∀ (W : WX) (pn : List (Addr × Obj)) (xe : Value → Shared → Prop), Takes (X.tr pn xe) W → PassesOwn (model X.prog X.w) X.A X.env xe → PSs (X.tr pn xe) body (tb W))
    (hh : ClsOk X (h0 :: hds) l) : PS X (.Try body (h0 :: hds) [] [] pos) (fun D σ H => tb (wCls X.K Wout D l) D σ H) := by
  refine ⟨fun pins s σ H D I h => ?_⟩
  have ok := I.ok
  have hfr : X.A.frames = some (X.env :: X.outer) := by rw [ok.frames, hs]
  let xe' : Value → Shared → Prop := fun e s1 => wpAny (model X.prog X.w) X.A (noteFrame e X.env) (fun _ s2 => wpAny (model X.prog X.w) X.A (setFlight e none) (fun _ s3 => wpAny (model X.prog X.w) X.A (handleBy e X.env (h0 :: hds)) (SP X pins D) X.xe s3) X.xe s2) X.xe s1
  have taken : Takes (X.tr (X.pn ++ pins) xe') (wCls X.K Wout D l) := by
    intro u s' xx
    obtain ⟨a, B, sI, pins', τ, J, cls, d, rfl, I0, nb, up, sky, na, os, ag, w⟩ := xx
    have I1 : Inv X pins τ J sI := I0.ofTry ok
    have sky1 : Sky B (X.env :: X.outer) a (Zc cls d) X.env.locals s'.heap := by rw [← hs]; exact sky
    show wpAny (model X.prog X.w) X.A (noteFrame (.ref a) X.env) _ _ _
    refine Sky.land Zc.steady hfr hf sky1 fun h3 fl3 up3 => ?_
    obtain ⟨o3, v3, e3, z3, d3⟩ := fl3.there
    have away : a ∉ frs (X.env :: X.outer) := fun hm => by
      obtain ⟨_, o', e', hnf⟩ := fl3.2.2.1.mem hm
      rw [e3] at e'
      cases e'
      exact hnf _ d3
    have nL : a ≠ X.env.locals := fun z => away (List.mem_filterMap.mpr ⟨X.env, List.mem_cons_self, by rw [hf, z]⟩)
    have nF : a ∉ X.fs := fun hm => by
      obtain ⟨e, he, q⟩ := List.mem_filterMap.mp hm
      exact away (List.mem_filterMap.mpr ⟨e, List.mem_cons_of_mem _ he, q⟩)
    refine run_clauses (B := B) (hB := s'.heap) (sI := sI) (s' := s') hN hf ok hh ⟨I1, fun h fl u => I1.landed nb fl.1 (up.trans u) os ag, na, nL, nF, fun h hh u w => tk _ _ ?_⟩ up3 fl3 w
    exact ⟨a, B, sI, pins, τ, J, cls, d, rfl, I1, nb, up.trans u, .inr (.inr (by rw [hs]; exact hh)), na, os, ag, w⟩
  refine wpAny_Try_except (wpAny_mono ((hb _ (X.pn ++ pins) xe' taken PassesOwn.looking).run [] s σ H D (I.toTry _) h) (fun f s1 h1 => ?_) fun e s1 z => z)
  cases f with
  | next =>
    obtain ⟨τ, J, I1, q⟩ := h1
    exact wpAny_execs_nil ⟨τ, J, I1.ofTry ok, q⟩
  | brk =>
    obtain ⟨τ, J, I1, q⟩ := h1
    exact ⟨τ, J, I1.ofTry ok, q⟩
  | cont =>
    obtain ⟨τ, J, I1, q⟩ := h1
    exact ⟨τ, J, I1.ofTry ok, q⟩
  | ret u =>
    obtain ⟨v, τ, J, I1, r, q⟩ := h1
    exact ⟨v, τ, J, I1.ofTry ok, r, q⟩
end
end PyT
/-! PyE: isinstance of a caught error with a dict of its own; raise and try over data. -/
namespace PyE
open PySem PySem.Spec PySem.Calls PyProof.Rows PySem.W
section
variable {prog : Program} {w : World} {A : Around} {E : Value → Shared → Prop} {s : Shared} {K : Frag} {x D : Addr} {ox od : Obj}
theorem find_data {C : Addr} {od : Option Obj} {nm : Str} {a g : Value} (h1 : (clsIn K C).isSome = true) (h2 : findIn K (.ref C) nm = some (some a)) (h3 : specialIn K a "__get__" = some (some g)) (h4 : takesIn K a = some true) : findObj K C od nm = some (.bind g a) := by
  obtain ⟨cd, h1⟩ := Option.isSome_iff_exists.mp h1
  unfold findObj
  rw [h1, Option.bind_some, h2, Option.bind_some]
  simp [h3, h4]
theorem cls_of_exc {Q : Option Value → Shared → Prop} (T : L2.ExcC K D) (X : K.In s.heap) (I : InstAt s.heap x ox D (some od)) (q : Q (some (.ref D)) { s with toks := s.toks + 1 }) : wpAny (model prog w) A (getAttr? (.ref x) "__class__") Q E s := by
  have hf : findObj K D (some od) "__class__" = some (.bind (.builtin "getset_descriptor.__get__") (.builtin "object.__class__")) := find_data (by obtain ⟨cd, z, _⟩ := any_some T.hd; rw [z]; rfl) T.ha T.hn T.ht
  obtain ⟨hp, g, dd, t, os⟩ := s
  have ty := I.type (M := model prog w)
  have ga := looks_findIn (M := model prog w) X T.hg
  have gt := looks_findIn (M := model prog w) X T.hk
  have fd := looks_find (M := model prog w) X I hf
  have isx : Looks (model prog w) hp (isInstance (.ref x) (.type "BaseException")) true := ty.andThen (looks_subIn X T.hs)
  have no0 : (false && onTheHeap (Value.builtin "BaseException.__getattribute__")) = false := rfl
  have no1 : (Value.builtin "BaseException.__getattribute__" == Value.builtin "object.__getattribute__") = false := by decide +kernel
  have no2 : (onTheHeap (Value.ref D) && Value.builtin "BaseException.__getattribute__" == Value.builtin "object.__getattribute__") = false := by rw [no1]; rfl
  unfold getAttr? getAttrBy? getAttrBy
  refine wpAny_bind (wpAny_mkText (wpAny_bind (wpAny_attempt (wpAny_holding (wpAny_bind (ty.at (wpAny_bind (ga.at ?_))))))))
  show wpAny _ _ (if (onTheHeap (Value.ref D) && Value.builtin "BaseException.__getattribute__" == Value.builtin "object.__getattribute__") = true then _ else _) _ _ _
  rw [no2, if_neg Bool.false_ne_true]
  unfold getAttrByItsOwn hookBefore
  refine wpAny_bind ?_
  rw [if_pos (show onTheHeap (Value.ref D) = true from rfl)]
  refine gt.at ?_
  refine wpAny_bind (wpAny_attempt (wpAny_holding ?_))
  unfold callGetattribute
  rw [no0, if_neg Bool.false_ne_true]
  unfold boundAndCalled
  rw [PySem.F.excAttr_ValueError.ga.bind (.ref x)]
  refine wpAny_bind (wpAny_pure ?_)
  show wpAny _ _ (call (.builtin "BaseException.__getattribute__") [.ref x, .str "__class__" t]) _ _ _
  refine wpAny_call (codeAny_call_builtin PySem.F.excAttr_ValueError.ga.plain PySem.F.entry_bexc_ga ?_)
  refine @check_slot (model prog w) _ _ ⟨hp, g, dd, t + 1, os⟩ "BaseException.__getattribute__" "BaseException" "__getattribute__" (.ref x) [.str "__class__" t] [] _ (by decide +kernel) (by decide +kernel) isx (PySem.F.args_bexc_ga (.ref x) (.str "__class__" t)) ?_
  unfold Builtin.«object.__getattribute__»
  refine wpAny_bind (wpAny_of_eq (a := ((Value.ref x : Value), [Value.str "__class__" t])) (by first | rfl | (simp only [slotArgs]; rfl)) ?_)
  refine wpAny_bind (wpAny_pure (wpAny_bind (ty.at (wpAny_bind (fd.at ?_)))))
  show wpAny _ _ (holding [Value.builtin "object.__class__"] (call (.builtin "getset_descriptor.__get__") [.builtin "object.__class__", .ref x, .ref D]) >>= ret) _ _ _
  refine wpAny_bind (wpAny_holding (wpAny_call (class_get (s := ⟨hp, g, dd, t + 1, os⟩) (ox := ox) (od := some od) X I T.hm ?_)))
  refine wpAny_pure ?_
  show wpAny _ _ (handedOut (.ref D)) _ _ _
  rw [handedOut_of (v := .ref D) rfl]
  first
    | exact wpAny_pure (wpAny_pure q)
    | exact wpAny_pure q
    | exact wpAny_pure (wpAny_bind (wpAny_pure (wpAny_pure q)))
theorem kitx (T : L2.ExcC K D) : KitX K (.ref x) (.ref D) (fun h => InstAt h x ox D (some od)) where
  ty := fun _ _ _ I => I.type
  it := fun _ _ X _ => by
    obtain ⟨cdD, hcD, _⟩ := any_some T.hd
    unfold clsIn at hcD
    split at hcD
    · rename_i c' d' cd' sl' ho
      intro A' Q' E' s' k q
      unfold isType loadHead
      exact wpAny_bind (wpAny_loadPart (k _ _ (X _ _ ho)) (wpAny_pure q))
    · cases hcD
  ne := fun h tp dd its n sl X htp => by
    obtain ⟨cdD, hcD, _⟩ := any_some T.hd
    refine Bool.eq_false_iff.mpr fun q => ?_
    have e : D = tp := Value.ref.inj (beq_iff_eq.mp q)
    subst e
    unfold clsIn at hcD
    split at hcD
    · rename_i c' d' cd' sl' ho
      have z := (X _ _ ho).symm.trans htp
      cases z
    · cases hcD
  ca := fun X I k => cls_of_exc T X I k
end
end PyE
namespace PyE
open PySem PySem.Spec PyProof.Rows L2 PyD PyT
/-- isinstance(e, c): e what the suite holds, of the class cls, with the dict d -/
def rIsX (K : PySem.W.Frag) (a : Addr) (cls : Value) (d : Option Addr) : List V → Hp → VK → Prop := fun xs H Q => ∃ (D dd : Addr) (fs : List (Str × V)) (c : V) (cv : Value) (b : Bool), cls = .ref D ∧ d = some dd ∧ H dd = some (.xd fs) ∧ ExcC K D ∧ xs = [.ref a, c] ∧ (∀ u, RelV c u → u = cv) ∧ PySem.W.kitOne K (.ref D) cv = some b ∧ Q (.bl b) H
theorem call_isX {X : Cx} {a : Addr} {cls : Value} {d : Option Addr} {oe : Obj} {pn : List (Addr × Obj)} (hz : Zc cls d oe) (hf : ∃ vs, oe.data = .fields vs) : CallR (X.suite a ((a, oe) :: pn)) (.builtin "isinstance") (rIsX X.K a cls d) := by
  intro pins s σ H xs us Q I r h
  obtain ⟨D, dd, fs, c, cv, b, rfl, rfl, hdd, C, rfl, hcv, e, q⟩ := h
  cases r with
  | cons rx rr =>
    cases rr with
    | cons rt rr =>
      cases rr
      cases rx
      have ec := hcv _ rt
      subst ec
      obtain ⟨hget, _⟩ := I.pin (a, oe) (List.mem_append.mpr (.inl List.mem_cons_self))
      obtain ⟨vs, hv⟩ := hf
      have hx : ObjOk X.prog X.w H s.heap dd (.xd fs) := I.hok dd _ hdd
      obtain ⟨mA, hns, _⟩ := hx
      obtain ⟨od, ho, _⟩ := lookIn_ns hns
      have J : PySem.W.InstAt s.heap a oe D (some od) := ⟨hget, hz.1, by unfold PySem.W.notCls; rw [hv] <;> rfl, by rw [hz.2]; exact ho⟩
      exact PySem.W.kia_one (kitx C) I.kIn J e (fun z => nomatch z) fun tk => ⟨.bl b, H, I.kept (t' := tk) fun _ _ z => z, rfl, q⟩
/-! ### over data -/
def tTry (K : PySem.W.Frag) (Wout : WX) (l : List Cl) (tb : WX → TS) : TS := fun D σ H => tb (wCls K Wout D l) D σ H
section
variable {K : PySem.W.Frag} {W : WX} {ex : Ek} {G : Gm} {O : Ow} {P : D → Ow → Prop} {E : EnD} {ta te : TE} {t u : TS} {aa : TA}
theorem wpS_raise {C : Addr} {at_ : Str} {okV : V → Prop} (h : wpA K W ex aa G O fun ds O1 => ∃ d, ds = [d] ∧ (∀ F v, Rp K F d v → okV v) ∧ ex ⟨C, [(at_, d)]⟩ G O1) : wpS K W ex (tRaiseX C at_ okV W aa) G O E := fun Z F H σ X S s D0 q =>
  h Z F H σ X S s _ fun ds vs F1 H1 O1 S1 e1 r1 ⟨d, hd, hok, he⟩ => by
    subst hd
    cases r1 with
    | cons rv rn =>
      cases rn
      refine ⟨_, rfl, hok _ _ rv, fun dd hdd => ?_⟩
      have nF := S1.ex.none hdd
      refine X ⟨C, [(at_, d)]⟩ (some dd) _ _ σ G O1 (e1.trans (Ex.new nF)) (S1.frz _ hdd) (s.mono (e1.trans (Ex.new nF))) (fun a => ?_) he
      exact .exc1 upd_same rfl (.cons (rv.mono (Ex.new nF)) .nil)
def goneE (E : EnD) (i : Nat) : EnD := { nx := fun G O => E.nx (G.set i none) O, rt := E.rt, bk := fun G O => E.bk (G.set i none) O, ct := fun G O => E.ct (G.set i none) O }
/-- what becomes of an exception at the clauses -/
def exCls (K : PySem.W.Frag) (W : WX) (ex : Ek) (E : EnD) : List Cl → Ek
  | [] => ex
  | (c, i, ts) :: r => fun x G O => ∃ hit, PySem.W.exmOne K (.ref x.cls) c = some hit ∧ (hit = true → ∀ a d, wpS K W ex (ts a (.ref x.cls) d) (G.set i (some (.exc a x.cls d x.fs))) O (goneE E i)) ∧ (hit = false → exCls K W ex E r x G O)
theorem exCls_ok {Z : En0} {F : Hp} {D0 : Ends} (X : XOk K Z F ex W) (q : EnOk K Z F E D0) : ∀ l : List Cl, XOk K Z F (exCls K W ex E l) (wCls K W D0 l)
  | [] => X
  | (c, i, ts) :: r => fun x d F1 H σ G O e1 S s xr h => by
    obtain ⟨hit, h1, h2, h3⟩ := h
    refine ⟨hit, h1, fun hh a _ => ?_, fun hh => exCls_ok X q r x d F1 H σ G O e1 S s xr (h3 hh)⟩
    exact h2 hh a d Z F1 H _ (X.mono e1) S (s.set (xr a)) _ ⟨fun F2 H2 σ2 G2 O2 e2 S2 s2 p2 => q.nx F2 H2 _ _ O2 (e1.trans e2) S2 s2.unset p2, (q.mono e1).rt, fun F2 H2 σ2 G2 O2 e2 S2 s2 p2 => q.bk F2 H2 _ _ O2 (e1.trans e2) S2 s2.unset p2,
      fun F2 H2 σ2 G2 O2 e2 S2 s2 p2 => q.ct F2 H2 _ _ O2 (e1.trans e2) S2 s2.unset p2⟩
theorem wpS_try {l : List Cl} {tb : WX → TS} (h : ∀ W', wpS K W' (exCls K W ex E l) (tb W') G O E) : wpS K W ex (tTry K W l tb) G O E := fun Z F H σ X S s D0 q => h _ Z F H σ (exCls_ok X q l) S s D0 q
/-- a caught error's attribute -/
theorem wpE_xf {a C C' : Addr} {cls : Value} {d : Option Addr} {f : Str} {fs : List (Str × D)} (hc : cls = .ref C) (h : wpE K W ex te G O fun x O1 => x = .exc a C' d fs ∧ ∃ v, fs.lookup f = some v ∧ P v O1) : wpE K W ex (tXf a cls d C f te) G O P := fun Z F H σ X S s Q q =>
  h Z F H σ X S s _ fun x vx F1 H1 O1 S1 e1 r1 ⟨hx, v, hl, p⟩ => by
    subst hx
    have look : ∀ {fs : List (Str × D)} {gs : List (Str × V)}, fs.map (·.1) = gs.map (·.1) → Rps K F1 (fs.map (·.2)) (gs.map (·.2)) → ∀ {v}, fs.lookup f = some v → ∃ u, gs.lookup f = some u ∧ Rp K F1 v u := by
      intro fs
      induction fs with
      | nil => intro gs _ _ v hv; cases hv
      | cons p fs ih =>
        intro gs e r v hv
        cases gs with
        | nil => cases e
        | cons g gs =>
          rw [List.map_cons, List.map_cons, List.cons.injEq] at e
          cases r with
          | cons ra rb =>
            obtain ⟨k, dv⟩ := p
            obtain ⟨k2, gv⟩ := g
            obtain ⟨e1, e2⟩ := e
            dsimp only at e1
            subst e1
            rw [List.lookup_cons] at hv ⊢
            cases hk : f == k with
            | true =>
              rw [hk] at hv
              cases hv
              exact ⟨gv, rfl, ra⟩
            | false =>
              rw [hk] at hv
              exact ih e2 rb hv
    cases r1 with
    | exc0 => cases hl
    | exc1 h1 h2 h3 =>
      obtain ⟨u, hu, ru⟩ := look h2 h3 hl
      exact ⟨rfl, hc, _, _, u, rfl, S1.ex _ _ h1, hu, q v u F1 H1 O1 S1 e1 ru p⟩
/-- isinstance of it -/
theorem wpE_isX {a C Cc : Addr} {cls : Value} {d : Option Addr} {fs : List (Str × D)} {b : Bool} {f : Str} {v : D} (hc : cls = .ref C) (T : ExcC K C) (hk : PySem.W.kitOne K (.ref C) (.ref Cc) = some b)
    (h : wpA K W ex aa G O fun ds O1 => ds = [.exc a C d ((f, v) :: fs), .ref Cc] ∧ P (.bl b) O1) : wpE K W ex (tCB (rIsX K a cls d) aa) G O P := fun Z F H σ X S s Q q =>
  h Z F H σ X S s _ fun ds vs F1 H1 O1 S1 e1 r1 ⟨hd, p⟩ => by
    subst hd
    cases r1 with
    | cons ra rb =>
      cases rb with
      | cons rc rd =>
        cases rc
        cases rd
        cases ra with
        | exc1 h1 h2 h3 => exact ⟨C, _, _, .ref Cc, .ref Cc, b, hc, rfl, S1.ex _ _ h1, T, rfl, fun _ z => z, hk, q _ _ F1 H1 O1 S1 e1 (.bl b) p⟩
/-- .. asked of a type -/
theorem wpE_isXt {a C : Addr} {n : String} {cls : Value} {d : Option Addr} {fs : List (Str × D)} {b : Bool} {f : Str} {v : D} (hc : cls = .ref C) (T : ExcC K C) (hk : PySem.W.kitOne K (.ref C) (.type n) = some b)
    (h : wpA K W ex aa G O fun ds O1 => ds = [.exc a C d ((f, v) :: fs), .ty n] ∧ P (.bl b) O1) : wpE K W ex (tCB (rIsX K a cls d) aa) G O P := fun Z F H σ X S s Q q =>
  h Z F H σ X S s _ fun ds vs F1 H1 O1 S1 e1 r1 ⟨hd, p⟩ => by
    subst hd
    cases r1 with
    | cons ra rb =>
      cases rb with
      | cons rc rd =>
        cases rc
        cases rd
        cases ra with
        | exc1 h1 h2 h3 => exact ⟨C, _, _, .ty n, .type n, b, hc, rfl, S1.ex _ _ h1, T, rfl, fun _ z => z, hk, q _ _ F1 H1 O1 S1 e1 (.bl b) p⟩
end
end PyE
/-! PyD5: sorted of pairs; comprehensions with two for; dict comprehensions. -/
namespace L2
open PySem PySem.Spec PyProof.Rows
/-- sorted(xs), xs a list of pairs of ints, written or made: ks the pairs with their places -/
def rSortedPQ (K : PySem.W.Frag) : List V → Hp → VK → Prop := fun vs H Q => ∃ (a : Addr) (ks : List (Addr × (Int × Int))), vs = [V.ref a] ∧ SqL K H a (ks.map fun p => V.ref p.1) ∧ (∀ p ∈ ks, SqT K H p.1 [.int p.2.1, .int p.2.2]) ∧
  ∀ (ls : List (Addr × (Int × Int))) (p : Addr), ls.Perm ks → ls.Pairwise (fun x y => x.2.1 < y.2.1 ∨ x.2.1 = y.2.1 ∧ x.2.2 ≤ y.2.2) → H p = none → Q (.ref p) (upd H p (.lst (ls.map fun p => V.ref p.1)))
section
variable {X : Cx}
theorem cr_sortedPQ : CallR X (.builtin "sorted") (rSortedPQ X.K) := by
  intro pins s σ H vs us Q I r h
  obtain ⟨a, ks, rfl, hs, hx, q⟩ := h
  obtain ⟨its, rv, hl, hz⟩ := I.list hs
  obtain ⟨u, rfl, ru⟩ := vals1 r
  obtain rfl : u = Value.ref a := ru
  obtain ⟨e1, e2⟩ := refs_back rv fun x m => by
    obtain ⟨p, _, e⟩ := List.mem_map.mp m
    exact ⟨p.1, e.symm⟩
  -- a place says its pair
  have one : ∀ p ∈ ks, ∀ p' ∈ ks, p.1 = p'.1 → p = p' := fun p hp p' hp' e => by
    have h1 := hx p hp
    have h2 := hx p' hp'
    rw [← e] at h2
    have h3 := I.tuple_inj h1 h2
    obtain ⟨b, i, j⟩ := p
    obtain ⟨b', i', j'⟩ := p'
    dsimp only at e
    subst e
    simp at h3
    rw [h3.1, h3.2]
  let k : Addr → Int × Int := fun b => (ks.lookup b).getD (0, 0)
  have kk : ∀ p ∈ ks, k p.1 = p.2 := fun p hp => by
    show (ks.lookup p.1).getD (0, 0) = p.2
    have : ∃ v, ks.lookup p.1 = some v ∧ (p.1, v) ∈ ks := by
      clear q hs hx rv e1 one k hz
      induction ks with
      | nil => cases hp
      | cons r ks ih =>
        obtain ⟨b, v⟩ := r
        rw [List.lookup_cons]
        cases e : p.1 == b with
        | true =>
          refine ⟨v, rfl, ?_⟩
          rw [beq_iff_eq.mp e]
          exact List.mem_cons_self
        | false =>
          rcases List.mem_cons.mp hp with z | z
          · rw [z] at e
            simp at e
          · obtain ⟨v', h1, h2⟩ := ih z
            exact ⟨v', h1, List.mem_cons_of_mem _ h2⟩
    obtain ⟨v, h1, h2⟩ := this
    rw [h1]
    have h3 := one _ h2 _ hp rfl
    rw [← h3] <;> rfl
  let kv : Value → Int × Int := fun u => match u with
    | .ref b => k b
    | _ => (0, 0)
  refine SrtO.sorted_pairsO (k := kv) hl.isList (by rw [← rv.length]; exact hz) (fun v hv => ?_) fun h' d out h1 h2 kp hd hn => ?_
  · obtain ⟨t, rfl⟩ := e2 v hv
    have hm : V.ref t ∈ ks.map fun p => V.ref p.1 := by rw [e1]; exact List.mem_map.mpr ⟨_, hv, rfl⟩
    obtain ⟨p, hp, e⟩ := List.mem_map.mp hm
    cases e
    obtain ⟨its2, r2, ⟨o, ho, hc, n, hd⟩, _⟩ := I.tuple (hx p hp)
    obtain ⟨u1, u2, rfl, ri, rj⟩ := vals2 r2
    obtain ⟨t1, rfl⟩ := ri
    obtain ⟨t2, rfl⟩ := rj
    refine ⟨p.1, o, t1, t2, n, rfl, ho, hc, ?_⟩
    show o.data = .seq #[.int (k p.1).1 t1, .int (k p.1).2 t2] n
    rw [kk p hp]
    exact hd
  · have h3 : ∀ u ∈ out, ∃ a, u = Value.ref a := fun u hu => e2 u (h2.perm.mem_iff.mp hu)
    obtain ⟨n, hn⟩ := hn
    let g : Value → Addr × (Int × Int) := fun u => match u with
      | .ref b => (b, k b)
      | _ => (a, (0, 0))
    have eg : ∀ u ∈ out, V.ref (g u).1 = backV u := fun u hu => by
      obtain ⟨b, rfl⟩ := h3 u hu
      rfl
    have em : (out.map g).map (fun p => V.ref p.1) = out.map backV := by
      rw [List.map_map]
      exact List.map_congr_left eg
    have ek : its.map g = ks := by
      have e3 : (ks.map fun p => V.ref p.1).map (fun v => match v with
          | .ref b => (b, k b)
          | _ => (a, (0, 0))) = ks := by
        rw [List.map_map]
        conv => rhs; rw [← List.map_id ks]
        refine List.map_congr_left fun p hp => ?_
        show (p.1, k p.1) = p
        rw [kk p hp]
      rw [e1, List.map_map] at e3
      rw [← e3]
      refine List.map_congr_left fun u hu => ?_
      obtain ⟨b, rfl⟩ := e2 u hu
      rfl
    have hp : (out.map g).Perm ks := by
      rw [← ek]
      exact h2.perm.map g
    have ho : (out.map g).Pairwise (fun x y => x.2.1 < y.2.1 ∨ x.2.1 = y.2.1 ∧ x.2.2 ≤ y.2.2) := by
      refine List.pairwise_map.mpr (List.Pairwise.imp_of_mem ?_ h1)
      intro u v hu hv huv
      obtain ⟨b, rfl⟩ := h3 u hu
      obtain ⟨c, rfl⟩ := h3 v hv
      have z := SrtO.lexB_no.mp huv
      show (k b).1 < (k c).1 ∨ (k b).1 = (k c).1 ∧ (k b).2 ≤ (k c).2
      have z : ¬((k c).1 < (k b).1 ∨ (k c).1 = (k b).1 ∧ (k c).2 < (k b).2) := z
      omega
    refine ⟨.ref d, upd H d (.lst (out.map backV)), I.laid (t' := s.toks) kp hd ⟨?_, out, n, vals_back h3, hn⟩, rfl, ?_⟩
    · rw [List.length_map, h2.perm.length_eq, ← rv.length]
      exact hz
    · rw [← em]
      exact q _ d hp ho (I.hok.fresh hd)
end
end L2
namespace PyD
open PySem PySem.Spec L2
section
variable {K : PySem.W.Frag} {W : WX} {ex : Ek} {G : Gm} {O : Ow} {P : D → Ow → Prop} {E : EnD} {ta tb te tc tk tv : TE} {tt uu tt1 : TT} {t u : TS} {aa : TA}
abbrev prD (p : Int × Int) : D := .tup [.int p.1, .int p.2]
theorem prs_back {F : Hp} : ∀ {ps : List (Int × Int)} {vs : List V}, Rps K F (ps.map prD) vs → ∃ ks : List (Addr × (Int × Int)), vs = ks.map (fun p => V.ref p.1) ∧ ks.map (·.2) = ps ∧ ∀ p ∈ ks, SqT K F p.1 [.int p.2.1, .int p.2.2]
  | [], vs, r => by
    cases r
    exact ⟨[], rfl, rfl, fun _ h => by cases h⟩
  | p :: ps, vs, r => by
    cases r with
    | cons ra rb =>
      obtain ⟨ks, h1, h2, h3⟩ := prs_back rb
      cases ra with
      | @tup a vs' _ hs hr =>
        cases hr with
        | cons r1 r2 =>
          cases r2 with
          | cons r2 r3 =>
            cases r3
            cases r1
            cases r2
            refine ⟨(a, p) :: ks, by rw [List.map_cons, ← h1], by rw [List.map_cons, h2], fun x hx => ?_⟩
            rcases List.mem_cons.mp hx with rfl | hx
            · exact hs
            · exact h3 x hx
theorem prs_of {F : Hp} : ∀ {ks : List (Addr × (Int × Int))}, (∀ p ∈ ks, SqT K F p.1 [.int p.2.1, .int p.2.2]) → Rps K F ((ks.map (·.2)).map prD) (ks.map fun p => V.ref p.1)
  | [], _ => .nil
  | k :: ks, h => .cons (.tup (h k List.mem_cons_self) (.cons (.int _) (.cons (.int _) .nil))) (prs_of fun p hp => h p (List.mem_cons_of_mem _ hp))
abbrev lexI (x y : Int × Int) : Prop := x.1 < y.1 ∨ x.1 = y.1 ∧ x.2 ≤ y.2
theorem wpC_sortP (fr : Bool) {x : D} {ps : List (Int × Int)} (hx : seqOf O x (ps.map prD)) (p : ∀ ms : List (Int × Int), ms.Perm ps → ms.Pairwise lexI → lcEnd fr (ms.map prD) O P) : wpC K (rSortedPQ K) [x] O P := fun Z F H vs S r Q q => by
  cases r with
  | cons ra rb =>
    cases rb
    obtain ⟨a, vs, rfl, ha, rv⟩ := hx.at S ra
    obtain ⟨ks, h1, h2, h3⟩ := prs_back rv
    subst h1
    refine ⟨a, ks, rfl, ha, fun p hp => ex_t S.ex (h3 p hp), fun ls l hp hw hl => ?_⟩
    refine mk_new S (prs_of fun p z => h3 p (hp.mem_iff.mp z)) (p _ (h2 ▸ hp.map _) (List.pairwise_map.mpr hw)) q l hl
/-! ### two for -/
theorem wpE_lc2 {wi wi1 : TI} {g g1 : TG} {vs vs1 : List Nat} (fr : Bool) (hg : gIn vs g) (gm : gMono g) (hg1 : gIn vs1 g1) (gm1 : gMono g1)
    (h : wpI K W ex wi G O fun xs C O1 => ∃ I : Nat → List D → Ow → Prop, I 0 [] O1 ∧ (∀ i acc O', i ≤ xs.length → I i acc O' → C O') ∧
      (∀ i x acc O', xs[i]? = some x → I i acc O' → wpG K g x (wipeG G vs) O' fun G2 O2 => wpT K W ex tt G2 O2 fun b O3 => (b = false → I (i + 1) acc O3) ∧ (b = true → wpI K W ex wi1 G2 O3 fun ys C1 O4 => ∃ J : Nat → List D → Ow → Prop, J 0 acc O4 ∧ (∀ j acc O', j ≤ ys.length → J j acc O' → C1 O' ∧ acc.length < sizeLine) ∧
        (∀ j y acc O', ys[j]? = some y → J j acc O' → wpG K g1 y (wipeG G2 vs1) O' fun G5 O5 => wpT K W ex tt1 G5 O5 fun b O6 => (b = true → wpE K W ex te G5 O6 fun z O7 => J (j + 1) (acc ++ [z]) O7) ∧ (b = false → J (j + 1) acc O6)) ∧
        ∀ acc O', J ys.length acc O' → I (i + 1) acc O')) ∧
      ∀ acc O', I xs.length acc O' → lcEnd fr acc O' P) : wpE K W ex (tLc2 wi g tt wi1 g1 tt1 te vs vs1) G O P := fun Z F H σ X S s Q q =>
  h Z F H σ X S s _ fun J xs C F1 H1 O1 S1 e1 hw ⟨I, h0, hl, hs, hd⟩ Dl hD => by
    have hZ := S1.fresh hD
    have hM := S1.notM hD
    refine ⟨fun i m H' => i + m = xs.length ∧ ∃ F2 O2 acc vacc, S0 K Z F2 H' O2 ∧ Ex F1 F2 ∧ F2 Dl = none ∧ H' Dl = some (.lst vacc) ∧ Rps K F2 acc vacc ∧ I i acc O2 ∧ ∀ p ∈ O2, p.a ≠ Dl,
      ⟨xs.length, by omega, F1, O1, [], [], S1.junk _ hD, Ex.refl _, S1.ex.none hD, upd_same, .nil, h0, S1.freshO hD⟩, fun i m H' hW => ?_⟩
    obtain ⟨em, F2, O2, acc, vacc, S2, e2, f2, hD2, r2, hI, nO⟩ := hW
    have hC := hl i acc O2 (by omega) hI
    by_cases hi : i < xs.length
    · obtain ⟨x, hx⟩ : ∃ x, xs[i]? = some x := ⟨xs[i], List.getElem?_eq_getElem hi⟩
      have S2' := S2.hold hD2 f2 nO
      obtain ⟨g1', g2⟩ := hw.go _ F2 H' O2 i x S2' e2 hC hx
      obtain ⟨Nx, hNx⟩ : ∃ Nx : Hp → Prop, Nx = fun H3 => ∃ F3 O3 acc3 vacc3, S0 K Z F3 H3 O3 ∧ Ex F1 F3 ∧ F3 Dl = none ∧ H3 Dl = some (.lst vacc3) ∧ Rps K F3 acc3 vacc3 ∧ I (i + 1) acc3 O3 ∧ ∀ p ∈ O3, p.a ≠ Dl := ⟨_, rfl⟩
      refine .inr ⟨g1', Nx, fun H3 h3 => ⟨m - 1, by omega, by omega, by rw [hNx] at h3; exact h3⟩, fun z H3 hz3 => ?_⟩
      obtain ⟨F3, S3, e3, rz⟩ := g2 z H3 hz3
      have X' : ∀ {o : HO}, XOk K (Z.hold Dl o) F ex W := X.hold hZ hM
      have sw : Slots K F3 (wipeG G vs) (L2.wipe σ vs) := (s.mono (e1.trans (e2.trans e3))).wipe vs
      have hgo := hs i x acc O2 hx hI (Z.hold Dl (.lst vacc)) F3 H3 _ z S3 sw rz
      refine gm z _ H3 _ _ (fun σ2 H4 hq => ?_) (hg z _ H3 _ (hgo (fun σ2 H4 => tt σ2 H4 fun b H5 => if b = true then wi1 σ2 H5 fun J1 H4 => ∃ W1 : Nat → Nat → Hp → Prop, (∃ m, W1 0 m H4) ∧ ∀ j k H, W1 j k H →
          (J1.stop j H ∧ Nx H) ∨ (J1.go j H ∧ ∃ Nx1 : Hp → Prop, (∀ H', Nx1 H' → ∃ k', k' < k ∧ W1 (j + 1) k' H') ∧ ∀ x H', J1.yld j H x H' → g1 x (L2.wipe σ2 vs1) H' fun σ3 H5 => L2.wipe σ3 vs1 = L2.wipe σ2 vs1 ∧ tt1 σ3 H5 fun b H6 =>
            if b = true then te σ3 H6 fun y H7 => ∃ acc, H7 Dl = some (.lst acc) ∧ acc.length < sizeLine ∧ Nx1 (upd H7 Dl (.lst (acc ++ [y]))) else Nx1 H6) else Nx H5) ?_))
      · obtain ⟨q1, q2, q3⟩ := hq
        refine ⟨wipe_ext (q2.trans (wipe_length σ vs)) fun k hk => (q3 k hk).trans ?_, q1⟩
        rw [wipe_at, if_neg hk]
      · intro F4 H4 σ4 G4 O4 S4 s4 e4 p4
        refine p4 _ F4 H4 σ4 (X'.mono (e1.trans (e2.trans (e3.trans e4)))) S4 s4 _ fun b F5 H5 O5 S5 e5 p5 => ?_
        have e25 := e3.trans (e4.trans e5)
        cases b with
        | false =>
          obtain ⟨S7, k1, k2, k3⟩ := S5.unhold hZ hM
          show Nx H5
          rw [hNx]
          exact ⟨F5, O5, acc, vacc, S7, e2.trans e25, k2, k1, r2.mono e25, p5.1 rfl, k3⟩
        | true =>
          have e05 := e1.trans (e2.trans e25)
          refine p5.2 rfl _ F5 H5 σ4 (X'.mono e05) S5 (s4.mono e5) _ fun J1 ys C1 F6 H6 O6 S6 e6 hw1 ⟨J', j0, jl, js, jd⟩ => ?_
          obtain ⟨S6u, k1, k2, k3⟩ := S6.unhold hZ hM
          have e26 := e25.trans e6
          refine ⟨fun j m H' => j + m = ys.length ∧ ∃ F7 O7 acc7 vacc7, S0 K Z F7 H' O7 ∧ Ex F6 F7 ∧ F7 Dl = none ∧ H' Dl = some (.lst vacc7) ∧ Rps K F7 acc7 vacc7 ∧ J' j acc7 O7 ∧ ∀ p ∈ O7, p.a ≠ Dl,
            ⟨ys.length, by omega, F6, O6, acc, vacc, S6u, Ex.refl _, k2, k1, r2.mono e26, j0, k3⟩, fun j m1 H7 hW1 => ?_⟩
          obtain ⟨em1, F7, O7, acc7, vacc7, S7, e7, f7, hD7, r7, hJ, nO7⟩ := hW1
          obtain ⟨hC1, hz⟩ := jl j acc7 O7 (by omega) hJ
          by_cases hj : j < ys.length
          · obtain ⟨y, hy⟩ : ∃ y, ys[j]? = some y := ⟨ys[j], List.getElem?_eq_getElem hj⟩
            have S7' := S7.hold hD7 f7 nO7
            obtain ⟨g3, g4⟩ := hw1.go _ F7 H7 O7 j y S7' e7 hC1 hy
            obtain ⟨Ny, hNy⟩ : ∃ Ny : Hp → Prop, Ny = fun H3 => ∃ F3 O3 acc3 vacc3, S0 K Z F3 H3 O3 ∧ Ex F6 F3 ∧ F3 Dl = none ∧ H3 Dl = some (.lst vacc3) ∧ Rps K F3 acc3 vacc3 ∧ J' (j + 1) acc3 O3 ∧ ∀ p ∈ O3, p.a ≠ Dl := ⟨_, rfl⟩
            refine .inr ⟨g3, Ny, fun H3 h3 => ⟨m1 - 1, by omega, by omega, by rw [hNy] at h3; exact h3⟩, fun z8 H8 hz8 => ?_⟩
            obtain ⟨F8, S8, e8, rz8⟩ := g4 z8 H8 hz8
            have sw8 : Slots K F8 (wipeG G4 vs1) (L2.wipe σ4 vs1) := (s4.mono (e5.trans (e6.trans (e7.trans e8)))).wipe vs1
            have hgo8 := js j y acc7 O7 hy hJ (Z.hold Dl (.lst vacc7)) F8 H8 _ z8 S8 sw8 rz8
            refine gm1 z8 _ H8 _ _ (fun σ9 H9 hq => ?_) (hg1 z8 _ H8 _ (hgo8 (fun σ3 H5 => tt1 σ3 H5 fun b H6 => if b = true then te σ3 H6 fun y H7 => ∃ acc, H7 Dl = some (.lst acc) ∧ acc.length < sizeLine ∧ Ny (upd H7 Dl (.lst (acc ++ [y]))) else Ny H6) ?_))
            · obtain ⟨q1, q2, q3⟩ := hq
              refine ⟨wipe_ext (q2.trans (wipe_length σ4 vs1)) fun k hk => (q3 k hk).trans ?_, q1⟩
              rw [wipe_at, if_neg hk]
            · intro F9 H9 σ9 G9 O9 S9 s9 e9 p9
              have e09 := e05.trans (e6.trans (e7.trans (e8.trans e9)))
              refine p9 _ F9 H9 σ9 (X'.mono e09) S9 s9 _ fun b Fa Ha Oa Sa ea pa => ?_
              cases b with
              | true =>
                refine pa.1 rfl _ Fa Ha σ9 (X'.mono (e09.trans ea)) Sa (s9.mono ea) _ fun z vz Fb Hb Ob Sb eb rb pb => ?_
                obtain ⟨Sc, k4, k5, k6⟩ := Sb.unhold hZ hM
                have e7b := e8.trans (e9.trans (ea.trans eb))
                exact ⟨vacc7, k4, by rw [← r7.length]; exact hz, by rw [hNy]; exact ⟨Fb, Ob, acc7 ++ [z], vacc7 ++ [vz], Sc.writeU k5 k6 hZ, e7.trans e7b, k5, upd_same, (r7.mono e7b).app (.one rb), pb, k6⟩⟩
              | false =>
                obtain ⟨Sc, k4, k5, k6⟩ := Sa.unhold hZ hM
                have e7a := e8.trans (e9.trans ea)
                show Ny Ha
                rw [hNy]
                exact ⟨Fa, Oa, acc7, vacc7, Sc, e7.trans e7a, k5, k4, r7.mono e7a, pa.2 rfl, k6⟩
          · have ej : j = ys.length := by omega
            subst ej
            refine .inl ⟨hw1.stop Z F7 H7 O7 S7 e7 hC1, ?_⟩
            rw [hNx]
            exact ⟨F7, O7, acc7, vacc7, S7, e2.trans (e26.trans e7), f7, hD7, r7, jd acc7 O7 hJ, nO7⟩
    · have ei : i = xs.length := by omega
      subst ei
      refine .inl ⟨hw.stop Z F2 H' O2 S2 e2 hC, ?_⟩
      have hend := hd acc O2 hI
      cases fr with
      | true => exact q _ _ _ H' O2 (S2.keepF hD2 f2 nO hZ) (e1.trans (e2.trans (Ex.new f2))) (.lst upd_same (r2.mono (Ex.new f2))) hend
      | false => exact q _ _ F2 H' _ (S2.take (d := .lst acc) f2 ⟨vacc, hD2, r2⟩ nO hZ) (e1.trans e2) (.mut Dl) (hend Dl nO)
/-! ### dicts -/
def dcEnd (fr : Bool) (acc : List (Key × D)) (O : Ow) (P : D → Ow → Prop) : Prop := match fr with
  | true => P (.dK acc) O
  | false => ∀ a, (∀ q ∈ O, q.a ≠ a) → P (.mut a) (⟨a, true, .dK acc⟩ :: O)
theorem wpE_dc {wi : TI} {g : TG} {vs : List Nat} (fr : Bool) (hg : gIn vs g) (gm : gMono g) (h : wpI K W ex wi G O fun xs C O1 => ∃ I : Nat → List (Key × D) → Ow → Prop, I 0 [] O1 ∧ (∀ i acc O', i ≤ xs.length → I i acc O' → C O' ∧ acc.length < sizeLine) ∧
      (∀ i x acc O', xs[i]? = some x → I i acc O' → wpG K g x (wipeG G vs) O' fun G2 O2 => wpT K W ex tt G2 O2 fun b O3 => (b = true → wpE K W ex tk G2 O3 fun y O4 => wpE K W ex tv G2 O4 fun z O5 => ∃ k, y = kD k ∧ I (i + 1) (putD acc k z) O5) ∧ (b = false → I (i + 1) acc O3)) ∧
      ∀ acc O', I xs.length acc O' → dcEnd fr acc O' P) : wpE K W ex (tDc wi g tt tk tv vs) G O P := fun Z F H σ X S s Q q =>
  h Z F H σ X S s _ fun J xs C F1 H1 O1 S1 e1 hw ⟨I, h0, hl, hs, hd⟩ Dl hD => by
    have hZ := S1.fresh hD
    have hM := S1.notM hD
    refine ⟨fun i m H' => i + m = xs.length ∧ ∃ F2 O2 acc vacc, S0 K Z F2 H' O2 ∧ Ex F1 F2 ∧ F2 Dl = none ∧ H' Dl = some (.dK vacc) ∧ RKv K F2 acc vacc ∧ I i acc O2 ∧ ∀ p ∈ O2, p.a ≠ Dl,
      ⟨xs.length, by omega, F1, O1, [], [], S1.junk _ hD, Ex.refl _, S1.ex.none hD, upd_same, RKv.nil, h0, S1.freshO hD⟩, fun i m H' hW => ?_⟩
    obtain ⟨em, F2, O2, acc, vacc, S2, e2, f2, hD2, r2, hI, nO⟩ := hW
    obtain ⟨hC, hz⟩ := hl i acc O2 (by omega) hI
    by_cases hi : i < xs.length
    · obtain ⟨x, hx⟩ : ∃ x, xs[i]? = some x := ⟨xs[i], List.getElem?_eq_getElem hi⟩
      have S2' := S2.hold hD2 f2 nO
      obtain ⟨g1, g2⟩ := hw.go _ F2 H' O2 i x S2' e2 hC hx
      obtain ⟨Nx, hNx⟩ : ∃ Nx : Hp → Prop, Nx = fun H3 => ∃ F3 O3 acc3 vacc3, S0 K Z F3 H3 O3 ∧ Ex F1 F3 ∧ F3 Dl = none ∧ H3 Dl = some (.dK vacc3) ∧ RKv K F3 acc3 vacc3 ∧ I (i + 1) acc3 O3 ∧ ∀ p ∈ O3, p.a ≠ Dl := ⟨_, rfl⟩
      refine .inr ⟨g1, Nx, fun H3 h3 => ⟨m - 1, by omega, by omega, by rw [hNx] at h3; exact h3⟩, fun z H3 hz3 => ?_⟩
      obtain ⟨F3, S3, e3, rz⟩ := g2 z H3 hz3
      have X' : XOk K (Z.hold Dl (.dK vacc)) F ex W := X.hold hZ hM
      have sw : Slots K F3 (wipeG G vs) (L2.wipe σ vs) := (s.mono (e1.trans (e2.trans e3))).wipe vs
      have hgo := hs i x acc O2 hx hI (Z.hold Dl (.dK vacc)) F3 H3 _ z S3 sw rz
      refine gm z _ H3 _ _ (fun σ2 H4 hq => ?_) (hg z _ H3 _ (hgo (fun σ2 H4 => tt σ2 H4 fun b H5 => if b = true then tk σ2 H5 fun y H4 => tv σ2 H4 fun z H5 => ∃ kvs k, y = kV k ∧ H5 Dl = some (.dK kvs) ∧ kvs.length < sizeLine ∧ Nx (upd H5 Dl (.dK (putK kvs k z))) else Nx H5) ?_))
      · obtain ⟨q1, q2, q3⟩ := hq
        refine ⟨wipe_ext (q2.trans (wipe_length σ vs)) fun k hk => (q3 k hk).trans ?_, q1⟩
        rw [wipe_at, if_neg hk]
      · intro F4 H4 σ4 G4 O4 S4 s4 e4 p4
        have e04 := e1.trans (e2.trans (e3.trans e4))
        refine p4 _ F4 H4 σ4 (X'.mono e04) S4 s4 _ fun b F5 H5 O5 S5 e5 p5 => ?_
        cases b with
        | true =>
          refine p5.1 rfl _ F5 H5 σ4 (X'.mono (e04.trans e5)) S5 (s4.mono e5) _ fun y vy F6 H6 O6 S6 e6 r6 p6 => ?_
          refine p6 _ F6 H6 σ4 (X'.mono (e04.trans (e5.trans e6))) S6 (s4.mono (e5.trans e6)) _ fun z vz F8 H8 O8 S8 e8 r8 ⟨k, hk, p8⟩ => ?_
          subst hk
          obtain rfl := kD_v r6
          obtain ⟨S7, k1, k2, k3⟩ := S8.unhold hZ hM
          have e26 := e3.trans (e4.trans (e5.trans (e6.trans e8)))
          have rk : RKv K F8 acc vacc := ⟨r2.1, r2.2.mono e26⟩
          exact ⟨vacc, k, rfl, k1, by rw [← r2.len]; exact hz, by rw [hNx]; exact ⟨F8, O8, putD acc k z, putK vacc k vz, S7.writeU k2 k3 hZ, e2.trans e26, k2, upd_same, rk.put r8, p8, k3⟩⟩
        | false =>
          obtain ⟨S7, k1, k2, k3⟩ := S5.unhold hZ hM
          have e25 := e3.trans (e4.trans e5)
          show Nx H5
          rw [hNx]
          exact ⟨F5, O5, acc, vacc, S7, e2.trans e25, k2, k1, ⟨r2.1, r2.2.mono e25⟩, p5.2 rfl, k3⟩
    · have ei : i = xs.length := by omega
      subst ei
      refine .inl ⟨hw.stop Z F2 H' O2 S2 e2 hC, ?_⟩
      have hend := hd acc O2 hI
      cases fr with
      | true => exact q _ _ _ H' O2 (S2.keepF hD2 f2 nO hZ) (e1.trans (e2.trans (Ex.new f2))) (.dK upd_same r2.1 (r2.2.mono (Ex.new f2))) hend
      | false => exact q _ _ F2 H' _ (S2.take (d := .dK acc) f2 ⟨vacc, hD2, r2.1, r2.2⟩ nO hZ) (e1.trans e2) (.mut Dl) (hend Dl nO)
end
end PyD
/-! PyH: the head's facts with own exception classes; defs as they stand; the end. -/
namespace PyH
open PySem PySem.Spec PyProof.Rows L2 PySem.HandSPX
def asK (g : Addr → Option Obj) : Nat → List Addr
  | 0 => [mainGlobals, cStatics]
  | n + 1 => He.growD g (asK g n)
def cellB (K : PySem.W.Frag) (a C : Addr) : Bool := match K.lookup a with
  | some ⟨_, _, .cell (some (.ref b)), _⟩ => decide (b = C)
  | _ => false
abbrev FnI : Type := Option (Str × Str × Arguments × FuncBody × Scope × Addr × List (Str × Bool) × Addr)
/-- an own exception class: its name, its attribute, its __init__ -/
structure ExD where
  x : Str
  at_ : Str
  qual : Str
  st : Stmt
abbrev iAd (K : PySem.W.Frag) (x : Str) : Addr := He.ma K (He.ga K x) "__init__"
def initW (K : PySem.W.Frag) (x : Str) : FnI := match K.lookup (iAd K x) with
  | some ⟨_, _, .func fd, _⟩ => some (fd.name, fd.qualname, fd.params, fd.body, fd.scope, fd.globals, fd.closure.map fun q => (q.1, cellB K q.2 (He.ga K x)), fd.builtins)
  | _ => none
def ExD.val (d : ExD) : FnI := some ("__init__", d.qual, defArgs d.st, .stmts (defBody d.st), defScope d.st, mainGlobals, [("__class__", true)], builtinsNs)
def noneB : Value → Bool
  | .none => true
  | _ => false
theorem noneB_ok {v : Value} (h : noneB v = true) : v = .none := by
  cases v <;> first | rfl | cases h
def fileB (K : PySem.W.Frag) (cd : Value) (file : Str) : Bool := match cd with
  | .ref c => (match K.lookup c with
    | some ⟨_, _, .fields vs, _⟩ => (match (vs[2]? : Option Value) with
      | some (.str f _) => decide (file = f)
      | _ => false)
    | _ => false)
  | _ => false
theorem fileB_ok {K : PySem.W.Frag} {cd : Value} {file : Str} (h : fileB K cd file = true) : ∃ (c : Addr) (ccl : Value) (cdd : Option Addr) (vs : Array Value) (ccs : Array (Option Value)) (tf : Tok), cd = .ref c ∧ K.lookup c = some ⟨ccl, cdd, .fields vs, ccs⟩ ∧ vs[2]? = some (.str file tf) := by
  unfold fileB at h
  cases cd with
  | ref c =>
    dsimp only at h
    cases q : K.lookup c with
    | none => rw [q] at h; cases h
    | some o =>
      obtain ⟨ccl, cdd, dt, ccs⟩ := o
      rw [q] at h
      cases dt with
      | fields vs =>
        dsimp only at h
        cases e : vs[2]? with
        | none => rw [e] at h; cases h
        | some v =>
          rw [e] at h
          cases v with
          | str f tf =>
            have hf : file = f := of_decide_eq_true h
            subst hf
            exact ⟨c, ccl, cdd, vs, ccs, tf, rfl, q, e⟩
          | _ => cases h
      | _ => cases h
  | _ => cases h
def clsB (K : PySem.W.Frag) (C : Addr) : Bool := match K.lookup C with
  | some ⟨.type "type", _, .cls cd, sl⟩ => (match cd.mro, sl.toList with
    | .ref C' :: bm, [_, _, _, _, some (.builtin n), _] => decide (C' = C) && (decide (n = "ValueError.__new__") && (!cd.hasDel && (refsVE bm && cd.hasDict)))
    | _, _ => false)
  | _ => false
theorem clsB_ok {K : PySem.W.Frag} {C : Addr} (h : clsB K C = true) : ∃ nm q N bs bm sn sub ab col dd k0 k1 k2 k3 k5, K.lookup C = some (excClassObj nm q C N bs bm true sn sub ab col dd k0 k1 k2 k3 k5 "ValueError.__new__") ∧ refsVE bm = true := by
  unfold clsB at h
  split at h
  · rename_i dd cd sl ho
    split at h
    · rename_i C' bm k0 k1 k2 k3 n k5 hm hs
      obtain ⟨h1, h⟩ := He.ba h
      obtain ⟨h2, h⟩ := He.ba h
      obtain ⟨h3, h⟩ := He.ba h
      obtain ⟨h4, h5⟩ := He.ba h
      obtain rfl := of_decide_eq_true h1
      obtain rfl := of_decide_eq_true h2
      have h6 : cd.hasDel = false := by simpa using h3
      obtain ⟨nm, bs, mro, ns, qn, hd, sn, sub, ab, col, del⟩ := cd
      dsimp only at hm h6 h5
      subst hm h6 h5
      have hsl : sl = #[k0, k1, k2, k3, some (.builtin "ValueError.__new__"), k5] := by
        obtain ⟨l⟩ := sl
        simp only at hs
        rw [hs]
      subst hsl
      exact ⟨nm, qn, ns, bs, bm, sn, sub, ab, col, dd, k0, k1, k2, k3, k5, ho, h4⟩
    · cases h
  · cases h
def ExD.ok (file : Str) (K : PySem.W.Frag) (d : ExD) : Bool :=
  let C := He.ga K d.x
  let f := iAd K d.x
  clsB K C && (He.eqO (PySem.W.findIn K (.ref C) "__setattr__") (some (some (.builtin "object.__setattr__"))) && (He.eqO (PySem.W.findIn K (.ref C) d.at_) (some none) && (He.eqO (PySem.W.findIn K (.ref C) "__init__") (some (some (.ref f))) &&
  (decide (PySem.W.typeIn K (.ref f) = some (.type "function")) && (He.eqO (PySem.W.nsIn K cStatics "thirdparty.any") (some none) && (He.eqO (PySem.W.ks_superIn K C C "__init__") (some (some (.builtin "ValueError.__init__"))) &&
  (decide (PySem.W.subIn K (.ref C) (.type "ValueError") = some true) && (decide (PySem.W.mroIn K C (.ref C) = some true) && (match K.lookup f with
    | some ⟨_, _, .func fd, _⟩ => noneB fd.defaults && (noneB fd.kwdefaults && (PySem.W.codeIn K fd.code d.qual && fileB K fd.code file))
    | _ => false)))))))))
/-- an own exception class, as its instances are raised and asked -/
structure ExC2 (K : PySem.W.Frag) (C : Addr) (at_ : Str) : Prop where
  kp : PySem.W.keepIn K (.ref C) = true
  sb : PySem.W.subIn K (.ref C) (.type "BaseException") = some true
  ty : PySem.W.typeIn K (.ref C) = some (.type "type")
  xf : XfC K C
  ex : ExcC K C
  no : PySem.W.findIn K (.ref C) at_ = some none
def ex2B (K : PySem.W.Frag) (C : Addr) (at_ : Str) : Bool := PySem.W.keepIn K (.ref C) && (decide (PySem.W.subIn K (.ref C) (.type "BaseException") = some true) && (decide (PySem.W.typeIn K (.ref C) = some (.type "type")) && (xfB K C && (He.eqO (PySem.W.findIn K (.ref C) at_) (some none) &&
  (He.eqO (PySem.W.findIn K (.ref C) "__class__") (some (some (.builtin "object.__class__"))) && (He.eqO (PySem.W.specialIn K (.builtin "object.__class__") "__get__") (some (some (.builtin "getset_descriptor.__get__"))) && (decide (PySem.W.takesIn K (.builtin "object.__class__") = some true) && decide (PySem.W.mroIn K C (.type "object") = some true))))))))
theorem ex2B_ok {K : PySem.W.Frag} {C : Addr} {at_ : Str} (h : ex2B K C at_ = true) : ExC2 K C at_ := by
  obtain ⟨h1, h⟩ := He.ba h
  obtain ⟨h2, h⟩ := He.ba h
  obtain ⟨h3, h⟩ := He.ba h
  obtain ⟨h4, h⟩ := He.ba h
  obtain ⟨h5, h⟩ := He.ba h
  obtain ⟨h6, h⟩ := He.ba h
  obtain ⟨h7, h⟩ := He.ba h
  obtain ⟨h8, h9⟩ := He.ba h
  have x := xfB_ok h4
  exact ⟨h1, of_decide_eq_true h2, of_decide_eq_true h3, x, ⟨x.ga, x.gg, x.exC, x.hdC, He.eqO_ok h6, He.eqO_ok h7, of_decide_eq_true h8, of_decide_eq_true h9⟩, He.eqO_ok h5⟩
theorem ex_txt {prog : Program} {K : PySem.W.Frag} {d : ExD} {msg : Expr} {file : Str} {p1 p2 q0 q1 qq2 q3 q4 r1 r2 r3 r4 : Pos} (e : initW K d.x = d.val) (c : d.ok file K = true)
    (hA : defArgs d.st = OwnX.iA d.at_ p1 p2) (hB : defBody d.st = OwnX.iB d.at_ msg q0 q1 qq2 q3 q4 r1 r2 r3 r4) (hS : defScope d.st = OwnX.iS d.at_) (sup : OwnX.SupOk msg q0 q1 qq2 q3)
    (ok : (d.at_ == ("self" : Str)) = false ∧ (d.at_ == ("super" : Str)) = false ∧ (d.at_ == ("__class__" : Str)) = false ∧ (d.at_ == ("__debug__" : Str)) = false)
    (bnd : ∀ (qual : Str) (p1 p2 : Pos) (body : List Stmt) (doc pm : Value) (an : Option Addr) (cdv ct : Value) (cc : Addr) (a v : Value), bindArgs (PySem.W.fnX "__init__" qual (OwnX.iA d.at_ p1 p2) body (OwnX.iS d.at_) [("__class__", cc)] .none .none doc pm an cdv ct) ⟨[a, v], []⟩ = pure ([(("self" : Str), a), (d.at_, v)] : List (Str × Value)))
    (top : (prog.main.scope.names.lookup ("super" : Str)).isSome = false) (hfile : ((prog.main.file : Str) == file) = true) : OwnX.Txt prog K d.at_ msg (He.ga K d.x) (iAd K d.x) := by
  unfold ExD.ok at c
  obtain ⟨c1, c⟩ := He.ba c
  obtain ⟨c2, c⟩ := He.ba c
  obtain ⟨c3, c⟩ := He.ba c
  obtain ⟨c4, c⟩ := He.ba c
  obtain ⟨c5, c⟩ := He.ba c
  obtain ⟨c6, c⟩ := He.ba c
  obtain ⟨c7, c⟩ := He.ba c
  obtain ⟨c8, c⟩ := He.ba c
  obtain ⟨c9, c⟩ := He.ba c
  refine ⟨clsB_ok c1, He.eqO_ok c2, He.eqO_ok c3, He.eqO_ok c4, of_decide_eq_true c5, He.eqO_ok c6, He.eqO_ok c7, of_decide_eq_true c8, of_decide_eq_true c9, ok, bnd, top, ?_⟩
  unfold initW at e
  cases q : K.lookup (iAd K d.x) with
  | none => rw [q] at c; cases c
  | some o =>
    obtain ⟨oc, od, dt, osl⟩ := o
    rw [q] at c e
    cases dt with
    | func fd =>
      obtain ⟨n1, n2, n3, n4, n5, n6, n7, n8, n9, n10, n11, n12, n13, n14, n15⟩ := fd
      have e2 : (some (n1, n2, n3, n4, n5, n6, n7.map fun q => (q.1, cellB K q.2 (He.ga K d.x)), n15) : FnI) = (some ("__init__", d.qual, defArgs d.st, FuncBody.stmts (defBody d.st), defScope d.st, mainGlobals, [("__class__", true)], builtinsNs) : FnI) := e
      simp only [Option.some.injEq, Prod.mk.injEq] at e2
      obtain ⟨h1, h2, h3, h4, h5, h6, h7, h8⟩ := e2
      subst h1 h2 h3 h4 h5 h6 h8
      obtain ⟨k1, k⟩ := He.ba c
      obtain ⟨k2, k⟩ := He.ba k
      obtain ⟨k3, k4⟩ := He.ba k
      obtain rfl := noneB_ok k1
      obtain rfl := noneB_ok k2
      obtain ⟨cda, ccl, cdd, vs, ccs, tf, rfl, l1, l2⟩ := fileB_ok k4
      cases n7 with
      | nil => cases h7
      | cons p ps =>
        cases ps with
        | cons _ _ => simp at h7
        | nil =>
          obtain ⟨nm, cc⟩ := p
          simp only [List.map_cons, List.map_nil, List.cons.injEq, Prod.mk.injEq, and_true] at h7
          obtain ⟨h71, h7⟩ := h7
          unfold cellB at h7
          cases q2 : K.lookup cc with
          | none => rw [q2] at h7; cases h7
          | some o2 =>
            obtain ⟨cl, cld, dt2, csl⟩ := o2
            rw [q2] at h7
            cases dt2 with
            | cell ov =>
              cases ov with
              | none => cases h7
              | some v =>
                cases v with
                | ref b =>
                  have hb : b = He.ga K d.x := of_decide_eq_true h7
                  subst hb
                  exact ⟨oc, od, n10, n11, n12, cda, cc, n14, osl, d.qual, p1, p2, q0, q1, qq2, q3, q4, r1, r2, r3, r4, ccl, cl, cdd, cld, vs, ccs, csl, file, tf, by rw [hA, hB, hS, h71], k3, l1, l2, hfile, q2, sup⟩
                | _ => cases h7
            | _ => cases h7
    | _ => cases c
end PyH
/-! PyW: the last layer: operators by name, calls of defs as they stand, the end. -/
namespace PyD
open PySem PySem.Spec L2
section
variable {K : PySem.W.Frag} {W : WX} {ex : Ek} {G : Gm} {O : Ow} {P : D → Ow → Prop} {aa : TA} {X : Cx} {i j : Int}
def rSubA : R2 := rI0 fun i j => .int (i - j)
theorem opA_sub : OpR X (binaryOp .Sub) rSubA := op_sub
theorem wpR_sub (p : P (.int (i - j)) O) : wpR K rSubA (.int i) (.int j) O P := wpR_I0i (f := fun i j => i - j) p
def rMulA : R2 := fun x y H Q => rI CMul (fun i j => .int (i * j)) x y H Q ∨ rI CMulW (fun i j => .int (i * j)) x y H Q
theorem opA_mul : OpR X (binaryOp .Mult) rMulA := OpR.or op_mul op_mulW
theorem wpR_mul (h : CMul i j) (p : P (.int (i * j)) O) : wpR K rMulA (.int i) (.int j) O P := wpR_or1 (wpR_Ii (f := fun i j => i * j) h p)
theorem wpR_mulW (h : CMulW i j) (p : P (.int (i * j)) O) : wpR K rMulA (.int i) (.int j) O P := wpR_or2 (wpR_Ii (f := fun i j => i * j) h p)
def rDivA : R2 := rI CDivW fun i j => .int (i / j)
theorem opA_div : OpR X (binaryOp .FloorDiv) rDivA := op_fdivW
theorem wpR_div (h0 : 0 < j) (h : j < 4611686018427387904) (p : P (.int (i / j)) O) : wpR K rDivA (.int i) (.int j) O P := wpR_Ii (f := fun i j => i / j) (wide_div (b := 62) h0 (by omega) (by decide) (by decide)) p
def rModA : R2 := rI (fun _ j => 0 < j) fun i j => .int (i % j)
theorem opA_mod : OpR X (binaryOp .Mod) rModA := op_mod
theorem wpR_mod (h0 : 0 < j) (p : P (.int (i % j)) O) : wpR K rModA (.int i) (.int j) O P := wpR_Ii (C := fun _ j => 0 < j) (f := fun i j => i % j) h0 p
def rLtA : R2 := rI0 fun i j => .bl (decide (i < j))
theorem opA_lt : OpR X (compareOp .Lt) rLtA := op_lt
theorem wpR_lt (p : P (.bl (decide (i < j))) O) : wpR K rLtA (.int i) (.int j) O P := wpR_I0b (f := fun i j => decide (i < j)) p
def rLeA : R2 := rI0 fun i j => .bl (decide (i ≤ j))
theorem opA_le : OpR X (compareOp .LtE) rLeA := op_le
theorem wpR_le (p : P (.bl (decide (i ≤ j))) O) : wpR K rLeA (.int i) (.int j) O P := wpR_I0b (f := fun i j => decide (i ≤ j)) p
def rGtA : R2 := rI0 fun i j => .bl (decide (j < i))
theorem opA_gt : OpR X (compareOp .Gt) rGtA := op_gt
theorem wpR_gt (p : P (.bl (decide (j < i))) O) : wpR K rGtA (.int i) (.int j) O P := wpR_I0b (f := fun i j => decide (j < i)) p
def rGeA : R2 := rI0 fun i j => .bl (decide (j ≤ i))
theorem opA_ge : OpR X (compareOp .GtE) rGeA := op_ge
theorem wpR_ge (p : P (.bl (decide (j ≤ i))) O) : wpR K rGeA (.int i) (.int j) O P := wpR_I0b (f := fun i j => decide (j ≤ i)) p
def rNegA : V → Hp → VK → Prop := rU fun i => .int (-i)
theorem unA_neg : UnR X (unaryOp .USub) rNegA := un_neg
theorem wpU_neg (p : P (.int (-i)) O) : wpU K rNegA (.int i) O P := wpU_int (f := fun i => -i) p
def rPowA : R2 := rI CPow fun i j => .int (i ^ j.toNat)
theorem opA_pow : OpR X (binaryOp .Pow) rPowA := op_pow
theorem wpR_pow (h : CPow i j) (p : P (.int (i ^ j.toNat)) O) : wpR K rPowA (.int i) (.int j) O P := wpR_Ii (f := fun i j => i ^ j.toNat) h p
theorem callOr {f : Value} {r r' : List V → Hp → VK → Prop} (h : CallR X f r) (h' : CallR X f r') : CallR X f (fun xs H Q => r xs H Q ∨ r' xs H Q) := by
  intro pins s σ H xs us Q I rv q
  rcases q with q | q
  · exact h pins s σ H xs us Q I rv q
  · exact h' pins s σ H xs us Q I rv q
/-- sorted: ints | pairs of ints -/
def rSortA (K : PySem.W.Frag) : List V → Hp → VK → Prop := fun xs H Q => rSortedI K xs H Q ∨ rSortedPQ K xs H Q
theorem callA_sorted : CallR X (.builtin "sorted") (rSortA X.K) := callOr cr_sortedI cr_sortedPQ
theorem wpC_sortAI (fr : Bool) {x : D} {ns : List Int} (hx : seqOf O x (ns.map D.int)) (p : ∀ ms : List Int, ms.Perm ns → ms.Pairwise (· ≤ ·) → lcEnd fr (ms.map D.int) O P) : wpC K (rSortA K) [x] O P := wpC_or1 (wpC_sortI fr hx p)
theorem wpC_sortAP (fr : Bool) {x : D} {ps : List (Int × Int)} (hx : seqOf O x (ps.map prD)) (p : ∀ ms : List (Int × Int), ms.Perm ps → ms.Pairwise lexI → lcEnd fr (ms.map prD) O P) : wpC K (rSortA K) [x] O P := wpC_or2 (wpC_sortP fr hx p)
/-- .. where no exception is let out -/
theorem wpE_call0E {sp : DSp} {dvs : List V} {dds : List D} (hd : ∀ F, Rps K F dds dvs) (h : wpA K W ex aa G O fun ds O1 => sp (ds ++ dds) [] (fun d N => P d (N ++ O1)) (fun _ _ => False)) :
    wpE K W ex (tCallSD (toSp K sp) dvs (fun _ => E0) aa) G O P := fun Z F H σ X S s Q q =>
  h Z F H σ X S s _ fun ds vs F1 H1 O1 S1 e1 r1 p1 => by
    refine ⟨ds ++ dds, F1, [], _, _, S1.call0, fun _ h => (by cases h), r1.app (hd F1), p1, fun d N v F' H' S' r' k => ?_, fun x N dd F' H' S' r' k => k.elim⟩
    obtain ⟨S2, e2⟩ := S1.back0 S'
    exact q d v F' H' _ S2 (e1.trans e2) r' k
end
end PyD
namespace PyH
open PySem PySem.Spec PyProof.Rows L2
/-! ### the facts of the head -/
abbrev AlK : Type := He.AlD × (List FnI × Bool)
def obsK (fa : List He.Fa) (fn : List He.DefD) (xs : List ExD) (ex : List (PySem.W.Frag → Bool)) (K : PySem.W.Frag) : AlK := (He.obsD fa fn K, (xs.map fun d => initW K d.x, ex.all fun f => f K))
def valK (fn : List He.DefD) (xs : List ExD) : AlK := (He.valD fn, (xs.map ExD.val, true))
def SaysK (fa : List He.Fa) (fn : List He.DefD) (xs : List ExD) (ex : List (PySem.W.Frag → Bool)) (K : PySem.W.Frag) : Prop := obsK fa fn xs ex K = valK fn xs
def obsKG (n : Nat) (fa : List He.Fa) (fn : List He.DefD) (xs : List ExD) (ex : List (PySem.W.Frag → Bool)) (g : Addr → Option Obj) : AlK := obsK fa fn xs ex (He.frG g (asK g n))
def hookK (n : Nat) (fa : List He.Fa) (fn : List He.DefD) (xs : List ExD) (ex : List (PySem.W.Frag → Bool)) : PySem.W.Hook where
  α := AlK
  obs := fun s => obsKG n fa fn xs ex s.heap.get?
  val := fun _ => valK fn xs
  says := fun _ h => ∃ K : PySem.W.Frag, K.In h ∧ SaysK fa fn xs ex K
  of := fun _ _ e => ⟨_, He.frG_in, e⟩
  keeps := fun _ _ _ ⟨K, hK, c⟩ k => ⟨K, PySem.W.Frag.In.keeps hK k, c⟩
theorem obsKG_eq {n : Nat} {fa : List He.Fa} {fn : List He.DefD} {xs : List ExD} {ex : List (PySem.W.Frag → Bool)} {g : Addr → Option Obj} {s : Shared} (h : ∀ a, g a = s.heap.get? a) : obsKG n fa fn xs ex g = (hookK n fa fn xs ex).obs s := by
  have e : g = s.heap.get? := funext h
  rw [e] <;> rfl
section
variable {fa : List He.Fa} {fn : List He.DefD} {xs : List ExD} {ex : List (PySem.W.Frag → Bool)} {K : PySem.W.Frag}
theorem SaysK.d (c : SaysK fa fn xs ex K) : He.SaysD fa fn K := congrArg (fun z : AlK => z.1) c
theorem SaysK.exs (c : SaysK fa fn xs ex K) (i : Nat) {f : PySem.W.Frag → Bool} (h : ex[i]? = some f := by rfl) : f K = true := by
  have e : (ex.all fun f => f K) = true := congrArg (fun z : AlK => z.2.2) c
  exact List.all_eq_true.mp e f (List.mem_of_getElem? h)
theorem SaysK.init (c : SaysK fa fn xs ex K) (i : Nat) {d : ExD} (h : xs[i]? = some d := by rfl) : initW K d.x = d.val := by
  have e : (xs.map fun d => initW K d.x) = xs.map ExD.val := congrArg (fun z : AlK => z.2.1) c
  have h1 : (xs.map fun d => initW K d.x)[i]? = some (initW K d.x) := by rw [List.getElem?_map, h]; rfl
  have h2 : (xs.map ExD.val)[i]? = some d.val := by rw [List.getElem?_map, h]; rfl
  rw [e, h2] at h1
  exact (Option.some.inj h1).symm
end
/-! ### a def as it stands, with what it promises -/
structure FE (P : Program) (w : World) (K : PySem.W.Frag) (mg : Str → Option Value) (base : Heap) (k : Nat) (x : Str) (ps : List Str) (dvs : List V) (sp : Sp) : Prop where
  kp : PySem.W.keepIn K (.ref (He.ga K x)) = true
  g : mg x = some (.ref (He.ga K x))
  ok : ∃ (fd : FuncData) (ds : List Value), FnOk P w K mg base (L2.CX P w) k (He.ga K x) fd ps sp ∧ Binds K fd ps ds ∧ Vals dvs ds
section
variable {X : Cx} {k : Nat} {ps : List Str} {sp : Sp} {dvs : List V} {E : L2.St → XK} {x : Str} {p pos : Pos} {e : Expr} {es : List Expr} {t : TA}
theorem pe_fe (F : FE X.prog X.w X.K X.mg X.base k x ps dvs sp) (hr : Room k X.A) (hg : Gl X x) (hx : ∀ σ, PassesAt (L2.CX X.prog X.w) X σ (E σ)) (ha : PA X (e :: es) t) (hdb : (x == ("__debug__" : Str)) = false := by decide)
    (he : starEach (e :: es) X.env = (false, eval e X.env) :: starEach es X.env := by rfl) (hpl : (backTo pos (starEach es X.env)).any (·.1) = false := by rfl) : PE X (.Call (.Name x p) (e :: es) [] pos) (tCallSD sp dvs E t) := by
  obtain ⟨fd, ds, ok, hb, hd⟩ := F.ok
  exact pe_callSD ok hr hg F.g F.kp hb hd hx ha hdb he hpl
theorem passE {X : Cx} (σ : L2.St) : PassesAt (L2.CX X.prog X.w) X σ E0 := fun pins H s e s' I c => passL pins σ H s e s' I c
end
/-- a def's body: from its walk to FE -/
theorem fe_of {P : Program} {w : World} {K : PySem.W.Frag} {mg : Str → Option Value} {base : Heap} {x : Str} {st : Stmt} {N ps : List Str} {k : Nat} {dvs : List V} {sp : PyD.DSp} {ts : WX → TS} (F : ∃ fd, FunD K x x (defArgs st) (defBody st) (defScope st) dvs [] (He.ga K x) fd) (g : mg x = some (.ref (He.ga K x)))
    (S : FnScope N ps (defScope st)) (len : ∀ ds O k x, sp ds O k x → ds.length = ps.length)
    (hb : ∀ fd, FunD K x x (defArgs st) (defBody st) (defScope st) dvs [] (He.ga K x) fd → ∃ ds, Binds K fd ps ds ∧ Vals dvs ds)
    (der : ∀ (cdv : Value) (A : Around) (outer : List Env) (s : Shared) (H : Hp) (E : XK), Room k (A.deeper (envOfC x (defScope st) s.heap.objs.size (He.ga K x) cdv)) →
      PSs (cxOf (L2.CX P w) P w K mg base N x (defScope st) (He.ga K x) cdv A outer s H E) (defBody st) (ts fun cls d _ H => E cls d H))
    (walk : ∀ W ds O k x, sp ds O k x → (∀ p ∈ O, p.loc = false) → PyD.wpS K W (fun e _ O' => x e O') (ts W) (PyD.startD N.length ds) O { nx := fun _ O' => k .non O', rt := k }) : FE P w K mg base (k + 1) x ps dvs (PyD.toSp K sp) := by
  obtain ⟨fd, F⟩ := F
  obtain ⟨ds, hb1, hb2⟩ := hb fd F
  refine ⟨F.kp, g, fd, ds, F.ok S (PyD.toSp_len len) (fun cdv A outer s H vs Q E hr h => ⟨_, der cdv A outer s H E hr, PyD.body_ok walk vs H Q E h⟩), hb1, hb2⟩
theorem binds0 {K : PySem.W.Frag} {x : Str} {st : Stmt} {ps : List Str} {f : Addr} {fd : FuncData} (F : FunD K x x (defArgs st) (defBody st) (defScope st) [] [] f fd)
    (h : ∀ (kV doc pm : Value) (an : Option Addr) (cdv ct : Value) (us : List Value), us.length = ps.length → bindArgs (PySem.W.fnOf x x (defArgs st) (defBody st) (defScope st) .none kV doc pm an cdv ct) ⟨us, []⟩ = pure (ps.zip us)) : ∃ ds, Binds K fd ps ds ∧ Vals [] ds :=
  ⟨[], F.bindsN h, .nil⟩
/-! ### the end: the numbers' bits too -/
theorem walk_ofEB {l : PySem.W.OpenLaw} {n k : Nat} {q : Program} {loose : List Str} {XP : (Str → Option Value) → Heap → Prop} {YP : World → Heap → Prop} {d : DefRec} {CX : World → CXT} {x : Str}
    (hn : l.most = some n) (hn2 : n ≤ sizeLine) (hdf : d.params.defaults = []) (hr : Room k callerA)
    (F : ∀ (w : World) (mg : Str → Option Value) (fa : Addr) (h : Heap), YP w h → h.Ns mainGlobals mg → mg d.name = some (.ref fa) →
      ∃ (K : PySem.W.Frag) (fd : FuncData) (sp : Sp), K.In h ∧ (∀ (s : Shared) (u : Value), BindsTo s fd ⟨[u], []⟩ [(x, u)]) ∧
        (∀ (H : Hp) (a : Addr) (ns : List Int), ns.length ≤ n → (∀ z ∈ ns, Builtin.Int.intBits z ≤ 1048576) → Only H → SqL K H a (ns.map V.int) → sp [.ref a] H (fun v _ => v = .bl true) fun _ _ _ => False) ∧
        ∀ base : Heap, K.In base → base.Ns mainGlobals mg → FnOk l.prog w K mg base (CX w) k fa fd [x] sp)
    (hCX : ∀ (w : World) (H : Hp) (s : Shared) (e : Value) (s' : Shared), CX w [] H s (fun _ _ _ => False) e s' → False) :
    PySem.W.WalkO q loose XP YP l.row.toRowW d [] (fun f vs => PySem.call f vs) := by
  refine Att.attach_callB hn hdf fun w s₀ s₁ mg mb fa o pm cd doc a vs ns G Y ho hd hcd hmg hobj hints hlen hbits hg => ?_
  obtain ⟨K, fd, sp, KX, hb, hsp, hF⟩ := F w mg fa _ Y G.T.g hmg
  exact law_call KX G.T.g G.T.b G.T.builtins G.T.nolimit hg hobj hints (Nat.le_trans hlen hn2) hr hF hb (fun H hO hS => hsp H a ns hlen hbits hO hS) fun H e s' => hCX w H s₁ e s'
end PyH
namespace PyD
open PySem PySem.Spec L2
section
variable {K : PySem.W.Frag} {W : WX} {ex : Ek} {G : Gm} {O : Ow} {P : D → Ow → Prop} {PT : Bool → Ow → Prop} {E : EnD} {tt uu : TT} {t u : TS} {te : TE}
/-- a test whose answer is c, nothing changed -/
theorem wpT_join (c : Bool) (h : wpT K W ex tt G O fun b O' => b = c ∧ O' = O) (p : PT c O) : wpT K W ex tt G O PT := wpT_mono h fun b O' ⟨h1, h2⟩ => by rw [h1, h2]; exact p
theorem wpE_join (d : D) (h : wpE K W ex te G O fun b O' => b = d ∧ O' = O) (p : P d O) : wpE K W ex te G O P := wpE_mono h fun b O' ⟨h1, h2⟩ => by rw [h1, h2]; exact p
theorem wpS_ite (c : Bool) (h : wpT K W ex tt G O fun b O' => b = c ∧ O' = O) (ht : c = true → wpS K W ex t G O E) (hf : c = false → wpS K W ex u G O E) : wpS K W ex (tIfS tt t u) G O E := wpS_if (wpT_join c h ⟨ht, hf⟩)
theorem atI_int {ns : List Int} {i : Int} (h0 : 0 ≤ i) (h1 : i < (ns.length : Int)) : atI (ns.map D.int) i = some (.int (ns.getD i.toNat 0)) := by
  refine atI_nn h0 ?_
  have h : i.toNat < ns.length := by omega
  rw [List.getElem?_map, List.getElem?_eq_getElem h, List.getD_eq_getElem?_getD, List.getElem?_eq_getElem h] <;> rfl
theorem wpR_ixI {x : D} {ns : List Int} {i : Int} (hx : seqOf O x (ns.map D.int)) (h0 : 0 ≤ i) (h1 : i < (ns.length : Int)) (p : P (.int (ns.getD i.toNat 0)) O) : wpR K (rIxLT K) x (.int i) O P := wpR_ixA (.inl hx) (atI_int h0 h1) p
theorem wpC_lenI {x : D} {ns : List Int} (hx : seqOf O x (ns.map D.int)) (p : P (.int (ns.length : Int)) O) : wpC K (rLenA K) [x] O P := wpC_lenL hx (by rw [List.length_map]; exact p)
/-- what stands between two parts -/
theorem wpS_mid (M : Gm → Ow → Prop) (h : wpS K W ex t G O { E with nx := M }) (k : ∀ G' O', M G' O' → wpS K W ex u G' O' E) : wpS K W ex (tSeq t u) G O E := wpS_seq (wpS_mono h k (fun _ _ z => z) (fun _ _ z => z) (fun _ _ z => z))
end
end PyD
/-! PyV: loops and comprehensions over coded lists. -/
namespace PyD
open PySem PySem.Spec L2
section
variable {K : PySem.W.Frag} {W : WX} {ex : Ek} {G : Gm} {O : Ow} {P : D → Ow → Prop} {PT : Bool → Ow → Prop} {E : EnD} {tt uu : TT} {t u : TS} {te tk tv : TE} {aa : TA} {α : Type}
theorem take_fm {β : Type} {as : List α} {f : α → Option β} {i : Nat} {a : α} (h : as[i]? = some a) : (as.take (i + 1)).filterMap f = (as.take i).filterMap f ++ (f a).toList := by
  have hl : i < as.length := (List.getElem?_eq_some_iff.mp h).1
  rw [List.take_succ, h, List.filterMap_append]
  congr 1
theorem map_get {enc : α → D} {as : List α} {i : Nat} {x : D} (h : (as.map enc)[i]? = some x) : ∃ a, as[i]? = some a ∧ x = enc a := by
  rw [List.getElem?_map] at h
  cases e : as[i]? with
  | none => rw [e] at h; cases h
  | some a =>
    rw [e] at h
    exact ⟨a, rfl, (Option.some.inj h).symm⟩
/-- a comprehension over as, coded by enc: f says what each gives; nothing else changes -/
theorem wpE_lcA {wi : TI} {g : TG} {vs : List Nat} (fr : Bool) (as : List α) (enc : α → D) (f : α → Option D) (hg : gIn vs g) (gm : gMono g)
    (h : wpI K W ex wi G O fun xs C O1 => xs = as.map enc ∧ as.length < sizeLine ∧ C O1 ∧
      (∀ (i : Nat) (a : α), as[i]? = some a → wpG K g (enc a) (wipeG G vs) O1 fun G2 O2 => O2 = O1 ∧ wpT K W ex tt G2 O1 fun b O3 => O3 = O1 ∧ (b = true → wpE K W ex te G2 O1 fun y O4 => f a = some y ∧ O4 = O1) ∧ (b = false → f a = none)) ∧
      lcEnd fr (as.filterMap f) O1 P) : wpE K W ex (tLc wi g tt te vs) G O P := by
  refine wpE_lc fr hg gm fun Z F H σ X S s R q => h Z F H σ X S s R fun J xs C F1 H1 O1 S1 e1 w p => q J xs C F1 H1 O1 S1 e1 w ?_
  obtain ⟨rfl, hz, hC, ht, hd⟩ := p
  refine ⟨by rw [List.length_map]; exact hz, fun i acc O' => O' = O1 ∧ acc = (as.take i).filterMap f, ⟨rfl, by simp⟩, fun i acc O' _ hI => by rw [hI.1]; exact hC, fun i x acc O' hx hI => ?_, fun acc O' hI => ?_⟩
  · obtain ⟨rfl, rfl⟩ := hI
    obtain ⟨a, ha, rfl⟩ := map_get hx
    intro Z F H σ v S s r Q q
    refine ht i a ha Z F H σ v S s r Q fun F' H' σ' G' O' S' s' e' p' => q F' H' σ' G' O' S' s' e' ?_
    obtain ⟨rfl, p'⟩ := p'
    refine wpT_mono p' fun b O3 hb => ?_
    obtain ⟨rfl, h1, h2⟩ := hb
    refine ⟨fun hb => wpE_mono (h1 hb) fun y O4 hy => ⟨hy.2, ?_⟩, fun hb => ⟨rfl, ?_⟩⟩
    · rw [take_fm ha, hy.1] <;> rfl
    · rw [take_fm ha, h2 hb]
      simp
  · obtain ⟨rfl, rfl⟩ := hI
    rw [List.length_map, List.take_length]
    exact hd
/-- for over as, coded by enc -/
theorem wpS_forA {wi : TI} {g : TG} (as : List α) (enc : α → D) (I : Nat → Gm → Ow → Prop) (h : wpI K W ex wi G O fun xs C O1 => xs = as.map enc ∧ I 0 G O1 ∧ (∀ i G' O', i ≤ as.length → I i G' O' → C O') ∧
      (∀ (i : Nat) (a : α) G' O', as[i]? = some a → I i G' O' → wpG K g (enc a) G' O' fun G2 O2 => wpS K W ex t G2 O2 { E with nx := I (i + 1), ct := I (i + 1), bk := E.nx }) ∧ ∀ G' O', I as.length G' O' → E.nx G' O') :
    wpS K W ex (tFor wi g t) G O E := by
  refine wpS_for fun Z F H σ X S s R q => h Z F H σ X S s R fun J xs C F1 H1 O1 S1 e1 w p => q J xs C F1 H1 O1 S1 e1 w ?_
  obtain ⟨rfl, h0, hC, ht, hd⟩ := p
  refine ⟨I, h0, fun i G' O' hi hI => hC i G' O' (by rw [List.length_map] at hi; exact hi) hI, fun i x G' O' hx hI => ?_, fun G' O' hI => hd G' O' (by rw [List.length_map] at hI; exact hI)⟩
  obtain ⟨a, ha, rfl⟩ := map_get hx
  exact ht i a G' O' ha hI
/-- .. as told behind the walked thing -/
theorem wpS_forE {wi : TI} {g : TG} (h : wpI K W ex wi G O fun xs C O1 => ∃ (as : List α) (enc : α → D) (I : Nat → Gm → Ow → Prop), xs = as.map enc ∧ I 0 G O1 ∧ (∀ i G' O', i ≤ as.length → I i G' O' → C O') ∧
      (∀ (i : Nat) (a : α) G' O', as[i]? = some a → I i G' O' → wpG K g (enc a) G' O' fun G2 O2 => wpS K W ex t G2 O2 { E with nx := I (i + 1), ct := I (i + 1), bk := E.nx }) ∧ ∀ G' O', I as.length G' O' → E.nx G' O') :
    wpS K W ex (tFor wi g t) G O E := by
  refine wpS_for fun Z F H σ X S s R q => h Z F H σ X S s R fun J xs C F1 H1 O1 S1 e1 w p => q J xs C F1 H1 O1 S1 e1 w ?_
  obtain ⟨as, enc, I, rfl, h0, hC, ht, hd⟩ := p
  refine ⟨I, h0, fun i G' O' hi hI => hC i G' O' (by rw [List.length_map] at hi; exact hi) hI, fun i x G' O' hx hI => ?_, fun G' O' hI => hd G' O' (by rw [List.length_map] at hI; exact hI)⟩
  obtain ⟨a, ha, rfl⟩ := map_get hx
  exact ht i a G' O' ha hI
theorem wpE_lcE {wi : TI} {g : TG} {vs : List Nat} (fr : Bool) (hg : gIn vs g) (gm : gMono g)
    (h : wpI K W ex wi G O fun xs C O1 => ∃ (as : List α) (enc : α → D) (f : α → Option D), xs = as.map enc ∧ as.length < sizeLine ∧ C O1 ∧
      (∀ (i : Nat) (a : α), as[i]? = some a → wpG K g (enc a) (wipeG G vs) O1 fun G2 O2 => O2 = O1 ∧ wpT K W ex tt G2 O1 fun b O3 => O3 = O1 ∧ (b = true → wpE K W ex te G2 O1 fun y O4 => f a = some y ∧ O4 = O1) ∧ (b = false → f a = none)) ∧
      lcEnd fr (as.filterMap f) O1 P) : wpE K W ex (tLc wi g tt te vs) G O P := by
  refine wpE_lc fr hg gm fun Z F H σ X S s R q => h Z F H σ X S s R fun J xs C F1 H1 O1 S1 e1 w p => q J xs C F1 H1 O1 S1 e1 w ?_
  obtain ⟨as, enc, f, rfl, hz, hC, ht, hd⟩ := p
  refine ⟨by rw [List.length_map]; exact hz, fun i acc O' => O' = O1 ∧ acc = (as.take i).filterMap f, ⟨rfl, by simp⟩, fun i acc O' _ hI => by rw [hI.1]; exact hC, fun i x acc O' hx hI => ?_, fun acc O' hI => ?_⟩
  · obtain ⟨rfl, rfl⟩ := hI
    obtain ⟨a, ha, rfl⟩ := map_get hx
    intro Z F H σ v S s r Q q
    refine ht i a ha Z F H σ v S s r Q fun F' H' σ' G' O' S' s' e' p' => q F' H' σ' G' O' S' s' e' ?_
    obtain ⟨rfl, p'⟩ := p'
    refine wpT_mono p' fun b O3 hb => ?_
    obtain ⟨rfl, h1, h2⟩ := hb
    refine ⟨fun hb => wpE_mono (h1 hb) fun y O4 hy => ⟨hy.2, ?_⟩, fun hb => ⟨rfl, ?_⟩⟩
    · rw [take_fm ha, hy.1] <;> rfl
    · rw [take_fm ha, h2 hb]
      simp
  · obtain ⟨rfl, rfl⟩ := hI
    rw [List.length_map, List.take_length]
    exact hd
theorem enumD_map (enc : α → D) (as : List α) : enumD (as.map enc) = as.zipIdx.map fun p => D.tup [.int (p.2 : Nat), enc p.1] := by
  unfold enumD
  rw [List.zipIdx_map, List.map_map]
  rfl
theorem rngD_map {lo : Int} {n : Nat} : rngD lo n = (List.range n).map fun (i : Nat) => D.int (lo + (i : Int)) := rfl
theorem zip_get {as : List α} {i : Nat} {p : α × Nat} (h : as.zipIdx[i]? = some p) : as[i]? = some p.1 ∧ p.2 = i := by
  rw [List.getElem?_zipIdx] at h
  cases e : as[i]? with
  | none => rw [e] at h; cases h
  | some a =>
    rw [e] at h
    have h2 := Option.some.inj h
    rw [← h2]
    exact ⟨rfl, by simp⟩
theorem range_get {n i j : Nat} (h : (List.range n)[i]? = some j) : j = i ∧ i < n := by
  by_cases hi : i < n
  · rw [List.getElem?_range hi] at h
    exact ⟨(Option.some.inj h).symm, hi⟩
  · rw [List.getElem?_eq_none (by simpa using hi)] at h
    cases h
theorem get_D {ns : List Int} {i : Nat} {z : Int} (h : ns[i]? = some z) : ns.getD i 0 = z := by
  rw [List.getD_eq_getElem?_getD, h] <;> rfl
theorem bl_map (as : List α) : as.filterMap (fun _ => some (D.bl true)) = (as.map fun _ => true).map D.bl := by
  induction as with
  | nil => rfl
  | cons a as ih => simp only [List.filterMap_cons, List.map_cons, ih]
theorem all_tt (as : List α) : (as.map fun _ => true).all id = true := by
  rw [List.all_eq_true]
  intro b hb
  obtain ⟨_, _, rfl⟩ := List.mem_map.mp hb
  rfl
theorem wpT_yes (p : PT true O) : wpT K W ex tYes G O PT := fun Z F H σ _ S s Q q => q true F H O S (Ex.refl F) p
theorem wpC_allT {x : D} {as : List α} (hx : seqOf O x (as.filterMap fun _ => some (D.bl true))) (p : P (.bl true) O) : wpC K (rAll K) [x] O P := by
  rw [bl_map] at hx
  refine wpC_all hx ?_
  rw [all_tt]
  exact p
theorem wpPut_I {j : Nat} {a : Addr} {b : Bool} {ns : List Int} {i z : Int} {PO : Ow → Prop} (hj : O[j]? = some ⟨a, b, .lst (ns.map D.int)⟩) (h0 : 0 ≤ i) (hi : i < (ns.length : Int)) (p : PO (O.set j ⟨a, b, L (ns.set i.toNat z)⟩)) : wpPut K rSetL (.mut a) (.int i) (.int z) O PO := by
  refine wpPut_lst hj h0 (by rw [List.length_map]; exact hi) ?_
  have e : (ns.map D.int).set i.toNat (D.int z) = (ns.set i.toNat z).map D.int := by rw [List.map_set]
  rw [e]
  exact p
theorem wpR_eqLd {x y : D} {ns ms : List Int} (hx : viewOf O x (L ns)) (hy : viewOf O y (L ms)) (p : P (.bl (decide (ns = ms))) O) : wpR K (rEqA K) x y O P := wpR_eqL hx hy fun b h => by
  have e : b = decide (ns = ms) := by
    cases b with
    | true => rw [decide_eq_true (h.mp rfl)]
    | false => rw [decide_eq_false fun z => by cases h.mpr z]
  rw [e]
  exact p
theorem wpR_neLd {x y : D} {ns ms : List Int} (hx : viewOf O x (L ns)) (hy : viewOf O y (L ms)) (p : P (.bl (!decide (ns = ms))) O) : wpR K (rNeA K) x y O P := wpR_neL hx hy fun b h => by
  have e : b = decide (ns = ms) := by
    cases b with
    | true => rw [decide_eq_true (h.mp rfl)]
    | false => rw [decide_eq_false fun z => by cases h.mpr z]
  rw [e]
  exact p
theorem wpM_appendI {j : Nat} {a : Addr} {b : Bool} {ns : List Int} {z : Int} (hj : O[j]? = some ⟨a, b, .lst (ns.map D.int)⟩) (hl : ns.length < 1000) (p : P .non (O.set j ⟨a, b, L (ns ++ [z])⟩)) : wpM K rAppend (.mut a) [.int z] O P := by
  refine wpM_append hj (small1000 (by rw [List.length_map]; omega)) ?_
  have e : ns.map D.int ++ [D.int z] = (ns ++ [z]).map D.int := by rw [List.map_append] <;> rfl
  rw [e]
  exact p
theorem eraseIdx_map {β : Type} (f : α → β) : ∀ (xs : List α) (i : Nat), (xs.map f).eraseIdx i = (xs.eraseIdx i).map f
  | [], _ => rfl
  | _ :: _, 0 => rfl
  | x :: xs, i + 1 => by
    show f x :: (xs.map f).eraseIdx i = f x :: (xs.eraseIdx i).map f
    rw [eraseIdx_map f xs i]
theorem wpM_popAtI {j : Nat} {a : Addr} {b : Bool} {ns : List Int} {i : Int} (hj : O[j]? = some ⟨a, b, .lst (ns.map D.int)⟩) (h0 : 0 ≤ i) (hi : i < (ns.length : Int)) (hl : ns.length < 1000) (p : P (.int (ns.getD i.toNat 0)) (O.set j ⟨a, b, L (ns.eraseIdx i.toNat)⟩)) : wpM K rPopAt (.mut a) [.int i] O P := by
  have h : i.toNat < ns.length := by omega
  refine wpM_popAt (y := .int (ns.getD i.toNat 0)) hj h0 (by omega) ?_ ?_
  · rw [List.getElem?_map, List.getElem?_eq_getElem h, List.getD_eq_getElem?_getD, List.getElem?_eq_getElem h] <;> rfl
  · rw [eraseIdx_map]
    exact p
theorem wpM_insertI {j : Nat} {a : Addr} {b : Bool} {ns : List Int} {i z : Int} (hj : O[j]? = some ⟨a, b, .lst (ns.map D.int)⟩) (hl : ns.length < 1000) (h0 : 0 ≤ i) (hb : i < 1000) (p : P .non (O.set j ⟨a, b, L (ns.take i.toNat ++ [z] ++ ns.drop i.toNat)⟩)) : wpM K rInsert (.mut a) [.int i, .int z] O P := by
  refine wpM_insert hj (small1000 (by rw [List.length_map]; omega)) h0 (by omega) ?_
  have e : (ns.map D.int).take i.toNat ++ [D.int z] ++ (ns.map D.int).drop i.toNat = (ns.take i.toNat ++ [z] ++ ns.drop i.toNat).map D.int := by simp [List.map_append, List.map_take, List.map_drop]
  rw [e]
  exact p
theorem wpM_reverseI {j : Nat} {a : Addr} {b : Bool} {ns : List Int} (hj : O[j]? = some ⟨a, b, .lst (ns.map D.int)⟩) (p : P .non (O.set j ⟨a, b, L ns.reverse⟩)) : wpM K rReverse (.mut a) [] O P := by
  refine wpM_reverse hj ?_
  rw [← List.map_reverse]
  exact p
theorem cut_take {ns : List Int} {n : Nat} (h : ns.length ≤ n) : cutD (ns.map D.int) none (some (n : Int)) = ns.map D.int := by
  unfold cutD
  rw [HT.sIx_nat, HT.sIx_none, List.length_map, Nat.min_eq_right h, List.drop_zero, Nat.sub_zero]
  exact List.take_of_length_le (by rw [List.length_map]; exact Nat.le_refl _)
theorem wpC_isX {a C Cc : Addr} {cls : Value} {d : Option Addr} {fs : List (Str × D)} {b : Bool} {f : Str} {v : D} (hc : cls = .ref C) (T : ExcC K C) (hk : PySem.W.kitOne K (.ref C) (.ref Cc) = some b) (p : P (.bl b) O) :
    wpC K (PyE.rIsX K a cls d) [.exc a C d ((f, v) :: fs), .ref Cc] O P := fun Z F H vs S r Q q => by
  cases r with
  | cons ra rb =>
    cases rb with
    | cons rc rd =>
      cases rc
      cases rd
      cases ra with
      | exc1 h1 h2 h3 => exact ⟨C, _, _, .ref Cc, .ref Cc, b, hc, rfl, S.ex _ _ h1, T, rfl, fun _ z => z, hk, q _ _ F H O S (Ex.refl F) (.bl b) p⟩
theorem wpC_isXt {a C : Addr} {n : String} {cls : Value} {d : Option Addr} {fs : List (Str × D)} {b : Bool} {f : Str} {v : D} (hc : cls = .ref C) (T : ExcC K C) (hk : PySem.W.kitOne K (.ref C) (.type n) = some b) (p : P (.bl b) O) :
    wpC K (PyE.rIsX K a cls d) [.exc a C d ((f, v) :: fs), .ty n] O P := fun Z F H vs S r Q q => by
  cases r with
  | cons ra rb =>
    cases rb with
    | cons rc rd =>
      cases rc
      cases rd
      cases ra with
      | exc1 h1 h2 h3 => exact ⟨C, _, _, .ty n, .type n, b, hc, rfl, S.ex _ _ h1, T, rfl, fun _ z => z, hk, q _ _ F H O S (Ex.refl F) (.bl b) p⟩
theorem wpE_xfA {a C C' : Addr} {cls : Value} {d : Option Addr} {f : Str} {fs : List (Str × D)} {v : D} {i : Nat} (hc : cls = .ref C) (hg : G[i]? = some (some (.exc a C' d fs))) (hl : fs.lookup f = some v) (p : P v O) : wpE K W ex (tXf a cls d C f (tVar i)) G O P :=
  PyE.wpE_xf hc (wpE_var hg ⟨rfl, v, hl, p⟩)
theorem wpE_subO {O' : Ow} (hs : O'.Sublist O) (h : wpE K W ex te G O' P) : wpE K W ex te G O P := fun Z F H σ X S s Q q => h Z F H σ X (S.sub hs) s Q q
theorem shal_pr (p : Int × Int) : shalN 1 (prD p) := shalN_tup (n := 0) fun x hx => by
  rcases List.mem_cons.mp hx with rfl | hx
  · exact shalN_int
  · rcases List.mem_cons.mp hx with rfl | hx
    · exact shalN_int
    · cases hx
theorem toPd_pr {p q : Int × Int} (h : toPd (prD p) = toPd (prD q)) : p = q := by
  obtain ⟨a, b⟩ := p
  obtain ⟨c, d⟩ := q
  simp [prD, toPd, toPds] at h
  rw [h.1, h.2]
theorem wpR_eqPd {p q : Int × Int} (h : P (.bl (decide (p = q))) O) : wpR K (rEqA K) (prD p) (prD q) O P := wpR_eqD view_self view_self ((shal_pr p).ok (by decide)) ((shal_pr q).ok (by decide)) fun b hb => by
  have e : b = decide (p = q) := by
    cases b with
    | true => rw [decide_eq_true (toPd_pr (hb.mp rfl))]
    | false => rw [decide_eq_false fun z => by cases hb.mpr (by rw [z])]
  rw [e]
  exact h
end
end PyD
/-! PyZ: the law's own def, and the end. -/
namespace PyH
open PySem PySem.Spec PyProof.Rows L2
theorem fn_ofL {P : Program} {w : World} {K : PySem.W.Frag} {mg : Str → Option Value} {base : Heap} {x : Str} {st : Stmt} {N ps : List Str} {k : Nat} {dvs : List V} {sp : PyD.DSp} {ts : WX → TS} {fd : FuncData} (F : FunD K x x (defArgs st) (defBody st) (defScope st) dvs [] (He.ga K x) fd)
    (S : FnScope N ps (defScope st)) (len : ∀ ds O k x, sp ds O k x → ds.length = ps.length)
    (der : ∀ (cdv : Value) (A : Around) (outer : List Env) (s : Shared) (H : Hp) (E : XK), Room k (A.deeper (envOfC x (defScope st) s.heap.objs.size (He.ga K x) cdv)) →
      PSs (cxOf (L2.CX P w) P w K mg base N x (defScope st) (He.ga K x) cdv A outer s H E) (defBody st) (ts fun cls d _ H => E cls d H))
    (walk : ∀ W ds O k x, sp ds O k x → (∀ p ∈ O, p.loc = false) → PyD.wpS K W (fun e _ O' => x e O') (ts W) (PyD.startD N.length ds) O { nx := fun _ O' => k .non O', rt := k }) : FnOk P w K mg base (L2.CX P w) (k + 1) (He.ga K x) fd ps (PyD.toSp K sp) :=
  F.ok S (PyD.toSp_len len) (fun cdv A outer s H vs Q E hr h => ⟨_, der cdv A outer s H E hr, PyD.body_ok walk vs H Q E h⟩)
theorem cx_no {P : Program} {w : World} (H : Hp) (s : Shared) (e : Value) (s' : Shared) (h : L2.CX P w [] H s (fun _ _ _ => False) e s') : False := by
  obtain ⟨_, _, _, _, _, _, _, _, _, _, _, _, z⟩ := h
  exact z.elim
theorem law_sp {K : PySem.W.Frag} {sp : PyD.DSp} {H : Hp} {a : Addr} {ns : List Int} (hS : SqL K H a (ns.map V.int)) (h : sp [.kl (ns.map PyD.D.int)] [] (fun d _ => d = .bl true) (fun _ _ => False)) : PyD.toSp K sp [.ref a] H (fun v _ => v = .bl true) fun _ _ _ => False := by
  refine ⟨[.kl (ns.map PyD.D.int)], H, [], _, _, ⟨PyD.Ex.refl H, fun _ _ _ e => e, fun _ _ => rfl, fun _ h => (by cases h), fun _ h => (by cases h), .nil⟩, fun _ h => (by cases h), .cons (.kl hS (PyD.Rps.of_ints ns)) .nil, h, fun d O' v F' H' _ r e => ?_, fun _ _ _ _ _ _ _ z => z.elim⟩
  subst e
  cases r
  rfl
end PyH
namespace K06
open PySem PySem.Spec L2
/-! ### the text -/
abbrev PR : Program := PySem.Challenge.pw_quorumdrift_k06_straight_lists
abbrev top (i : Nat) : Stmt := PySem.Challenge.pw_quorumdrift_k06_straight_lists.main.body.getD i (.Pass ⟨0, 0, 0, 0⟩)
def msgOf (s : Stmt) : Expr := match defBody s with
  | .Expr (.Call _ [m] _ _) _ :: _ => m
  | _ => .Constant .none 0 ⟨0, 0, 0, 0⟩
abbrev s_first_wrong_place : Stmt := top 8
abbrev s_check_list : Stmt := top 9
abbrev s_require_same : Stmt := top 10
abbrev s__check_two : Stmt := top 12
abbrev s_index_of : Stmt := top 11
abbrev s_differing_pairs : Stmt := top 14
abbrev s_straight_swaps : Stmt := top 15
abbrev s_swap_at : Stmt := top 13
abbrev s__law_ask : Stmt := top 34
abbrev s__law_differing : Stmt := top 32
abbrev s__law_unlike : Stmt := top 28
abbrev s__law_wrong : Stmt := top 27
abbrev s__law_due : Stmt := top 35
abbrev s__law_exchanged : Stmt := top 30
abbrev s__law_int : Stmt := top 21
abbrev s__law_ints : Stmt := top 23
abbrev s__law_straight : Stmt := top 33
abbrev s__law_tuple : Stmt := top 24
abbrev s__law_tuples : Stmt := top 25
abbrev s__law_asked : Stmt := top 36
abbrev s__law_take : Stmt := top 18
abbrev s__law_bent : Stmt := top 29
abbrev s__law_box : Stmt := top 17
abbrev s__law_order : Stmt := top 20
abbrev s__law_keys : Stmt := top 19
abbrev s__law_second : Stmt := top 31
abbrev s__law_widened : Stmt := top 26
abbrev s_law : Stmt := top 37
abbrev i_InvalidList : Stmt := inClass (top 2) 0
abbrev i_InvalidSwap : Stmt := inClass (top 4) 0
abbrev i_UnlikeKeys : Stmt := inClass (top 3) 0
abbrev N_first_wrong_place : List Str := ["order", "seen", "place", "key"]
theorem sc_first_wrong_place : FnScope N_first_wrong_place ["order"] (defScope s_first_wrong_place) := ⟨rfl, rfl, rfl, by decide +kernel, rfl, by decide +kernel, by decide +kernel⟩
abbrev N_check_list : List Str := ["order", "place"]
theorem sc_check_list : FnScope N_check_list ["order"] (defScope s_check_list) := ⟨rfl, rfl, rfl, by decide +kernel, rfl, by decide +kernel, by decide +kernel⟩
abbrev N_require_same : List Str := ["first", "second", "only_first", "only_second", "key"]
theorem sc_require_same : FnScope N_require_same ["first", "second"] (defScope s_require_same) := ⟨rfl, rfl, rfl, by decide +kernel, rfl, by decide +kernel, by decide +kernel⟩
abbrev N__check_two : List Str := ["first", "second"]
theorem sc__check_two : FnScope N__check_two ["first", "second"] (defScope s__check_two) := ⟨rfl, rfl, rfl, by decide +kernel, rfl, by decide +kernel, by decide +kernel⟩
abbrev N_index_of : List Str := ["order", "place", "key"]
theorem sc_index_of : FnScope N_index_of ["order"] (defScope s_index_of) := ⟨rfl, rfl, rfl, by decide +kernel, rfl, by decide +kernel, by decide +kernel⟩
abbrev N_differing_pairs : List Str := ["first", "second", "place", "index", "x", "y"]
theorem sc_differing_pairs : FnScope N_differing_pairs ["first", "second"] (defScope s_differing_pairs) := ⟨rfl, rfl, rfl, by decide +kernel, rfl, by decide +kernel, by decide +kernel⟩
abbrev N_straight_swaps : List Str := ["first", "second", "place", "order", "swaps", "index", "x", "y"]
theorem sc_straight_swaps : FnScope N_straight_swaps ["first", "second"] (defScope s_straight_swaps) := ⟨rfl, rfl, rfl, by decide +kernel, rfl, by decide +kernel, by decide +kernel⟩
abbrev N_swap_at : List Str := ["order", "index", "swapped"]
theorem sc_swap_at : FnScope N_swap_at ["order", "index"] (defScope s_swap_at) := ⟨rfl, rfl, rfl, by decide +kernel, rfl, by decide +kernel, by decide +kernel⟩
abbrev N__law_ask : List Str := ["_law_way", "_law_first", "_law_second_here", "_law_index", "raised", "_law_told", "_law_good"]
theorem sc__law_ask : FnScope N__law_ask ["_law_way", "_law_first", "_law_second_here", "_law_index"] (defScope s__law_ask) := ⟨rfl, rfl, rfl, by decide +kernel, rfl, by decide +kernel, by decide +kernel⟩
abbrev N__law_differing : List Str := ["_law_first", "_law_second_here", "_law_rows", "_law_x", "_law_y"]
theorem sc__law_differing : FnScope N__law_differing ["_law_first", "_law_second_here"] (defScope s__law_differing) := ⟨rfl, rfl, rfl, by decide +kernel, rfl, by decide +kernel, by decide +kernel⟩
abbrev N__law_unlike : List Str := ["_law_first", "_law_second_here", "_law_one", "_law_two", "_law_key"]
theorem sc__law_unlike : FnScope N__law_unlike ["_law_first", "_law_second_here"] (defScope s__law_unlike) := ⟨rfl, rfl, rfl, by decide +kernel, rfl, by decide +kernel, by decide +kernel⟩
abbrev N__law_wrong : List Str := ["_law_order_here", "_law_place"]
theorem sc__law_wrong : FnScope N__law_wrong ["_law_order_here"] (defScope s__law_wrong) := ⟨rfl, rfl, rfl, by decide +kernel, rfl, by decide +kernel, by decide +kernel⟩
abbrev N__law_due : List Str := ["_law_way", "_law_first", "_law_second_here", "_law_index", "_law_place", "_law_key"]
theorem sc__law_due : FnScope N__law_due ["_law_way", "_law_first", "_law_second_here", "_law_index"] (defScope s__law_due) := ⟨rfl, rfl, rfl, by decide +kernel, rfl, by decide +kernel, by decide +kernel⟩
abbrev N__law_exchanged : List Str := ["_law_order_here", "_law_place", "_law_swapped"]
theorem sc__law_exchanged : FnScope N__law_exchanged ["_law_order_here", "_law_place"] (defScope s__law_exchanged) := ⟨rfl, rfl, rfl, by decide +kernel, rfl, by decide +kernel, by decide +kernel⟩
abbrev N__law_int : List Str := ["_law_value"]
theorem sc__law_int : FnScope N__law_int ["_law_value"] (defScope s__law_int) := ⟨rfl, rfl, rfl, by decide +kernel, rfl, by decide +kernel, by decide +kernel⟩
abbrev N__law_ints : List Str := ["_law_told", "_law_due_here", "_law_value"]
theorem sc__law_ints : FnScope N__law_ints ["_law_told", "_law_due_here"] (defScope s__law_ints) := ⟨rfl, rfl, rfl, by decide +kernel, rfl, by decide +kernel, by decide +kernel⟩
abbrev N__law_straight : List Str := ["_law_first", "_law_second_here", "_law_told", "_law_order_here", "_law_place", "_law_against", "_law_k"]
theorem sc__law_straight : FnScope N__law_straight ["_law_first", "_law_second_here", "_law_told"] (defScope s__law_straight) := ⟨rfl, rfl, rfl, by decide +kernel, rfl, by decide +kernel, by decide +kernel⟩
abbrev N__law_tuple : List Str := ["_law_told", "_law_due_here", "_law_value"]
theorem sc__law_tuple : FnScope N__law_tuple ["_law_told", "_law_due_here"] (defScope s__law_tuple) := ⟨rfl, rfl, rfl, by decide +kernel, rfl, by decide +kernel, by decide +kernel⟩
abbrev N__law_tuples : List Str := ["_law_told", "_law_due_here", "_law_k"]
theorem sc__law_tuples : FnScope N__law_tuples ["_law_told", "_law_due_here"] (defScope s__law_tuples) := ⟨rfl, rfl, rfl, by decide +kernel, rfl, by decide +kernel, by decide +kernel⟩
abbrev N__law_asked : List Str := ["_law_way", "_law_first", "_law_second_here", "_law_index", "_law_handed", "_law_got", "_law_due_here", "_law_swapped"]
theorem sc__law_asked : FnScope N__law_asked ["_law_way", "_law_first", "_law_second_here", "_law_index"] (defScope s__law_asked) := ⟨rfl, rfl, rfl, by decide +kernel, rfl, by decide +kernel, by decide +kernel⟩
abbrev N__law_take : List Str := ["_law_box_here", "_law_size", "_law_rest", "_law_turn", "_law_cells", "_law_cell", "_law_mixed"]
theorem sc__law_take : FnScope N__law_take ["_law_box_here", "_law_size"] (defScope s__law_take) := ⟨rfl, rfl, rfl, by decide +kernel, rfl, by decide +kernel, by decide +kernel⟩
abbrev N__law_bent : List Str := ["_law_box_here", "_law_order_here", "_law_bent_here", "_law_k", "_law_way", "_law_place", "_law_many", "_law_more"]
theorem sc__law_bent : FnScope N__law_bent ["_law_box_here", "_law_order_here"] (defScope s__law_bent) := ⟨rfl, rfl, rfl, by decide +kernel, rfl, by decide +kernel, by decide +kernel⟩
abbrev N__law_box : List Str := ["_law_script"]
theorem sc__law_box : FnScope N__law_box ["_law_script"] (defScope s__law_box) := ⟨rfl, rfl, rfl, by decide +kernel, rfl, by decide +kernel, by decide +kernel⟩
abbrev N__law_order : List Str := ["_law_box_here", "_law_keys_here", "_law_left", "_law_order_here", "_law_k"]
theorem sc__law_order : FnScope N__law_order ["_law_box_here", "_law_keys_here"] (defScope s__law_order) := ⟨rfl, rfl, rfl, by decide +kernel, rfl, by decide +kernel, by decide +kernel⟩
abbrev N__law_keys : List Str := ["_law_box_here", "_law_count", "_law_keys_here", "_law_last", "_law_k"]
theorem sc__law_keys : FnScope N__law_keys ["_law_box_here", "_law_count"] (defScope s__law_keys) := ⟨rfl, rfl, rfl, by decide +kernel, rfl, by decide +kernel, by decide +kernel⟩
abbrev N__law_second : List Str := ["_law_box_here", "_law_first", "_law_way", "_law_second_here", "_law_k"]
theorem sc__law_second : FnScope N__law_second ["_law_box_here", "_law_first"] (defScope s__law_second) := ⟨rfl, rfl, rfl, by decide +kernel, rfl, by decide +kernel, by decide +kernel⟩
abbrev N__law_widened : List Str := ["_law_box_here", "_law_keys_here", "_law_wide", "_law_way", "_law_place"]
theorem sc__law_widened : FnScope N__law_widened ["_law_box_here", "_law_keys_here"] (defScope s__law_widened) := ⟨rfl, rfl, rfl, by decide +kernel, rfl, by decide +kernel, by decide +kernel⟩
abbrev N_law : List Str := ["_law_script", "_law_box_here", "_law_count", "_law_first", "_law_second_here", "_law_near", "_law_far", "_law_index", "_law_way", "_law_place"]
theorem sc_law : FnScope N_law ["_law_script"] (defScope s_law) := ⟨rfl, rfl, rfl, by decide +kernel, rfl, by decide +kernel, by decide +kernel⟩
/-! ### what is known of the written part -/
structure TX (P : Program) (K : PySem.W.Frag) (mg : Str → Option Value) : Prop where
  F_first_wrong_place : ∃ fd, FunD K "first_wrong_place" "first_wrong_place" (defArgs s_first_wrong_place) (defBody s_first_wrong_place) (defScope s_first_wrong_place) [] [] (He.ga K "first_wrong_place") fd
  g_first_wrong_place : mg "first_wrong_place" = some (.ref (He.ga K "first_wrong_place"))
  F_check_list : ∃ fd, FunD K "check_list" "check_list" (defArgs s_check_list) (defBody s_check_list) (defScope s_check_list) [] [] (He.ga K "check_list") fd
  g_check_list : mg "check_list" = some (.ref (He.ga K "check_list"))
  F_require_same : ∃ fd, FunD K "require_same" "require_same" (defArgs s_require_same) (defBody s_require_same) (defScope s_require_same) [] [] (He.ga K "require_same") fd
  g_require_same : mg "require_same" = some (.ref (He.ga K "require_same"))
  F__check_two : ∃ fd, FunD K "_check_two" "_check_two" (defArgs s__check_two) (defBody s__check_two) (defScope s__check_two) [] [] (He.ga K "_check_two") fd
  g__check_two : mg "_check_two" = some (.ref (He.ga K "_check_two"))
  F_index_of : ∃ fd, FunD K "index_of" "index_of" (defArgs s_index_of) (defBody s_index_of) (defScope s_index_of) [] [] (He.ga K "index_of") fd
  g_index_of : mg "index_of" = some (.ref (He.ga K "index_of"))
  F_differing_pairs : ∃ fd, FunD K "differing_pairs" "differing_pairs" (defArgs s_differing_pairs) (defBody s_differing_pairs) (defScope s_differing_pairs) [] [] (He.ga K "differing_pairs") fd
  g_differing_pairs : mg "differing_pairs" = some (.ref (He.ga K "differing_pairs"))
  F_straight_swaps : ∃ fd, FunD K "straight_swaps" "straight_swaps" (defArgs s_straight_swaps) (defBody s_straight_swaps) (defScope s_straight_swaps) [] [] (He.ga K "straight_swaps") fd
  g_straight_swaps : mg "straight_swaps" = some (.ref (He.ga K "straight_swaps"))
  F_swap_at : ∃ fd, FunD K "swap_at" "swap_at" (defArgs s_swap_at) (defBody s_swap_at) (defScope s_swap_at) [] [] (He.ga K "swap_at") fd
  g_swap_at : mg "swap_at" = some (.ref (He.ga K "swap_at"))
  F__law_ask : ∃ fd, FunD K "_law_ask" "_law_ask" (defArgs s__law_ask) (defBody s__law_ask) (defScope s__law_ask) [] [] (He.ga K "_law_ask") fd
  g__law_ask : mg "_law_ask" = some (.ref (He.ga K "_law_ask"))
  F__law_differing : ∃ fd, FunD K "_law_differing" "_law_differing" (defArgs s__law_differing) (defBody s__law_differing) (defScope s__law_differing) [] [] (He.ga K "_law_differing") fd
  g__law_differing : mg "_law_differing" = some (.ref (He.ga K "_law_differing"))
  F__law_unlike : ∃ fd, FunD K "_law_unlike" "_law_unlike" (defArgs s__law_unlike) (defBody s__law_unlike) (defScope s__law_unlike) [] [] (He.ga K "_law_unlike") fd
  g__law_unlike : mg "_law_unlike" = some (.ref (He.ga K "_law_unlike"))
  F__law_wrong : ∃ fd, FunD K "_law_wrong" "_law_wrong" (defArgs s__law_wrong) (defBody s__law_wrong) (defScope s__law_wrong) [] [] (He.ga K "_law_wrong") fd
  g__law_wrong : mg "_law_wrong" = some (.ref (He.ga K "_law_wrong"))
  F__law_due : ∃ fd, FunD K "_law_due" "_law_due" (defArgs s__law_due) (defBody s__law_due) (defScope s__law_due) [] [] (He.ga K "_law_due") fd
  g__law_due : mg "_law_due" = some (.ref (He.ga K "_law_due"))
  F__law_exchanged : ∃ fd, FunD K "_law_exchanged" "_law_exchanged" (defArgs s__law_exchanged) (defBody s__law_exchanged) (defScope s__law_exchanged) [] [] (He.ga K "_law_exchanged") fd
  g__law_exchanged : mg "_law_exchanged" = some (.ref (He.ga K "_law_exchanged"))
  F__law_int : ∃ fd, FunD K "_law_int" "_law_int" (defArgs s__law_int) (defBody s__law_int) (defScope s__law_int) [] [] (He.ga K "_law_int") fd
  g__law_int : mg "_law_int" = some (.ref (He.ga K "_law_int"))
  F__law_ints : ∃ fd, FunD K "_law_ints" "_law_ints" (defArgs s__law_ints) (defBody s__law_ints) (defScope s__law_ints) [] [] (He.ga K "_law_ints") fd
  g__law_ints : mg "_law_ints" = some (.ref (He.ga K "_law_ints"))
  F__law_straight : ∃ fd, FunD K "_law_straight" "_law_straight" (defArgs s__law_straight) (defBody s__law_straight) (defScope s__law_straight) [] [] (He.ga K "_law_straight") fd
  g__law_straight : mg "_law_straight" = some (.ref (He.ga K "_law_straight"))
  F__law_tuple : ∃ fd, FunD K "_law_tuple" "_law_tuple" (defArgs s__law_tuple) (defBody s__law_tuple) (defScope s__law_tuple) [] [] (He.ga K "_law_tuple") fd
  g__law_tuple : mg "_law_tuple" = some (.ref (He.ga K "_law_tuple"))
  F__law_tuples : ∃ fd, FunD K "_law_tuples" "_law_tuples" (defArgs s__law_tuples) (defBody s__law_tuples) (defScope s__law_tuples) [] [] (He.ga K "_law_tuples") fd
  g__law_tuples : mg "_law_tuples" = some (.ref (He.ga K "_law_tuples"))
  F__law_asked : ∃ fd, FunD K "_law_asked" "_law_asked" (defArgs s__law_asked) (defBody s__law_asked) (defScope s__law_asked) [] [] (He.ga K "_law_asked") fd
  g__law_asked : mg "_law_asked" = some (.ref (He.ga K "_law_asked"))
  F__law_take : ∃ fd, FunD K "_law_take" "_law_take" (defArgs s__law_take) (defBody s__law_take) (defScope s__law_take) [] [] (He.ga K "_law_take") fd
  g__law_take : mg "_law_take" = some (.ref (He.ga K "_law_take"))
  F__law_bent : ∃ fd, FunD K "_law_bent" "_law_bent" (defArgs s__law_bent) (defBody s__law_bent) (defScope s__law_bent) [] [] (He.ga K "_law_bent") fd
  g__law_bent : mg "_law_bent" = some (.ref (He.ga K "_law_bent"))
  F__law_box : ∃ fd, FunD K "_law_box" "_law_box" (defArgs s__law_box) (defBody s__law_box) (defScope s__law_box) [] [] (He.ga K "_law_box") fd
  g__law_box : mg "_law_box" = some (.ref (He.ga K "_law_box"))
  F__law_order : ∃ fd, FunD K "_law_order" "_law_order" (defArgs s__law_order) (defBody s__law_order) (defScope s__law_order) [] [] (He.ga K "_law_order") fd
  g__law_order : mg "_law_order" = some (.ref (He.ga K "_law_order"))
  F__law_keys : ∃ fd, FunD K "_law_keys" "_law_keys" (defArgs s__law_keys) (defBody s__law_keys) (defScope s__law_keys) [] [] (He.ga K "_law_keys") fd
  g__law_keys : mg "_law_keys" = some (.ref (He.ga K "_law_keys"))
  F__law_second : ∃ fd, FunD K "_law_second" "_law_second" (defArgs s__law_second) (defBody s__law_second) (defScope s__law_second) [] [] (He.ga K "_law_second") fd
  g__law_second : mg "_law_second" = some (.ref (He.ga K "_law_second"))
  F__law_widened : ∃ fd, FunD K "_law_widened" "_law_widened" (defArgs s__law_widened) (defBody s__law_widened) (defScope s__law_widened) [] [] (He.ga K "_law_widened") fd
  g__law_widened : mg "_law_widened" = some (.ref (He.ga K "_law_widened"))
  F_law : ∃ fd, FunD K "law" "law" (defArgs s_law) (defBody s_law) (defScope s_law) [] [] (He.ga K "law") fd
  g_law : mg "law" = some (.ref (He.ga K "law"))
  g_DriftError : mg "DriftError" = some (.ref (He.ga K "DriftError"))
  g_InvalidList : mg "InvalidList" = some (.ref (He.ga K "InvalidList"))
  g_InvalidSwap : mg "InvalidSwap" = some (.ref (He.ga K "InvalidSwap"))
  g_UnlikeKeys : mg "UnlikeKeys" = some (.ref (He.ga K "UnlikeKeys"))
  n_ValueError : mg "ValueError" = none
  n_abs : mg "abs" = none
  n_all : mg "all" = none
  n_bool : mg "bool" = none
  n_enumerate : mg "enumerate" = none
  n_int : mg "int" = none
  n_isinstance : mg "isinstance" = none
  n_len : mg "len" = none
  n_list : mg "list" = none
  n_max : mg "max" = none
  n_min : mg "min" = none
  n_range : mg "range" = none
  n_sorted : mg "sorted" = none
  n_super : mg "super" = none
  n_tuple : mg "tuple" = none
  i_MAX_KEY : ∃ t, mg "MAX_KEY" = some (.int 9999 t)
  i_MAX_KEYS : ∃ t, mg "MAX_KEYS" = some (.int 12 t)
  tx_InvalidList : OwnX.Txt P K "place" (msgOf i_InvalidList) (He.ga K "InvalidList") (PyH.iAd K "InvalidList")
  tx_InvalidSwap : OwnX.Txt P K "step" (msgOf i_InvalidSwap) (He.ga K "InvalidSwap") (PyH.iAd K "InvalidSwap")
  tx_UnlikeKeys : OwnX.Txt P K "key" (msgOf i_UnlikeKeys) (He.ga K "UnlikeKeys") (PyH.iAd K "UnlikeKeys")
  x_InvalidList : PyH.ExC2 K (He.ga K "InvalidList") "place"
  x_InvalidSwap : PyH.ExC2 K (He.ga K "InvalidSwap") "step"
  x_UnlikeKeys : PyH.ExC2 K (He.ga K "UnlikeKeys") "key"
  exm_InvalidList_InvalidList : PySem.W.exmOne K (.ref (He.ga K "InvalidList")) (.ref (He.ga K "InvalidList")) = some true
  exm_InvalidList_InvalidSwap : PySem.W.exmOne K (.ref (He.ga K "InvalidList")) (.ref (He.ga K "InvalidSwap")) = some false
  exm_InvalidList_UnlikeKeys : PySem.W.exmOne K (.ref (He.ga K "InvalidList")) (.ref (He.ga K "UnlikeKeys")) = some false
  exm_InvalidSwap_InvalidList : PySem.W.exmOne K (.ref (He.ga K "InvalidSwap")) (.ref (He.ga K "InvalidList")) = some false
  exm_InvalidSwap_InvalidSwap : PySem.W.exmOne K (.ref (He.ga K "InvalidSwap")) (.ref (He.ga K "InvalidSwap")) = some true
  exm_InvalidSwap_UnlikeKeys : PySem.W.exmOne K (.ref (He.ga K "InvalidSwap")) (.ref (He.ga K "UnlikeKeys")) = some false
  exm_UnlikeKeys_InvalidList : PySem.W.exmOne K (.ref (He.ga K "UnlikeKeys")) (.ref (He.ga K "InvalidList")) = some false
  exm_UnlikeKeys_InvalidSwap : PySem.W.exmOne K (.ref (He.ga K "UnlikeKeys")) (.ref (He.ga K "InvalidSwap")) = some false
  exm_UnlikeKeys_UnlikeKeys : PySem.W.exmOne K (.ref (He.ga K "UnlikeKeys")) (.ref (He.ga K "UnlikeKeys")) = some true
  kit_InvalidList_DriftError : PySem.W.kitOne K (.ref (He.ga K "InvalidList")) (.ref (He.ga K "DriftError")) = some true
  kit_InvalidList_InvalidSwap : PySem.W.kitOne K (.ref (He.ga K "InvalidList")) (.ref (He.ga K "InvalidSwap")) = some false
  kit_InvalidList_UnlikeKeys : PySem.W.kitOne K (.ref (He.ga K "InvalidList")) (.ref (He.ga K "UnlikeKeys")) = some false
  kit_InvalidList_ValueError : PySem.W.kitOne K (.ref (He.ga K "InvalidList")) (.type "ValueError") = some true
  kit_InvalidSwap_DriftError : PySem.W.kitOne K (.ref (He.ga K "InvalidSwap")) (.ref (He.ga K "DriftError")) = some true
  kit_InvalidSwap_ValueError : PySem.W.kitOne K (.ref (He.ga K "InvalidSwap")) (.type "ValueError") = some true
  kit_UnlikeKeys_DriftError : PySem.W.kitOne K (.ref (He.ga K "UnlikeKeys")) (.ref (He.ga K "DriftError")) = some true
  kit_UnlikeKeys_InvalidSwap : PySem.W.kitOne K (.ref (He.ga K "UnlikeKeys")) (.ref (He.ga K "InvalidSwap")) = some false
  kit_UnlikeKeys_ValueError : PySem.W.kitOne K (.ref (He.ga K "UnlikeKeys")) (.type "ValueError") = some true
end K06
/-! K06Spec: what each def of the law and of the program answers. -/
namespace K06
open PySem PySem.Spec L2 PyD PyT PyE PyH
/-! ### lists of keys -/
def bad (ns : List Int) (i : Nat) : Bool := decide (12 ≤ i) || (decide (ns.getD i 0 < 0) || (decide (9999 < ns.getD i 0) || decide (ns.getD i 0 ∈ ns.take i)))
def wrong (ns : List Int) : Option Nat := (List.range ns.length).find? (bad ns)
def only (a b : List Int) : List Int := a.filter fun z => !decide (z ∈ b)
def unlK (a b : List Int) : Option Int := (only a b ++ only b a).min?
def exch (a : List Int) (i : Nat) : List Int := (a.set i (a.getD (i + 1) 0)).set (i + 1) (a.getD i 0)
def srt (a : List Int) : List Int := a.mergeSort fun x y => decide (x ≤ y)
def diffs (a b : List Int) : List (Int × Int) := (srt a).flatMap fun x => ((srt a).filter fun y => decide (a.idxOf x < a.idxOf y) && decide (b.idxOf y < b.idxOf x)).map fun y => (x, y)
/-- the least place whose two keys stand in the other order in b -/
def turnAt (b o : List Int) (i : Nat) : Prop := i + 1 < o.length ∧ b.idxOf (o.getD (i + 1) 0) < b.idxOf (o.getD i 0) ∧ ∀ j, j < i → ¬ b.idxOf (o.getD (j + 1) 0) < b.idxOf (o.getD j 0)
inductive Gr (b : List Int) : List Int → List Int → Prop where
  | done : Gr b b []
  | step {o : List Int} {i : Nat} {sw : List Int} : turnAt b o i → Gr b (exch o i) sw → Gr b o ((i : Int) :: sw)
inductive Rs where
  | ok | bad (p : Nat) | unl (m : Int) | swp
def res1 (a : List Int) : Rs := match wrong a with
  | some p => .bad p
  | none => .ok
def resS (a : List Int) (i : Int) : Rs := match wrong a with
  | some p => .bad p
  | none => if i < 0 ∨ (a.length : Int) - 2 < i then .swp else .ok
def res2 (a b : List Int) : Rs := match wrong a with
  | some p => .bad p
  | none => match wrong b with
    | some p => .bad p
    | none => match unlK a b with
      | some m => .unl m
      | none => .ok
def resW (w : Int) (a b : List Int) (i : Int) : Rs := if w = 0 then res1 a else if w = 1 then resS a i else res2 a b
/-- few small keys -/
def Sm (a : List Int) : Prop := a.length ≤ 16 ∧ ∀ z ∈ a, -1000000 ≤ z ∧ z ≤ 1000000
/-! ### over data -/
abbrev Cl_ (K : PySem.W.Frag) (s : Str) : Addr := He.ga K s
def oN : Option Nat → D
  | none => .non
  | some p => .int (p : Int)
def oI : Option Int → D
  | none => .non
  | some p => .int p
def exOf (K : PySem.W.Frag) : Rs → Xc
  | .bad p => ⟨He.ga K "InvalidList", [("place", .int (p : Int))]⟩
  | .unl m => ⟨He.ga K "UnlikeKeys", [("key", .int m)]⟩
  | _ => ⟨He.ga K "InvalidSwap", [("step", .int 0)]⟩
def rsp (K : PySem.W.Frag) (r : Rs) (k : Prop) (x : Xk) : Prop := (r = .ok → k) ∧ (r ≠ .ok → x (exOf K r) [])
def idxD (a : List Int) : List (Key × D) := a.zipIdx.map fun p => (.inl p.1, .int (p.2 : Int))
abbrev prs (ps : List (Int × Int)) : D := .lst (ps.map PyD.prD)
def nmOf : Rs → Str
  | .ok => "told"
  | .bad _ => "list"
  | .unl _ => "unlike"
  | .swp => "swap"
def vlOf : Rs → D
  | .bad p => .int (p : Int)
  | .unl m => .int m
  | _ => .int 0
def boxD (cs : List Int) (r t : Int) : D := .lst [L cs, .int r, .int t]
def Bx (d : D) : Prop := ∃ cs r t, d = boxD cs r t ∧ 0 ≤ r ∧ 0 ≤ t ∧ cs.length ≤ 63
/-! ### the program -/
def sp_first_wrong_place (K : PySem.W.Frag) : DSp := fun ds O k x => ∃ a, (ds = [L a] ∧ O = []) ∧ Sm a ∧ k (oN (wrong a)) []
def sp_check_list (K : PySem.W.Frag) : DSp := fun ds O k x => ∃ a, (ds = [L a] ∧ O = []) ∧ Sm a ∧ rsp K (res1 a) (k .non []) x
def sp_require_same (K : PySem.W.Frag) : DSp := fun ds O k x => ∃ a b, (ds = [L a, L b] ∧ O = []) ∧ Sm a ∧ Sm b ∧ (unlK a b = none → k .non []) ∧ ∀ m, unlK a b = some m → x (exOf K (.unl m)) []
def sp__check_two (K : PySem.W.Frag) : DSp := fun ds O k x => ∃ a b, (ds = [L a, L b] ∧ O = []) ∧ Sm a ∧ Sm b ∧ rsp K (res2 a b) (k .non []) x
def sp_index_of (K : PySem.W.Frag) : DSp := fun ds O k x => ∃ a, (ds = [L a] ∧ O = []) ∧ Sm a ∧ a.Nodup ∧ k (.dK (idxD a)) []
def sp_differing_pairs (K : PySem.W.Frag) : DSp := fun ds O k x => ∃ a b, (ds = [L a, L b] ∧ O = []) ∧ Sm a ∧ Sm b ∧ rsp K (res2 a b) (k (prs (diffs a b)) []) x
def sp_straight_swaps (K : PySem.W.Frag) : DSp := fun ds O k x => ∃ a b, (ds = [L a, L b] ∧ O = []) ∧ Sm a ∧ Sm b ∧ rsp K (res2 a b) (∀ sw, Gr b a sw → k (L sw) []) x
def sp_swap_at (K : PySem.W.Frag) : DSp := fun ds O k x => ∃ a i, (ds = [L a, .int i] ∧ O = []) ∧ Sm a ∧ rsp K (resS a i) (∀ c, k (.mut c) [⟨c, true, L (exch a i.toNat)⟩]) x
/-! ### the law -/
def sp__law_box (K : PySem.W.Frag) : DSp := fun ds O k x => ∃ ns : List Int, (ds = [.kl (ns.map D.int)] ∧ O = []) ∧ ns.length ≤ 63 ∧ ∀ c d, Bx d → k (.mut c) [⟨c, true, d⟩]
def sp__law_take (K : PySem.W.Frag) : DSp := fun ds O k x => ∃ a d n, (ds = [.mut a, .int n] ∧ O = [⟨a, false, d⟩]) ∧ Bx d ∧ 1 ≤ n ∧ n < 1099511627776 ∧ ∀ v d', 0 ≤ v → v < n → Bx d' → k (.int v) [⟨a, false, d'⟩]
def sp__law_keys (K : PySem.W.Frag) : DSp := fun ds O k x => ∃ a d n, (ds = [.mut a, .int n] ∧ O = [⟨a, false, d⟩]) ∧ Bx d ∧ 0 ≤ n ∧ n ≤ 12 ∧ ∀ (ks : List Int) d', Bx d' → (ks.length : Int) = n → ks.Nodup → (∀ z ∈ ks, 0 ≤ z ∧ z ≤ 6999) → k (L ks) [⟨a, false, d'⟩]
def sp__law_order (K : PySem.W.Frag) : DSp := fun ds O k x => ∃ a d ns, (ds = [.mut a, L ns] ∧ O = [⟨a, false, d⟩]) ∧ Bx d ∧ ns.length ≤ 63 ∧ ∀ (ks : List Int) d', Bx d' → ks.Perm ns → k (L ks) [⟨a, false, d'⟩]
def sp__law_widened (K : PySem.W.Frag) : DSp := fun ds O k x => ∃ a d ns, (ds = [.mut a, L ns] ∧ O = [⟨a, false, d⟩]) ∧ Bx d ∧ ns.length ≤ 12 ∧ ns.Nodup ∧ (∀ z ∈ ns, 0 ≤ z ∧ z ≤ 6999) ∧ ∀ (ks : List Int) d', Bx d' → ks.length = ns.length → (∀ z ∈ ks, 0 ≤ z ∧ z ≤ 9999) → k (L ks) [⟨a, false, d'⟩]
def sp__law_second (K : PySem.W.Frag) : DSp := fun ds O k x => ∃ a d ns, (ds = [.mut a, L ns] ∧ O = [⟨a, false, d⟩]) ∧ Bx d ∧ Sm ns ∧ ∀ (ks : List Int) d', Bx d' → Sm ks → k (L ks) [⟨a, false, d'⟩]
def sp__law_bent (K : PySem.W.Frag) : DSp := fun ds O k x => ∃ a d ns, (ds = [.mut a, L ns] ∧ O = [⟨a, false, d⟩]) ∧ Bx d ∧ Sm ns ∧ ∀ (ks : List Int) d', Bx d' → Sm ks → k (L ks) [⟨a, false, d'⟩]
def sp__law_exchanged (K : PySem.W.Frag) : DSp := fun ds O k x => ∃ a i, (ds = [L a, .int i] ∧ O = []) ∧ 0 ≤ i ∧ i + 1 < (a.length : Int) ∧ k (L (exch a i.toNat)) []
def sp__law_int (K : PySem.W.Frag) : DSp := fun ds O k x => ∃ i, (ds = [.int i] ∧ O = []) ∧ k (.bl true) []
def sp__law_ints (K : PySem.W.Frag) : DSp := fun ds O k x => ∃ c a, (ds = [.mut c, L a] ∧ O = [⟨c, false, L a⟩]) ∧ a.length ≤ 63 ∧ k (.bl true) [⟨c, false, L a⟩]
def sp__law_tuple (K : PySem.W.Frag) : DSp := fun ds O k x => ∃ p, (ds = [PyD.prD p, PyD.prD p] ∧ O = []) ∧ k (.bl true) []
def sp__law_tuples (K : PySem.W.Frag) : DSp := fun ds O k x => ∃ ps, (ds = [prs ps, prs ps] ∧ O = []) ∧ ps.length ≤ 1000 ∧ k (.bl true) []
def sp__law_differing (K : PySem.W.Frag) : DSp := fun ds O k x => ∃ a b, (ds = [L a, L b] ∧ O = []) ∧ a.length ≤ 16 ∧ a.Perm b ∧ k (prs (diffs a b)) []
def sp__law_straight (K : PySem.W.Frag) : DSp := fun ds O k x => ∃ a b sw, (ds = [L a, L b, L sw] ∧ O = []) ∧ a.length ≤ 16 ∧ a.Nodup ∧ a.Perm b ∧ Gr b a sw ∧ k (.bl true) []
def sp__law_wrong (K : PySem.W.Frag) : DSp := fun ds O k x => ∃ a, (ds = [L a] ∧ O = []) ∧ Sm a ∧ k (oN (wrong a)) []
def sp__law_unlike (K : PySem.W.Frag) : DSp := fun ds O k x => ∃ a b, (ds = [L a, L b] ∧ O = []) ∧ Sm a ∧ Sm b ∧ k (oI (unlK a b)) []
def sp__law_due (K : PySem.W.Frag) : DSp := fun ds O k x => ∃ w a b i, (ds = [.int w, L a, L b, .int i] ∧ O = []) ∧ 0 ≤ w ∧ w ≤ 3 ∧ Sm a ∧ Sm b ∧ k (.tup [.str (nmOf (resW w a b i)), vlOf (resW w a b i)]) []
def sp__law_ask (K : PySem.W.Frag) : DSp := fun ds O k x => ∃ w a b i, (ds = [.int w, L a, L b, .int i] ∧ O = []) ∧ 0 ≤ w ∧ w ≤ 3 ∧ Sm a ∧ Sm b ∧ (resW w a b i ≠ .ok → k (.tup [.str (nmOf (resW w a b i)), vlOf (resW w a b i), .bl true]) []) ∧
  (resW w a b i = .ok → (w = 0 → k (.tup [.str "told", .non, .bl true]) []) ∧ (w = 1 → ∀ c, k (.tup [.str "told", .mut c, .bl true]) [⟨c, true, L (exch a i.toNat)⟩]) ∧ (w = 2 → k (.tup [.str "told", prs (diffs a b), .bl true]) []) ∧ (w = 3 → ∀ sw, Gr b a sw → k (.tup [.str "told", L sw, .bl true]) []))
def sp__law_asked (K : PySem.W.Frag) : DSp := fun ds O k x => ∃ w a b i, (ds = [.int w, L a, L b, .int i] ∧ O = []) ∧ 0 ≤ w ∧ w ≤ 3 ∧ Sm a ∧ Sm b ∧ k (.bl true) []
def sp_law (K : PySem.W.Frag) : DSp := fun ds O k x => ∃ ns : List Int, (ds = [.kl (ns.map D.int)] ∧ O = []) ∧ ns.length ≤ 63 ∧ k (.bl true) []
end K06
namespace K06
open PySem PySem.Spec L2 PyD PyT PyE PyH
/-! ### readings -/
def t_first_wrong_place (K : PySem.W.Frag) (W : WX) : TS :=
  tSeq (tAsg (tDNewK) (gName 1))
    (tSeq (tFor (iEnum K (tCons (tVar 0) (tNil))) (gTup K 2 (gCons (gName 2) (gCons (gName 3) (gNil)))) (tSeq (tIfS (tOr (tTest (tOp rGeA (tVar 2) (tC (.int 12)))) (tOr (tTest (tOp rLtA (tVar 3) (tC (.int 0)))) (tOr (tTest (tOp rGtA (tVar 3) (tC (.int 9999)))) (tB (tDIn (tVar 3) (tVar 1)))))) (tRet (tVar 2)) (tNext))
    (sDPut (tVar 1) (tVar 3) (tC (.bl true)))))
    (tRet (tC .non)))
def t_check_list (K : PySem.W.Frag) (W : WX) : TS :=
  tSeq (tAsg (tCallSD (toSp K (sp_first_wrong_place K)) [] (WE W) (tCons (tVar 0) (tNil))) (gName 1))
    (tIfS (tTest (tOp rNotN (tVar 1) (tC .non))) (tRaiseX (He.ga K "InvalidList") "place" fmtI W (tCons (tVar 1) (tNil))) (tNext))
def t_require_same (K : PySem.W.Frag) (W : WX) : TS :=
  tSeq (tAsg (tLc (iList K (tVar 0)) (gName 4) (tTest (tOp (rIn K true) (tVar 4) (tVar 1))) (tVar 4) [4]) (gName 2))
    (tSeq (tAsg (tLc (iList K (tVar 1)) (gName 4) (tTest (tOp (rIn K true) (tVar 4) (tVar 0))) (tVar 4) [4]) (gName 3))
    (tIfS (tOr (tTru K (tVar 2)) (tTru K (tVar 3))) (tRaiseX (He.ga K "UnlikeKeys") "key" fmtI W (tCons (tCB (rMin K) (tCons (tOp rAddA (tVar 2) (tVar 3)) (tNil))) (tNil))) (tNext)))
def t__check_two (K : PySem.W.Frag) (W : WX) : TS :=
  tSeq (tDrop (tCallSD (toSp K (sp_check_list K)) [] (WE W) (tCons (tVar 0) (tNil))))
    (tSeq (tDrop (tCallSD (toSp K (sp_check_list K)) [] (WE W) (tCons (tVar 1) (tNil))))
    (tDrop (tCallSD (toSp K (sp_require_same K)) [] (WE W) (tCons (tVar 0) (tCons (tVar 1) (tNil))))))
def t_index_of (K : PySem.W.Frag) (W : WX) : TS :=
  tRet (tDc (iEnum K (tCons (tVar 0) (tNil))) (gTup K 2 (gCons (gName 1) (gCons (gName 2) (gNil)))) (tYes) (tVar 2) (tVar 1) [1, 2])
def t_differing_pairs (K : PySem.W.Frag) (W : WX) : TS :=
  tSeq (tDrop (tCallSD (toSp K (sp__check_two K)) [] (WE W) (tCons (tVar 0) (tCons (tVar 1) (tNil)))))
    (tSeq (tAsg (tCallSD (toSp K (sp_index_of K)) [] (WE W) (tCons (tVar 1) (tNil))) (gName 2))
    (tRet (tCB (rSortA K) (tCons (tLc2 (iEnum K (tCons (tVar 0) (tNil))) (gTup K 2 (gCons (gName 3) (gCons (gName 4) (gNil)))) (tYes) (iList K (L2.tSl (rSlL K) (tVar 0) (tPart (tOp rAddA (tVar 3) (tC (.int 1)))) (tNoPart))) (gName 5) (tTest (tOp rLtA (tDGet (tVar 2) (tVar 5)) (tDGet (tVar 2) (tVar 4)))) (tTup (tCons (tVar 4) (tCons (tVar 5) (tNil)))) [3, 4, 5] [5]) (tNil)))))
def t_straight_swaps (K : PySem.W.Frag) (W : WX) : TS :=
  tSeq (tDrop (tCallSD (toSp K (sp__check_two K)) [] (WE W) (tCons (tVar 0) (tCons (tVar 1) (tNil)))))
    (tSeq (tAsg (tCallSD (toSp K (sp_index_of K)) [] (WE W) (tCons (tVar 1) (tNil))) (gName 2))
    (tSeq (tAsg (tCB (rListA K) (tCons (tVar 0) (tNil))) (gName 3))
    (tSeq (tAsg (tLst (tNil)) (gName 4))
    (tSeq (tAsg (tC (.int 0)) (gName 5))
    (tSeq (tWhile (tTest (tOp rLtA (tOp rAddA (tVar 5) (tC (.int 1))) (tCB (rLenA K) (tCons (tVar 3) (tNil))))) (tSeq (tAsg (tOp (rIxLT K) (tVar 3) (tVar 5)) (gName 6))
    (tSeq (tAsg (tOp (rIxLT K) (tVar 3) (tOp rAddA (tVar 5) (tC (.int 1)))) (gName 7))
    (tIfS (tTest (tOp rGtA (tDGet (tVar 2) (tVar 6)) (tDGet (tVar 2) (tVar 7)))) (tSeq (tAsg (tVar 7) (gSub (tVar 3) (tVar 5) rSetL))
    (tSeq (tAsg (tVar 6) (gSub (tVar 3) (tOp rAddA (tVar 5) (tC (.int 1))) rSetL))
    (tSeq (tDrop (tBM K "list" rAppend (tVar 4) (tCons (tVar 5) (tNil))))
    (tAsg (tCB (rMax2) (tCons (tOp rSubA (tVar 5) (tC (.int 1))) (tCons (tC (.int 0)) (tNil)))) (gName 5))))) (tAsg (tOp rAddA (tVar 5) (tC (.int 1))) (gName 5))))))
    (tRet (tVar 4)))))))
def t_swap_at (K : PySem.W.Frag) (W : WX) : TS :=
  tSeq (tDrop (tCallSD (toSp K (sp_check_list K)) [] (WE W) (tCons (tVar 0) (tNil))))
    (tSeq (tIfS (tOr (tTest (tOp rLtA (tVar 1) (tC (.int 0)))) (tTest (tOp rGtA (tVar 1) (tOp rSubA (tCB (rLenA K) (tCons (tVar 0) (tNil))) (tC (.int 2)))))) (tRaiseX (He.ga K "InvalidSwap") "step" fmtI W (tCons (tC (.int 0)) (tNil))) (tNext))
    (tSeq (tAsg (tCB (rListA K) (tCons (tVar 0) (tNil))) (gName 2))
    (tSeq (tAsg (tOp (rIxLT K) (tVar 0) (tOp rAddA (tVar 1) (tC (.int 1)))) (gSub (tVar 2) (tVar 1) rSetL))
    (tSeq (tAsg (tOp (rIxLT K) (tVar 0) (tVar 1)) (gSub (tVar 2) (tOp rAddA (tVar 1) (tC (.int 1))) rSetL))
    (tRet (tVar 2))))))
def tl__law_ask_0 (K : PySem.W.Frag) : List PyT.Cl :=
    [(.ref (He.ga K "InvalidList"), 4, (fun ea ecls ed => tSeq (tAsg (tAndV (tCB (rIsX K ea ecls ed) (tCons (tVar 4) (tCons (tC (.ref (He.ga K "DriftError"))) (tNil)))) (tCB (rIsX K ea ecls ed) (tCons (tVar 4) (tCons (tC (.ty "ValueError")) (tNil))))) (gName 6))
    (tSeq (tAsg (tAndV (tVar 6) (tAndV (tNotV (tCB (rIsX K ea ecls ed) (tCons (tVar 4) (tCons (tC (.ref (He.ga K "UnlikeKeys"))) (tNil))))) (tNotV (tCB (rIsX K ea ecls ed) (tCons (tVar 4) (tCons (tC (.ref (He.ga K "InvalidSwap"))) (tNil))))))) (gName 6))
    (tRet (tTup (tCons (tC (.str "list")) (tCons (tXf ea ecls ed (He.ga K "InvalidList") "place" (tVar 4)) (tCons (tVar 6) (tNil))))))))),
    (.ref (He.ga K "UnlikeKeys"), 4, (fun ea ecls ed => tSeq (tAsg (tAndV (tCB (rIsX K ea ecls ed) (tCons (tVar 4) (tCons (tC (.ref (He.ga K "DriftError"))) (tNil)))) (tCB (rIsX K ea ecls ed) (tCons (tVar 4) (tCons (tC (.ty "ValueError")) (tNil))))) (gName 6))
    (tRet (tTup (tCons (tC (.str "unlike")) (tCons (tXf ea ecls ed (He.ga K "UnlikeKeys") "key" (tVar 4)) (tCons (tAndV (tVar 6) (tNotV (tCB (rIsX K ea ecls ed) (tCons (tVar 4) (tCons (tC (.ref (He.ga K "InvalidSwap"))) (tNil)))))) (tNil)))))))),
    (.ref (He.ga K "InvalidSwap"), 4, (fun ea ecls ed => tRet (tTup (tCons (tC (.str "swap")) (tCons (tXf ea ecls ed (He.ga K "InvalidSwap") "step" (tVar 4)) (tCons (tAndV (tCB (rIsX K ea ecls ed) (tCons (tVar 4) (tCons (tC (.ref (He.ga K "DriftError"))) (tNil)))) (tCB (rIsX K ea ecls ed) (tCons (tVar 4) (tCons (tC (.ty "ValueError")) (tNil))))) (tNil)))))))]
def t__law_ask (K : PySem.W.Frag) (W : WX) : TS :=
  tSeq (tTry K W (tl__law_ask_0 K) (fun W1 => tIfS (tTest (tOp (rEqA K) (tVar 0) (tC (.int 0)))) (tAsg (tCallSD (toSp K (sp_check_list K)) [] (WE W1) (tCons (tVar 1) (tNil))) (gName 5)) (tIfS (tTest (tOp (rEqA K) (tVar 0) (tC (.int 1)))) (tAsg (tCallSD (toSp K (sp_swap_at K)) [] (WE W1) (tCons (tVar 1) (tCons (tVar 3) (tNil)))) (gName 5)) (tIfS (tTest (tOp (rEqA K) (tVar 0) (tC (.int 2)))) (tAsg (tCallSD (toSp K (sp_differing_pairs K)) [] (WE W1) (tCons (tVar 1) (tCons (tVar 2) (tNil)))) (gName 5)) (tAsg (tCallSD (toSp K (sp_straight_swaps K)) [] (WE W1) (tCons (tVar 1) (tCons (tVar 2) (tNil)))) (gName 5))))))
    (tRet (tTup (tCons (tC (.str "told")) (tCons (tVar 5) (tCons (tC (.bl true)) (tNil))))))
def t__law_differing (K : PySem.W.Frag) (W : WX) : TS :=
  tSeq (tAsg (tLst (tNil)) (gName 2))
    (tSeq (tFor (iList K (tCB (rSortA K) (tCons (tVar 0) (tNil)))) (gName 3) (tFor (iList K (tCB (rSortA K) (tCons (tVar 0) (tNil)))) (gName 4) (tIfS (tAnd (tTest (tOp rLtA (tBM K "list" (rIndex K) (tVar 0) (tCons (tVar 3) (tNil))) (tBM K "list" (rIndex K) (tVar 0) (tCons (tVar 4) (tNil))))) (tTest (tOp rLtA (tBM K "list" (rIndex K) (tVar 1) (tCons (tVar 4) (tNil))) (tBM K "list" (rIndex K) (tVar 1) (tCons (tVar 3) (tNil)))))) (tDrop (tBM K "list" rAppend (tVar 2) (tCons (tTup (tCons (tVar 3) (tCons (tVar 4) (tNil)))) (tNil)))) (tNext))))
    (tRet (tVar 2)))
def t__law_unlike (K : PySem.W.Frag) (W : WX) : TS :=
  tSeq (tAsg (tLc (iList K (tVar 0)) (gName 4) (tTest (tOp (rIn K true) (tVar 4) (tVar 1))) (tVar 4) [4]) (gName 2))
    (tSeq (tAsg (tLc (iList K (tVar 1)) (gName 4) (tTest (tOp (rIn K true) (tVar 4) (tVar 0))) (tVar 4) [4]) (gName 3))
    (tSeq (tIfS (tTru K (tOp rAddA (tVar 2) (tVar 3))) (tRet (tCB (rMin K) (tCons (tOp rAddA (tVar 2) (tVar 3)) (tNil)))) (tNext))
    (tRet (tC .non))))
def t__law_wrong (K : PySem.W.Frag) (W : WX) : TS :=
  tSeq (tFor (iRng1 (tCons (tCB (rLenA K) (tCons (tVar 0) (tNil))) (tNil))) (gName 1) (tIfS (tOr (tTest (tOp rGeA (tVar 1) (tC (.int 12)))) (tOr (tTest (tOp rLtA (tOp (rIxLT K) (tVar 0) (tVar 1)) (tC (.int 0)))) (tOr (tTest (tOp rGtA (tOp (rIxLT K) (tVar 0) (tVar 1)) (tC (.int 9999)))) (tTest (tOp (rIn K false) (tOp (rIxLT K) (tVar 0) (tVar 1)) (L2.tSl (rSlL K) (tVar 0) (tNoPart) (tPart (tVar 1)))))))) (tRet (tVar 1)) (tNext)))
    (tRet (tC .non))
def t__law_due (K : PySem.W.Frag) (W : WX) : TS :=
  tSeq (tAsg (tCallSD (toSp K (sp__law_wrong K)) [] (WE W) (tCons (tVar 1) (tNil))) (gName 4))
    (tSeq (tIfS (tTest (tOp rNotN (tVar 4) (tC .non))) (tRet (tTup (tCons (tC (.str "list")) (tCons (tVar 4) (tNil))))) (tNext))
    (tSeq (tIfS (tAnd (tTest (tOp (rEqA K) (tVar 0) (tC (.int 1)))) (tOr (tTest (tOp rLtA (tVar 3) (tC (.int 0)))) (tTest (tOp rGtA (tVar 3) (tOp rSubA (tCB (rLenA K) (tCons (tVar 1) (tNil))) (tC (.int 2))))))) (tRet (tTup (tCons (tC (.str "swap")) (tCons (tC (.int 0)) (tNil))))) (tNext))
    (tSeq (tIfS (tTest (tOp rLtA (tVar 0) (tC (.int 2)))) (tRet (tTup (tCons (tC (.str "told")) (tCons (tC (.int 0)) (tNil))))) (tNext))
    (tSeq (tAsg (tCallSD (toSp K (sp__law_wrong K)) [] (WE W) (tCons (tVar 2) (tNil))) (gName 4))
    (tSeq (tIfS (tTest (tOp rNotN (tVar 4) (tC .non))) (tRet (tTup (tCons (tC (.str "list")) (tCons (tVar 4) (tNil))))) (tNext))
    (tSeq (tAsg (tCallSD (toSp K (sp__law_unlike K)) [] (WE W) (tCons (tVar 1) (tCons (tVar 2) (tNil)))) (gName 5))
    (tSeq (tIfS (tTest (tOp rNotN (tVar 5) (tC .non))) (tRet (tTup (tCons (tC (.str "unlike")) (tCons (tVar 5) (tNil))))) (tNext))
    (tRet (tTup (tCons (tC (.str "told")) (tCons (tC (.int 0)) (tNil))))))))))))
def t__law_exchanged (K : PySem.W.Frag) (W : WX) : TS :=
  tSeq (tAsg (tCB (rListA K) (tCons (tVar 0) (tNil))) (gName 2))
    (tSeq (tAsg (tOp (rIxLT K) (tVar 0) (tOp rAddA (tVar 1) (tC (.int 1)))) (gSub (tVar 2) (tVar 1) rSetL))
    (tSeq (tAsg (tOp (rIxLT K) (tVar 0) (tVar 1)) (gSub (tVar 2) (tOp rAddA (tVar 1) (tC (.int 1))) rSetL))
    (tRet (tVar 2))))
def t__law_int (K : PySem.W.Frag) (W : WX) : TS :=
  tRet (tAndV (tCB (rIsi K) (tCons (tVar 0) (tCons (tC (.ty "int")) (tNil)))) (tNotV (tCB (rIsi K) (tCons (tVar 0) (tCons (tC (.ty "bool")) (tNil))))))
def t__law_ints (K : PySem.W.Frag) (W : WX) : TS :=
  tSeq (tIfS (tOr (tNot (tTru K (tCB (rIsi K) (tCons (tVar 0) (tCons (tC (.ty "list")) (tNil)))))) (tNot (tTru K (tCB (rAll K) (tCons (tLc (iList K (tVar 0)) (gName 2) (tYes) (tCallSD (toSp K (sp__law_int K)) [] (fun _ => E0) (tCons (tVar 2) (tNil))) [2]) (tNil)))))) (tRet (tC (.bl false))) (tNext))
    (tRet (tOp (rEqA K) (tVar 0) (tVar 1)))
def t__law_straight (K : PySem.W.Frag) (W : WX) : TS :=
  tSeq (tIfS (tOr (tNot (tTru K (tCB (rIsi K) (tCons (tVar 2) (tCons (tC (.ty "list")) (tNil)))))) (tNot (tTru K (tCB (rAll K) (tCons (tLc (iList K (tVar 2)) (gName 4) (tYes) (tCallSD (toSp K (sp__law_int K)) [] (fun _ => E0) (tCons (tVar 4) (tNil))) [4]) (tNil)))))) (tRet (tC (.bl false))) (tNext))
    (tSeq (tIfS (tTest (tOp (rNeA K) (tCB (rLenA K) (tCons (tVar 2) (tNil))) (tCB (rLenA K) (tCons (tCallSD (toSp K (sp__law_differing K)) [] (WE W) (tCons (tVar 0) (tCons (tVar 1) (tNil)))) (tNil))))) (tRet (tC (.bl false))) (tNext))
    (tSeq (tAsg (tCB (rListA K) (tCons (tVar 0) (tNil))) (gName 3))
    (tSeq (tFor (iList K (tVar 2)) (gName 4) (tSeq (tAsg (tLc (iRng1 (tCons (tOp rSubA (tCB (rLenA K) (tCons (tVar 3) (tNil))) (tC (.int 1))) (tNil))) (gName 6) (tTest (tOp rLtA (tBM K "list" (rIndex K) (tVar 1) (tCons (tOp (rIxLT K) (tVar 3) (tOp rAddA (tVar 6) (tC (.int 1)))) (tNil))) (tBM K "list" (rIndex K) (tVar 1) (tCons (tOp (rIxLT K) (tVar 3) (tVar 6)) (tNil))))) (tVar 6) [6]) (gName 5))
    (tSeq (tIfS (tOr (tNot (tTru K (tVar 5))) (tTest (tOp (rNeA K) (tVar 4) (tOp (rIxLT K) (tVar 5) (tC (.int 0)))))) (tRet (tC (.bl false))) (tNext))
    (tAsg (tCallSD (toSp K (sp__law_exchanged K)) [] (WE W) (tCons (tVar 3) (tCons (tVar 4) (tNil)))) (gName 3)))))
    (tRet (tOp (rEqA K) (tVar 3) (tVar 1))))))
def t__law_tuple (K : PySem.W.Frag) (W : WX) : TS :=
  tSeq (tIfS (tOr (tNot (tTru K (tCB (rIsi K) (tCons (tVar 0) (tCons (tC (.ty "tuple")) (tNil)))))) (tNot (tTru K (tCB (rAll K) (tCons (tLc (iTup K (tVar 0)) (gName 2) (tYes) (tCallSD (toSp K (sp__law_int K)) [] (fun _ => E0) (tCons (tVar 2) (tNil))) [2]) (tNil)))))) (tRet (tC (.bl false))) (tNext))
    (tRet (tOp (rEqA K) (tVar 0) (tVar 1)))
def t__law_tuples (K : PySem.W.Frag) (W : WX) : TS :=
  tSeq (tIfS (tOr (tNot (tTru K (tCB (rIsi K) (tCons (tVar 0) (tCons (tC (.ty "list")) (tNil)))))) (tTest (tOp (rNeA K) (tCB (rLenA K) (tCons (tVar 0) (tNil))) (tCB (rLenA K) (tCons (tVar 1) (tNil)))))) (tRet (tC (.bl false))) (tNext))
    (tRet (tCB (rAll K) (tCons (tLc (iRng1 (tCons (tCB (rLenA K) (tCons (tVar 1) (tNil))) (tNil))) (gName 2) (tYes) (tCallSD (toSp K (sp__law_tuple K)) [] (fun _ => E0) (tCons (tOp (rIxLT K) (tVar 0) (tVar 2)) (tCons (tOp (rIxLT K) (tVar 1) (tVar 2)) (tNil)))) [2]) (tNil))))
def t__law_asked (K : PySem.W.Frag) (W : WX) : TS :=
  tSeq (tAsg (tLst (tCons (tCB (rListA K) (tCons (tVar 1) (tNil))) (tCons (tCB (rListA K) (tCons (tVar 2) (tNil))) (tNil)))) (gName 4))
    (tSeq (tAsg (tCallSD (toSp K (sp__law_ask K)) [] (WE W) (tCons (tVar 0) (tCons (tOp (rIxLT K) (tVar 4) (tC (.int 0))) (tCons (tOp (rIxLT K) (tVar 4) (tC (.int 1))) (tCons (tVar 3) (tNil)))))) (gName 5))
    (tSeq (tAsg (tCallSD (toSp K (sp__law_due K)) [] (WE W) (tCons (tVar 0) (tCons (tVar 1) (tCons (tVar 2) (tCons (tVar 3) (tNil)))))) (gName 6))
    (tSeq (tIfS (tOr (tTest (tOp (rNeA K) (tOp (rIxLT K) (tVar 5) (tC (.int 0))) (tOp (rIxLT K) (tVar 6) (tC (.int 0))))) (tOr (tNot (tTru K (tOp (rIxLT K) (tVar 5) (tC (.int 2))))) (tOr (tTest (tOp (rNeA K) (tOp (rIxLT K) (tVar 4) (tC (.int 0))) (tVar 1))) (tTest (tOp (rNeA K) (tOp (rIxLT K) (tVar 4) (tC (.int 1))) (tVar 2)))))) (tRet (tC (.bl false))) (tNext))
    (tSeq (tIfS (tTest (tOp (rNeA K) (tOp (rIxLT K) (tVar 6) (tC (.int 0))) (tC (.str "told")))) (tRet (tAndV (tCallSD (toSp K (sp__law_int K)) [] (WE W) (tCons (tOp (rIxLT K) (tVar 5) (tC (.int 1))) (tNil))) (tOp (rEqA K) (tOp (rIxLT K) (tVar 5) (tC (.int 1))) (tOp (rIxLT K) (tVar 6) (tC (.int 1)))))) (tNext))
    (tSeq (tIfS (tTest (tOp (rEqA K) (tVar 0) (tC (.int 0)))) (tRet (tOp rIsN (tOp (rIxLT K) (tVar 5) (tC (.int 1))) (tC .non))) (tNext))
    (tSeq (tIfS (tTest (tOp (rEqA K) (tVar 0) (tC (.int 1)))) (tSeq (tIfS (tNot (tTru K (tCallSD (toSp K (sp__law_ints K)) [] (WE W) (tCons (tOp (rIxLT K) (tVar 5) (tC (.int 1))) (tCons (tCallSD (toSp K (sp__law_exchanged K)) [] (WE W) (tCons (tVar 1) (tCons (tVar 3) (tNil)))) (tNil)))))) (tRet (tC (.bl false))) (tNext))
    (tSeq (tAsg (tOp (rIxLT K) (tVar 5) (tC (.int 1))) (gName 7))
    (tSeq (tDrop (tBM K "list" rAppend (tVar 7) (tCons (tC (.int 0)) (tNil))))
    (tRet (tOp (rEqA K) (tOp (rIxLT K) (tVar 4) (tC (.int 0))) (tVar 1)))))) (tNext))
    (tSeq (tIfS (tTest (tOp (rEqA K) (tVar 0) (tC (.int 2)))) (tRet (tCallSD (toSp K (sp__law_tuples K)) [] (WE W) (tCons (tOp (rIxLT K) (tVar 5) (tC (.int 1))) (tCons (tCallSD (toSp K (sp__law_differing K)) [] (WE W) (tCons (tVar 1) (tCons (tVar 2) (tNil)))) (tNil))))) (tNext))
    (tRet (tCallSD (toSp K (sp__law_straight K)) [] (WE W) (tCons (tVar 1) (tCons (tVar 2) (tCons (tOp (rIxLT K) (tVar 5) (tC (.int 1))) (tNil)))))))))))))
def t__law_take (K : PySem.W.Frag) (W : WX) : TS :=
  tSeq (tAsg (tOp (rIxLT K) (tVar 0) (tC (.int 1))) (gName 2))
    (tSeq (tIfS (tTest (tOp rGtA (tVar 2) (tC (.int 0)))) (tSeq (tAsg (tOp rDivA (tVar 2) (tVar 1)) (gSub (tVar 0) (tC (.int 1)) rSetL))
    (tRet (tOp rModA (tCB (rIntA) (tCons (tVar 2) (tNil))) (tVar 1)))) (tNext))
    (tSeq (tAsg (tOp rAddA (tOp (rIxLT K) (tVar 0) (tC (.int 2))) (tC (.int 1))) (gSub (tVar 0) (tC (.int 2)) rSetL))
    (tSeq (tAsg (tOp (rIxLT K) (tVar 0) (tC (.int 2))) (gName 3))
    (tSeq (tAsg (tOp (rIxLT K) (tVar 0) (tC (.int 0))) (gName 4))
    (tSeq (tAsg (tC (.int 0)) (gName 5))
    (tSeq (tIfS (tTest (tOp rLeA (tVar 3) (tCB (rLenA K) (tCons (tVar 4) (tNil))))) (tSeq (tAsg (tCB (rAbs) (tCons (tOp (rIxLT K) (tVar 4) (tOp rSubA (tVar 3) (tC (.int 1)))) (tNil))) (gName 5))
    (tIfS (tTest (tOp rGeA (tVar 5) (tOp rPowA (tC (.int 10)) (tC (.int 18))))) (tSeq (tAsg (tOp rDivA (tVar 5) (tVar 1)) (gSub (tVar 0) (tC (.int 1)) rSetL))
    (tRet (tOp rModA (tCB (rIntA) (tCons (tVar 5) (tNil))) (tVar 1)))) (tNext))) (tIfS (tTru K (tVar 4)) (tAsg (tCB (rAbs) (tCons (tOp (rIxLT K) (tVar 4) (tOp rModA (tVar 3) (tCB (rLenA K) (tCons (tVar 4) (tNil))))) (tNil))) (gName 5)) (tNext)))
    (tSeq (tAsg (tOp rModA (tCB (rIntA) (tCons (tOp rAddA (tOp rMulA (tOp rAddA (tVar 5) (tOp rMulA (tVar 3) (tC (.int 7919)))) (tC (.int 48271))) (tC (.int 11))) (tNil))) (tC (.int 2147483647))) (gName 6))
    (tSeq (tAsg (tOp rModA (tCB (rIntA) (tCons (tOp rAddA (tOp rMulA (tVar 6) (tOp rAddA (tOp rDivA (tVar 6) (tC (.int 4096))) (tC (.int 69621)))) (tVar 3)) (tNil))) (tC (.int 2147483629))) (gName 6))
    (tRet (tOp rModA (tCB (rIntA) (tCons (tOp rDivA (tVar 6) (tC (.int 7))) (tNil))) (tVar 1)))))))))))
def t__law_bent (K : PySem.W.Frag) (W : WX) : TS :=
  tSeq (tAsg (tCB (rListA K) (tCons (tVar 1) (tNil))) (gName 2))
    (tSeq (tFor (iRng1 (tCons (tCallSD (toSp K (sp__law_take K)) [] (WE W) (tCons (tVar 0) (tCons (tC (.int 4)) (tNil)))) (tNil))) (gName 3) (tSeq (tAsg (tCallSD (toSp K (sp__law_take K)) [] (WE W) (tCons (tVar 0) (tCons (tC (.int 7)) (tNil)))) (gName 4))
    (tSeq (tAsg (tCallSD (toSp K (sp__law_take K)) [] (WE W) (tCons (tVar 0) (tCons (tOp rAddA (tCB (rLenA K) (tCons (tVar 2) (tNil))) (tC (.int 1))) (tNil)))) (gName 5))
    (tSeq (tIfS (tAnd (tTest (tOp (rEqA K) (tVar 4) (tC (.int 0)))) (tTest (tOp rLtA (tCB (rLenA K) (tCons (tVar 2) (tNil))) (tC (.int 16))))) (tDrop (tBM K "list" rInsert (tVar 2) (tCons (tVar 5) (tCons (tOp rAddA (tC (.int 7000)) (tCB (rLenA K) (tCons (tVar 2) (tNil)))) (tNil))))) (tNext))
    (tSeq (tIfS (tAnd (tTest (tOp (rEqA K) (tVar 4) (tC (.int 1)))) (tTest (tOp rLeA (tCB (rLenA K) (tCons (tVar 2) (tNil))) (tC (.int 12))))) (tSeq (tAsg (tOp rAddA (tOp rSubA (tC (.int 13)) (tCB (rLenA K) (tCons (tVar 2) (tNil)))) (tCallSD (toSp K (sp__law_take K)) [] (WE W) (tCons (tVar 0) (tCons (tC (.int 3)) (tNil))))) (gName 6))
    (tAsg (tOp rAddA (tVar 2) (tLc (iRng1 (tCons (tVar 6) (tNil))) (gName 7) (tYes) (tOp rAddA (tC (.int 8000)) (tVar 7)) [7])) (gName 2))) (tNext))
    (tSeq (tIfS (tAnd (tTest (tOp (rEqA K) (tVar 4) (tC (.int 2)))) (tTest (tOp rLtA (tVar 5) (tCB (rLenA K) (tCons (tVar 2) (tNil)))))) (tAsg (tOp rSubA (tUn rNegA (tC (.int 1))) (tCallSD (toSp K (sp__law_take K)) [] (WE W) (tCons (tVar 0) (tCons (tC (.int 9999)) (tNil))))) (gSub (tVar 2) (tVar 5) rSetL)) (tNext))
    (tSeq (tIfS (tAnd (tTest (tOp (rEqA K) (tVar 4) (tC (.int 3)))) (tTest (tOp rLtA (tVar 5) (tCB (rLenA K) (tCons (tVar 2) (tNil)))))) (tAsg (tOp rAddA (tC (.int 10000)) (tCallSD (toSp K (sp__law_take K)) [] (WE W) (tCons (tVar 0) (tCons (tC (.int 90000)) (tNil))))) (gSub (tVar 2) (tVar 5) rSetL)) (tNext))
    (tSeq (tIfS (tAnd (tTest (tOp (rEqA K) (tVar 4) (tC (.int 4)))) (tTest (tOp rLtA (tVar 5) (tCB (rLenA K) (tCons (tVar 2) (tNil)))))) (tAsg (tOp (rIxLT K) (tLst (tCons (tC (.int 0)) (tCons (tC (.int 9999)) (tCons (tC (.int 10000)) (tCons (tUn rNegA (tC (.int 1))) (tNil)))))) (tCallSD (toSp K (sp__law_take K)) [] (WE W) (tCons (tVar 0) (tCons (tC (.int 4)) (tNil))))) (gSub (tVar 2) (tVar 5) rSetL)) (tNext))
    (tSeq (tIfS (tAnd (tTest (tOp (rEqA K) (tVar 4) (tC (.int 5)))) (tTest (tOp rLtA (tVar 5) (tCB (rLenA K) (tCons (tVar 2) (tNil)))))) (tAsg (tOp (rIxLT K) (tVar 2) (tCallSD (toSp K (sp__law_take K)) [] (WE W) (tCons (tVar 0) (tCons (tCB (rLenA K) (tCons (tVar 2) (tNil))) (tNil))))) (gSub (tVar 2) (tVar 5) rSetL)) (tNext))
    (tIfS (tAnd (tTest (tOp (rEqA K) (tVar 4) (tC (.int 6)))) (tTest (tOp rLtA (tVar 5) (tCB (rLenA K) (tCons (tVar 2) (tNil)))))) (tDrop (tBM K "list" rPopAt (tVar 2) (tCons (tVar 5) (tNil)))) (tNext)))))))))))
    (tRet (tVar 2)))
def t__law_box (K : PySem.W.Frag) (W : WX) : TS :=
  tRet (tLst (tCons (tCB (rListA K) (tCons (L2.tSl (rSlL K) (tVar 0) (tNoPart) (tPart (tC (.int 63)))) (tNil))) (tCons (tC (.int 0)) (tCons (tC (.int 0)) (tNil)))))
def t__law_order (K : PySem.W.Frag) (W : WX) : TS :=
  tSeq (tAsg (tCB (rListA K) (tCons (tVar 1) (tNil))) (gName 2))
    (tSeq (tAsg (tLst (tNil)) (gName 3))
    (tSeq (tFor (iRng1 (tCons (tCB (rLenA K) (tCons (tVar 1) (tNil))) (tNil))) (gName 4) (tDrop (tBM K "list" rAppend (tVar 3) (tCons (tBM K "list" rPopAt (tVar 2) (tCons (tCallSD (toSp K (sp__law_take K)) [] (WE W) (tCons (tVar 0) (tCons (tCB (rLenA K) (tCons (tVar 2) (tNil))) (tNil)))) (tNil))) (tNil)))))
    (tRet (tVar 3))))
def t__law_keys (K : PySem.W.Frag) (W : WX) : TS :=
  tSeq (tAsg (tLst (tNil)) (gName 2))
    (tSeq (tAsg (tCallSD (toSp K (sp__law_take K)) [] (WE W) (tCons (tVar 0) (tCons (tC (.int 600)) (tNil)))) (gName 3))
    (tSeq (tFor (iRng1 (tCons (tVar 1) (tNil))) (gName 4) (tSeq (tDrop (tBM K "list" rAppend (tVar 2) (tCons (tVar 3) (tNil))))
    (tAsg (tOp rAddA (tOp rAddA (tVar 3) (tC (.int 1))) (tOp rMulA (tCallSD (toSp K (sp__law_take K)) [] (WE W) (tCons (tVar 0) (tCons (tC (.int 3)) (tNil)))) (tCallSD (toSp K (sp__law_take K)) [] (WE W) (tCons (tVar 0) (tCons (tC (.int 240)) (tNil)))))) (gName 3))))
    (tRet (tCallSD (toSp K (sp__law_order K)) [] (WE W) (tCons (tVar 0) (tCons (tVar 2) (tNil)))))))
def t__law_second (K : PySem.W.Frag) (W : WX) : TS :=
  tSeq (tAsg (tCallSD (toSp K (sp__law_take K)) [] (WE W) (tCons (tVar 0) (tCons (tC (.int 4)) (tNil)))) (gName 2))
    (tSeq (tIfS (tTest (tOp (rEqA K) (tVar 2) (tC (.int 0)))) (tRet (tCallSD (toSp K (sp__law_order K)) [] (WE W) (tCons (tVar 0) (tCons (tVar 1) (tNil))))) (tNext))
    (tSeq (tAsg (tCB (rListA K) (tCons (tVar 1) (tNil))) (gName 3))
    (tSeq (tIfS (tTest (tOp (rEqA K) (tVar 2) (tC (.int 1)))) (tDrop (tBM0 K "list" rReverse (tVar 3))) (tNext))
    (tSeq (tIfS (tAnd (tTest (tOp (rEqA K) (tVar 2) (tC (.int 2)))) (tTest (tOp rGtA (tCB (rLenA K) (tCons (tVar 3) (tNil))) (tC (.int 1))))) (tFor (iRng1 (tCons (tCallSD (toSp K (sp__law_take K)) [] (WE W) (tCons (tVar 0) (tCons (tC (.int 7)) (tNil)))) (tNil))) (gName 4) (tAsg (tCallSD (toSp K (sp__law_exchanged K)) [] (WE W) (tCons (tVar 3) (tCons (tCallSD (toSp K (sp__law_take K)) [] (WE W) (tCons (tVar 0) (tCons (tOp rSubA (tCB (rLenA K) (tCons (tVar 3) (tNil))) (tC (.int 1))) (tNil)))) (tNil)))) (gName 3))) (tNext))
    (tRet (tVar 3))))))
def t__law_widened (K : PySem.W.Frag) (W : WX) : TS :=
  tSeq (tAsg (tCB (rListA K) (tCons (tVar 1) (tNil))) (gName 2))
    (tSeq (tAsg (tCallSD (toSp K (sp__law_take K)) [] (WE W) (tCons (tVar 0) (tCons (tC (.int 8)) (tNil)))) (gName 3))
    (tSeq (tAsg (tCallSD (toSp K (sp__law_take K)) [] (WE W) (tCons (tVar 0) (tCons (tOp rAddA (tCB (rLenA K) (tCons (tVar 2) (tNil))) (tC (.int 1))) (tNil)))) (gName 4))
    (tSeq (tIfS (tAnd (tTest (tOp rLtA (tVar 4) (tCB (rLenA K) (tCons (tVar 2) (tNil))))) (tTest (tOp (rEqA K) (tVar 3) (tC (.int 0))))) (tAsg (tC (.int 9999)) (gSub (tVar 2) (tVar 4) rSetL)) (tNext))
    (tSeq (tIfS (tAnd (tTest (tOp rLtA (tVar 4) (tCB (rLenA K) (tCons (tVar 2) (tNil))))) (tAnd (tTest (tOp (rEqA K) (tVar 3) (tC (.int 1)))) (tTest (tOp (rIn K true) (tC (.int 0)) (tVar 2))))) (tAsg (tC (.int 0)) (gSub (tVar 2) (tVar 4) rSetL)) (tNext))
    (tRet (tVar 2))))))
def t_law (K : PySem.W.Frag) (W : WX) : TS :=
  tSeq (tAsg (tCallSD (toSp K (sp__law_box K)) [] (WE W) (tCons (tVar 0) (tNil))) (gName 1))
    (tSeq (tAsg (tCallSD (toSp K (sp__law_take K)) [] (WE W) (tCons (tVar 1) (tCons (tC (.int 7)) (tNil)))) (gName 2))
    (tSeq (tIfS (tTest (tOp (rEqA K) (tCallSD (toSp K (sp__law_take K)) [] (WE W) (tCons (tVar 1) (tCons (tC (.int 4)) (tNil)))) (tC (.int 0)))) (tAsg (tCallSD (toSp K (sp__law_take K)) [] (WE W) (tCons (tVar 1) (tCons (tC (.int 13)) (tNil)))) (gName 2)) (tNext))
    (tSeq (tAsg (tCallSD (toSp K (sp__law_widened K)) [] (WE W) (tCons (tVar 1) (tCons (tCallSD (toSp K (sp__law_keys K)) [] (WE W) (tCons (tVar 1) (tCons (tVar 2) (tNil)))) (tNil)))) (gName 3))
    (tSeq (tAsg (tCallSD (toSp K (sp__law_second K)) [] (WE W) (tCons (tVar 1) (tCons (tVar 3) (tNil)))) (gName 4))
    (tSeq (tAsg (tCallSD (toSp K (sp__law_bent K)) [] (WE W) (tCons (tVar 1) (tCons (tVar 3) (tNil)))) (gName 5))
    (tSeq (tAsg (tCallSD (toSp K (sp__law_bent K)) [] (WE W) (tCons (tVar 1) (tCons (tVar 4) (tNil)))) (gName 6))
    (tSeq (tAsg (tOp rSubA (tCallSD (toSp K (sp__law_take K)) [] (WE W) (tCons (tVar 1) (tCons (tC (.int 40)) (tNil)))) (tC (.int 20))) (gName 7))
    (tSeq (tFor (iRng1 (tCons (tC (.int 4)) (tNil))) (gName 8) (tSeq (tIfS (tOr (tNot (tTru K (tCallSD (toSp K (sp__law_asked K)) [] (WE W) (tCons (tVar 8) (tCons (tVar 3) (tCons (tVar 4) (tCons (tVar 7) (tNil)))))))) (tNot (tTru K (tCallSD (toSp K (sp__law_asked K)) [] (WE W) (tCons (tVar 8) (tCons (tVar 4) (tCons (tVar 3) (tCons (tVar 7) (tNil))))))))) (tRet (tC (.bl false))) (tNext))
    (tSeq (tIfS (tOr (tNot (tTru K (tCallSD (toSp K (sp__law_asked K)) [] (WE W) (tCons (tVar 8) (tCons (tVar 5) (tCons (tVar 4) (tCons (tVar 7) (tNil)))))))) (tNot (tTru K (tCallSD (toSp K (sp__law_asked K)) [] (WE W) (tCons (tVar 8) (tCons (tVar 3) (tCons (tVar 6) (tCons (tVar 7) (tNil))))))))) (tRet (tC (.bl false))) (tNext))
    (tIfS (tOr (tNot (tTru K (tCallSD (toSp K (sp__law_asked K)) [] (WE W) (tCons (tVar 8) (tCons (tVar 5) (tCons (tVar 6) (tCons (tVar 7) (tNil)))))))) (tNot (tTru K (tCallSD (toSp K (sp__law_asked K)) [] (WE W) (tCons (tVar 8) (tCons (tVar 6) (tCons (tVar 5) (tCons (tVar 7) (tNil))))))))) (tRet (tC (.bl false))) (tNext)))))
    (tSeq (tFor (iRng1 (tCons (tOp rAddA (tVar 2) (tC (.int 3))) (tNil))) (gName 9) (tIfS (tNot (tTru K (tCallSD (toSp K (sp__law_asked K)) [] (WE W) (tCons (tC (.int 1)) (tCons (tVar 3) (tCons (tVar 4) (tCons (tOp rSubA (tVar 9) (tC (.int 2))) (tNil)))))))) (tRet (tC (.bl false))) (tNext)))
    (tRet (tAndV (tCallSD (toSp K (sp__law_asked K)) [] (WE W) (tCons (tC (.int 2)) (tCons (tVar 3) (tCons (tVar 3) (tCons (tC (.int 0)) (tNil)))))) (tCallSD (toSp K (sp__law_asked K)) [] (WE W) (tCons (tC (.int 3)) (tCons (tVar 4) (tCons (tVar 4) (tCons (tC (.int 0)) (tNil)))))))))))))))))
end K06
namespace K06
open PySem PySem.Spec L2 PyD PyT PyE PyH PyProof.Rows
section
variable {P : Program} {w : World} {K : PySem.W.Frag} {mg : Str → Option Value} {base : Heap}
theorem ok_first_wrong_place (T : TX P K mg)
    (len : ∀ ds O k x, sp_first_wrong_place K ds O k x → ds.length = 1)
    (walk : ∀ W ds O k x, sp_first_wrong_place K ds O k x → (∀ p ∈ O, p.loc = false) → wpS K W (fun e _ O' => x e O') (t_first_wrong_place K W) (startD N_first_wrong_place.length ds) O { nx := fun _ O' => k .non O', rt := k }) : FE P w K mg base 1 "first_wrong_place" ["order"] [] (toSp K (sp_first_wrong_place K)) := by
  refine fe_of (ts := t_first_wrong_place K) T.F_first_wrong_place T.g_first_wrong_place sc_first_wrong_place len (fun fd F => binds0 F fun _ _ _ _ _ _ us hl => match us, hl with | [_], _ => rfl) (fun cdv A outer s H E hr => ?_) walk
  have hu := hu_of hr
  have hu64 : (A.deeper (envOfC "first_wrong_place" (defScope s_first_wrong_place) s.heap.objs.size (He.ga K "first_wrong_place") cdv)).units + 64 < cLine := by have := hr.un; omega
  unfold t_first_wrong_place
  exact pss_cons (ps_set (i := 1) sc_first_wrong_place.nd rfl (by first | exact Or.inl rfl | exact Or.inr rfl) (pe_dnewK))
      (pss_cons (ps_for (passes_of rfl) rfl (pi_enum (by rfl) T.n_enumerate (pa_cons (pv 0) (pa_nil))) (pg_tup rfl (pgs_cons (pg_name (i := 2) sc_first_wrong_place.nd rfl (by first | exact Or.inl rfl | exact Or.inr rfl)) (pgs_cons (pg_name (i := 3) sc_first_wrong_place.nd rfl (by first | exact Or.inl rfl | exact Or.inr rfl)) (pgs_nil)))) (pss_cons (ps_if (PW.pt (pw_or (pt_cmpR opA_ge (pv 2) ((by obtain ⟨t, h⟩ := T.i_MAX_KEYS; exact pe_glob rfl h ⟨_, rfl⟩)) (nomark _)) (pw_or (pt_cmpR opA_lt (pv 3) (pe_int) (nomark _)) (pw_or (pt_cmpR opA_gt (pv 3) ((by obtain ⟨t, h⟩ := T.i_MAX_KEY; exact pe_glob rfl h ⟨_, rfl⟩)) (nomark _)) (pw_or1 (pt_cmp (pc_din hu (pv 3) (pv 1)))))))) (pss_one (ps_ret (pv 2))) (pss_nil))
      (pss_one (ps_dput hu (pv 1) (pv 3) (pe_bl) rfl))))
      (pss_one (ps_ret (pe_non))))
theorem ok_check_list (T : TX P K mg) (F_first_wrong_place : FE P w K mg base 1 "first_wrong_place" ["order"] [] (toSp K (sp_first_wrong_place K)))
    (len : ∀ ds O k x, sp_check_list K ds O k x → ds.length = 1)
    (walk : ∀ W ds O k x, sp_check_list K ds O k x → (∀ p ∈ O, p.loc = false) → wpS K W (fun e _ O' => x e O') (t_check_list K W) (startD N_check_list.length ds) O { nx := fun _ O' => k .non O', rt := k }) : FE P w K mg base 2 "check_list" ["order"] [] (toSp K (sp_check_list K)) := by
  refine fe_of (ts := t_check_list K) T.F_check_list T.g_check_list sc_check_list len (fun fd F => binds0 F fun _ _ _ _ _ _ us hl => match us, hl with | [_], _ => rfl) (fun cdv A outer s H E hr => ?_) walk
  have hu := hu_of hr
  have hu64 : (A.deeper (envOfC "check_list" (defScope s_check_list) s.heap.objs.size (He.ga K "check_list") cdv)).units + 64 < cLine := by have := hr.un; omega
  unfold t_check_list
  exact pss_cons (ps_set (i := 1) sc_check_list.nd rfl (by first | exact Or.inl rfl | exact Or.inr rfl) (pe_fe (E := (WE fun cls d _ H => E cls d H)) F_first_wrong_place (hr.mono (by decide)) (by rfl) (fun σ => passAt (takes_of rfl rfl rfl rfl) σ) (pa_cons (pv 0) (pa_nil))))
      (pss_one (ps_if (pt_cmpR opA_notN (pv 1) (pe_non) (nomark _)) (pss_one (ps_raiseX (okV := fmtI) (W := fun cls d _ H => E cls d H) rfl (takes_of rfl rfl rfl rfl) T.tx_InvalidList T.g_InvalidList T.x_InvalidList.kp T.x_InvalidList.sb T.x_InvalidList.ty T.n_super (fun v u h r => L2.msg_3 (a := "invalid key at index ") (b := " of the list") rfl (by decide) (by decide) v u h r) hr (pa_cons (pv 1) (pa_nil)) rfl)) (pss_nil)))
theorem ok_require_same (T : TX P K mg)
    (len : ∀ ds O k x, sp_require_same K ds O k x → ds.length = 2)
    (walk : ∀ W ds O k x, sp_require_same K ds O k x → (∀ p ∈ O, p.loc = false) → wpS K W (fun e _ O' => x e O') (t_require_same K W) (startD N_require_same.length ds) O { nx := fun _ O' => k .non O', rt := k }) : FE P w K mg base 2 "require_same" ["first", "second"] [] (toSp K (sp_require_same K)) := by
  refine fe_of (ts := t_require_same K) T.F_require_same T.g_require_same sc_require_same len (fun fd F => binds0 F fun _ _ _ _ _ _ us hl => match us, hl with | [_, _], _ => rfl) (fun cdv A outer s H E hr => ?_) walk
  have hu := hu_of hr
  have hu64 : (A.deeper (envOfC "require_same" (defScope s_require_same) s.heap.objs.size (He.ga K "require_same") cdv)).units + 64 < cLine := by have := hr.un; omega
  unfold t_require_same
  exact pss_cons (ps_setLc (i := 2) (own := [("key", 4)]) (g := gName 4) (tt := tTest (tOp (rIn K true) (tVar 4) (tVar 1))) rfl sc_require_same.nd rfl rfl (sw_true rfl rfl rfl (by decide +kernel)) (pi_list (pv 0)) (blkOk_by (N := N_require_same) (sc := defScope s_require_same) (by decide +kernel)) (fun _ _ _ _ _ => pg_name (i := 4) sc_require_same.nd rfl (by first | exact Or.inl rfl | exact Or.inr rfl)) (fun _ _ _ _ _ => pts_one (pt_cmpR op_notIn_seq (pv 4) (pv 1) (by rfl))) (fun _ _ _ _ _ => pv 4))
      (pss_cons (ps_setLc (i := 3) (own := [("key", 4)]) (g := gName 4) (tt := tTest (tOp (rIn K true) (tVar 4) (tVar 0))) rfl sc_require_same.nd rfl rfl (sw_true rfl rfl rfl (by decide +kernel)) (pi_list (pv 1)) (blkOk_by (N := N_require_same) (sc := defScope s_require_same) (by decide +kernel)) (fun _ _ _ _ _ => pg_name (i := 4) sc_require_same.nd rfl (by first | exact Or.inl rfl | exact Or.inr rfl)) (fun _ _ _ _ _ => pts_one (pt_cmpR op_notIn_seq (pv 4) (pv 0) (by rfl))) (fun _ _ _ _ _ => pv 4))
      (pss_one (ps_if (PW.pt (pw_or (pt_truth (pv 2) (by intro _; rfl)) (pw_or1 (pt_truth (pv 3) (by intro _; rfl))))) (pss_one (ps_raiseX (okV := fmtI) (W := fun cls d _ H => E cls d H) rfl (takes_of rfl rfl rfl rfl) T.tx_UnlikeKeys T.g_UnlikeKeys T.x_UnlikeKeys.kp T.x_UnlikeKeys.sb T.x_UnlikeKeys.ty T.n_super (fun v u h r => L2.msg_2 (a := "only one of the two has the key ") rfl (by decide) v u h r) hr (pa_cons (pe_callB (cr_min rfl) (by rfl) T.n_min (by decide +kernel) (pa_cons (pe_op opA_add (pv 2) (pv 3)) (pa_nil))) (pa_nil)) rfl)) (pss_nil))))
theorem ok__check_two (T : TX P K mg) (F_check_list : FE P w K mg base 2 "check_list" ["order"] [] (toSp K (sp_check_list K))) (F_require_same : FE P w K mg base 2 "require_same" ["first", "second"] [] (toSp K (sp_require_same K)))
    (len : ∀ ds O k x, sp__check_two K ds O k x → ds.length = 2)
    (walk : ∀ W ds O k x, sp__check_two K ds O k x → (∀ p ∈ O, p.loc = false) → wpS K W (fun e _ O' => x e O') (t__check_two K W) (startD N__check_two.length ds) O { nx := fun _ O' => k .non O', rt := k }) : FE P w K mg base 3 "_check_two" ["first", "second"] [] (toSp K (sp__check_two K)) := by
  refine fe_of (ts := t__check_two K) T.F__check_two T.g__check_two sc__check_two len (fun fd F => binds0 F fun _ _ _ _ _ _ us hl => match us, hl with | [_, _], _ => rfl) (fun cdv A outer s H E hr => ?_) walk
  have hu := hu_of hr
  have hu64 : (A.deeper (envOfC "_check_two" (defScope s__check_two) s.heap.objs.size (He.ga K "_check_two") cdv)).units + 64 < cLine := by have := hr.un; omega
  unfold t__check_two
  exact pss_cons (ps_expr (pe_fe (E := (WE fun cls d _ H => E cls d H)) F_check_list (hr.mono (by decide)) (by rfl) (fun σ => passAt (takes_of rfl rfl rfl rfl) σ) (pa_cons (pv 0) (pa_nil))))
      (pss_cons (ps_expr (pe_fe (E := (WE fun cls d _ H => E cls d H)) F_check_list (hr.mono (by decide)) (by rfl) (fun σ => passAt (takes_of rfl rfl rfl rfl) σ) (pa_cons (pv 1) (pa_nil))))
      (pss_one (ps_expr (pe_fe (E := (WE fun cls d _ H => E cls d H)) F_require_same (hr.mono (by decide)) (by rfl) (fun σ => passAt (takes_of rfl rfl rfl rfl) σ) (pa_cons (pv 0) (pa_cons (pv 1) (pa_nil)))))))
theorem ok_index_of (T : TX P K mg)
    (len : ∀ ds O k x, sp_index_of K ds O k x → ds.length = 1)
    (walk : ∀ W ds O k x, sp_index_of K ds O k x → (∀ p ∈ O, p.loc = false) → wpS K W (fun e _ O' => x e O') (t_index_of K W) (startD N_index_of.length ds) O { nx := fun _ O' => k .non O', rt := k }) : FE P w K mg base 1 "index_of" ["order"] [] (toSp K (sp_index_of K)) := by
  refine fe_of (ts := t_index_of K) T.F_index_of T.g_index_of sc_index_of len (fun fd F => binds0 F fun _ _ _ _ _ _ us hl => match us, hl with | [_], _ => rfl) (fun cdv A outer s H E hr => ?_) walk
  have hu := hu_of hr
  have hu64 : (A.deeper (envOfC "index_of" (defScope s_index_of) s.heap.objs.size (He.ga K "index_of") cdv)).units + 64 < cLine := by have := hr.un; omega
  unfold t_index_of
  exact pss_one (ps_ret (pe_dc (own := [("place", 1), ("key", 2)]) (g := gTup K 2 (gCons (gName 1) (gCons (gName 2) (gNil)))) (tt := tYes) rfl sc_index_of.nd (pi_enum (by rfl) T.n_enumerate (pa_cons (pv 0) (pa_nil))) (blkOk_by (N := N_index_of) (sc := defScope s_index_of) (by decide +kernel)) (fun _ _ _ _ _ => pg_tup rfl (pgs_cons (pg_name (i := 1) sc_index_of.nd rfl (by first | exact Or.inl rfl | exact Or.inr rfl)) (pgs_cons (pg_name (i := 2) sc_index_of.nd rfl (by first | exact Or.inl rfl | exact Or.inr rfl)) (pgs_nil)))) (fun _ _ _ _ _ => pts_nil) (fun _ _ _ _ _ => pv 2) (fun _ _ _ _ _ => pv 1)))
theorem ok_differing_pairs (T : TX P K mg) (F__check_two : FE P w K mg base 3 "_check_two" ["first", "second"] [] (toSp K (sp__check_two K))) (F_index_of : FE P w K mg base 1 "index_of" ["order"] [] (toSp K (sp_index_of K)))
    (len : ∀ ds O k x, sp_differing_pairs K ds O k x → ds.length = 2)
    (walk : ∀ W ds O k x, sp_differing_pairs K ds O k x → (∀ p ∈ O, p.loc = false) → wpS K W (fun e _ O' => x e O') (t_differing_pairs K W) (startD N_differing_pairs.length ds) O { nx := fun _ O' => k .non O', rt := k }) : FE P w K mg base 4 "differing_pairs" ["first", "second"] [] (toSp K (sp_differing_pairs K)) := by
  refine fe_of (ts := t_differing_pairs K) T.F_differing_pairs T.g_differing_pairs sc_differing_pairs len (fun fd F => binds0 F fun _ _ _ _ _ _ us hl => match us, hl with | [_, _], _ => rfl) (fun cdv A outer s H E hr => ?_) walk
  have hu := hu_of hr
  have hu64 : (A.deeper (envOfC "differing_pairs" (defScope s_differing_pairs) s.heap.objs.size (He.ga K "differing_pairs") cdv)).units + 64 < cLine := by have := hr.un; omega
  unfold t_differing_pairs
  exact pss_cons (ps_expr (pe_fe (E := (WE fun cls d _ H => E cls d H)) F__check_two (hr.mono (by decide)) (by rfl) (fun σ => passAt (takes_of rfl rfl rfl rfl) σ) (pa_cons (pv 0) (pa_cons (pv 1) (pa_nil)))))
      (pss_cons (ps_set (i := 2) sc_differing_pairs.nd rfl (by first | exact Or.inl rfl | exact Or.inr rfl) (pe_fe (E := (WE fun cls d _ H => E cls d H)) F_index_of (hr.mono (by decide)) (by rfl) (fun σ => passAt (takes_of rfl rfl rfl rfl) σ) (pa_cons (pv 1) (pa_nil))))
      (pss_one (ps_ret (pe_callB callA_sorted (by rfl) T.n_sorted (by decide +kernel) (pa_cons (pe_lc2 (own := [("index", 3), ("x", 4), ("y", 5)]) (vs1 := [5]) (g := gTup K 2 (gCons (gName 3) (gCons (gName 4) (gNil)))) (tt := tYes) (g1 := gName 5) (tt1 := tTest (tOp rLtA (tDGet (tVar 2) (tVar 5)) (tDGet (tVar 2) (tVar 4)))) rfl sc_differing_pairs.nd (pi_enum (by rfl) T.n_enumerate (pa_cons (pv 0) (pa_nil))) (blkOk_by (N := N_differing_pairs) (sc := defScope s_differing_pairs) (by decide +kernel)) (by decide) (fun _ _ _ _ _ => pg_tup rfl (pgs_cons (pg_name (i := 3) sc_differing_pairs.nd rfl (by first | exact Or.inl rfl | exact Or.inr rfl)) (pgs_cons (pg_name (i := 4) sc_differing_pairs.nd rfl (by first | exact Or.inl rfl | exact Or.inr rfl)) (pgs_nil)))) (fun _ _ _ _ _ => pts_nil) (fun _ _ _ _ _ => pi_list (pe_slice sl_list (pv 0) (po_some (pe_op opA_add (pv 3) (pe_int))) (po_none))) (fun _ _ _ _ _ => pg_name (i := 5) sc_differing_pairs.nd rfl (by first | exact Or.inl rfl | exact Or.inr rfl)) (fun _ _ _ _ _ => pts_one (pt_cmpR opA_lt (pe_dget hu (pv 2) (pv 5) (fun _ _ => rfl)) (pe_dget hu (pv 2) (pv 4) (fun _ _ => rfl)) (nomark _))) (fun _ _ _ _ _ => pe_tup (pa_cons (pv 4) (pa_cons (pv 5) (pa_nil))))) (pa_nil))))))
theorem ok_straight_swaps (T : TX P K mg) (F__check_two : FE P w K mg base 3 "_check_two" ["first", "second"] [] (toSp K (sp__check_two K))) (F_index_of : FE P w K mg base 1 "index_of" ["order"] [] (toSp K (sp_index_of K)))
    (len : ∀ ds O k x, sp_straight_swaps K ds O k x → ds.length = 2)
    (walk : ∀ W ds O k x, sp_straight_swaps K ds O k x → (∀ p ∈ O, p.loc = false) → wpS K W (fun e _ O' => x e O') (t_straight_swaps K W) (startD N_straight_swaps.length ds) O { nx := fun _ O' => k .non O', rt := k }) : FE P w K mg base 4 "straight_swaps" ["first", "second"] [] (toSp K (sp_straight_swaps K)) := by
  refine fe_of (ts := t_straight_swaps K) T.F_straight_swaps T.g_straight_swaps sc_straight_swaps len (fun fd F => binds0 F fun _ _ _ _ _ _ us hl => match us, hl with | [_, _], _ => rfl) (fun cdv A outer s H E hr => ?_) walk
  have hu := hu_of hr
  have hu64 : (A.deeper (envOfC "straight_swaps" (defScope s_straight_swaps) s.heap.objs.size (He.ga K "straight_swaps") cdv)).units + 64 < cLine := by have := hr.un; omega
  unfold t_straight_swaps
  exact pss_cons (ps_expr (pe_fe (E := (WE fun cls d _ H => E cls d H)) F__check_two (hr.mono (by decide)) (by rfl) (fun σ => passAt (takes_of rfl rfl rfl rfl) σ) (pa_cons (pv 0) (pa_cons (pv 1) (pa_nil)))))
      (pss_cons (ps_set (i := 2) sc_straight_swaps.nd rfl (by first | exact Or.inl rfl | exact Or.inr rfl) (pe_fe (E := (WE fun cls d _ H => E cls d H)) F_index_of (hr.mono (by decide)) (by rfl) (fun σ => passAt (takes_of rfl rfl rfl rfl) σ) (pa_cons (pv 1) (pa_nil))))
      (pss_cons (ps_set (i := 3) sc_straight_swaps.nd rfl (by first | exact Or.inl rfl | exact Or.inr rfl) (pe_callTy callA_list (by rfl) T.n_list (by decide +kernel) (pa_cons (pv 0) (pa_nil))))
      (pss_cons (ps_set (i := 4) sc_straight_swaps.nd rfl (by first | exact Or.inl rfl | exact Or.inr rfl) (pe_lst (pa_nil)))
      (pss_cons (ps_set (i := 5) sc_straight_swaps.nd rfl (by first | exact Or.inl rfl | exact Or.inr rfl) (pe_int))
      (pss_cons (ps_while (passes_of rfl) (pt_cmpR opA_lt (pe_op opA_add (pv 5) (pe_int)) (pe_callB callA_len (by rfl) T.n_len (by decide +kernel) (pa_cons (pv 3) (pa_nil))) (nomark _)) (pss_cons (ps_set (i := 6) sc_straight_swaps.nd rfl (by first | exact Or.inl rfl | exact Or.inr rfl) (pe_ix ix_lt (pv 3) (pv 5) (fun _ _ => rfl)))
      (pss_cons (ps_set (i := 7) sc_straight_swaps.nd rfl (by first | exact Or.inl rfl | exact Or.inr rfl) (pe_ix ix_lt (pv 3) (pe_op opA_add (pv 5) (pe_int)) (fun _ _ => rfl)))
      (pss_one (ps_if (pt_cmpR opA_gt (pe_dget hu (pv 2) (pv 6) (fun _ _ => rfl)) (pe_dget hu (pv 2) (pv 7) (fun _ _ => rfl)) (nomark _)) (pss_cons (ps_asg (pv 7) (pg_sub (pv 3) (pv 5) set_list))
      (pss_cons (ps_asg (pv 6) (pg_sub (pv 3) (pe_op opA_add (pv 5) (pe_int)) set_list))
      (pss_cons (ps_expr (pe_bm PySem.F.plainAttrs_list PySem.F.slot_list_append PySem.F.type_list_append mt_append (pv 4) (pa_cons (pv 5) (pa_nil))))
      (pss_one (ps_set (i := 5) sc_straight_swaps.nd rfl (by first | exact Or.inl rfl | exact Or.inr rfl) (pe_callB (callA_max2 rfl) (by rfl) T.n_max (by decide +kernel) (pa_cons (pe_op opA_sub (pv 5) (pe_int)) (pa_cons (pe_int) (pa_nil))))))))) (pss_one (ps_set (i := 5) sc_straight_swaps.nd rfl (by first | exact Or.inl rfl | exact Or.inr rfl) (pe_op opA_add (pv 5) (pe_int)))))))))
      (pss_one (ps_ret (pv 4))))))))
theorem ok_swap_at (T : TX P K mg) (F_check_list : FE P w K mg base 2 "check_list" ["order"] [] (toSp K (sp_check_list K)))
    (len : ∀ ds O k x, sp_swap_at K ds O k x → ds.length = 2)
    (walk : ∀ W ds O k x, sp_swap_at K ds O k x → (∀ p ∈ O, p.loc = false) → wpS K W (fun e _ O' => x e O') (t_swap_at K W) (startD N_swap_at.length ds) O { nx := fun _ O' => k .non O', rt := k }) : FE P w K mg base 3 "swap_at" ["order", "index"] [] (toSp K (sp_swap_at K)) := by
  refine fe_of (ts := t_swap_at K) T.F_swap_at T.g_swap_at sc_swap_at len (fun fd F => binds0 F fun _ _ _ _ _ _ us hl => match us, hl with | [_, _], _ => rfl) (fun cdv A outer s H E hr => ?_) walk
  have hu := hu_of hr
  have hu64 : (A.deeper (envOfC "swap_at" (defScope s_swap_at) s.heap.objs.size (He.ga K "swap_at") cdv)).units + 64 < cLine := by have := hr.un; omega
  unfold t_swap_at
  exact pss_cons (ps_expr (pe_fe (E := (WE fun cls d _ H => E cls d H)) F_check_list (hr.mono (by decide)) (by rfl) (fun σ => passAt (takes_of rfl rfl rfl rfl) σ) (pa_cons (pv 0) (pa_nil))))
      (pss_cons (ps_if (PW.pt (pw_or (pt_cmpR opA_lt (pv 1) (pe_int) (nomark _)) (pw_or1 (pt_cmpR opA_gt (pv 1) (pe_op opA_sub (pe_callB callA_len (by rfl) T.n_len (by decide +kernel) (pa_cons (pv 0) (pa_nil))) (pe_int)) (nomark _))))) (pss_one (ps_raiseX (okV := fmtI) (W := fun cls d _ H => E cls d H) rfl (takes_of rfl rfl rfl rfl) T.tx_InvalidSwap T.g_InvalidSwap T.x_InvalidSwap.kp T.x_InvalidSwap.sb T.x_InvalidSwap.ty T.n_super (fun v u h r => L2.msg_3 (a := "the swap of step ") (b := " does not exist") rfl (by decide) (by decide) v u h r) hr (pa_cons (pe_int) (pa_nil)) rfl)) (pss_nil))
      (pss_cons (ps_set (i := 2) sc_swap_at.nd rfl (by first | exact Or.inl rfl | exact Or.inr rfl) (pe_callTy callA_list (by rfl) T.n_list (by decide +kernel) (pa_cons (pv 0) (pa_nil))))
      (pss_cons (ps_asg (pe_ix ix_lt (pv 0) (pe_op opA_add (pv 1) (pe_int)) (fun _ _ => rfl)) (pg_sub (pv 2) (pv 1) set_list))
      (pss_cons (ps_asg (pe_ix ix_lt (pv 0) (pv 1) (fun _ _ => rfl)) (pg_sub (pv 2) (pe_op opA_add (pv 1) (pe_int)) set_list))
      (pss_one (ps_ret (pv 2)))))))
theorem ok__law_ask (T : TX P K mg) (F_check_list : FE P w K mg base 2 "check_list" ["order"] [] (toSp K (sp_check_list K))) (F_differing_pairs : FE P w K mg base 4 "differing_pairs" ["first", "second"] [] (toSp K (sp_differing_pairs K))) (F_straight_swaps : FE P w K mg base 4 "straight_swaps" ["first", "second"] [] (toSp K (sp_straight_swaps K))) (F_swap_at : FE P w K mg base 3 "swap_at" ["order", "index"] [] (toSp K (sp_swap_at K)))
    (len : ∀ ds O k x, sp__law_ask K ds O k x → ds.length = 4)
    (walk : ∀ W ds O k x, sp__law_ask K ds O k x → (∀ p ∈ O, p.loc = false) → wpS K W (fun e _ O' => x e O') (t__law_ask K W) (startD N__law_ask.length ds) O { nx := fun _ O' => k .non O', rt := k }) : FE P w K mg base 5 "_law_ask" ["_law_way", "_law_first", "_law_second_here", "_law_index"] [] (toSp K (sp__law_ask K)) := by
  refine fe_of (ts := t__law_ask K) T.F__law_ask T.g__law_ask sc__law_ask len (fun fd F => binds0 F fun _ _ _ _ _ _ us hl => match us, hl with | [_, _, _, _], _ => rfl) (fun cdv A outer s H E hr => ?_) walk
  have hu := hu_of hr
  have hu64 : (A.deeper (envOfC "_law_ask" (defScope s__law_ask) s.heap.objs.size (He.ga K "_law_ask") cdv)).units + 64 < cLine := by have := hr.un; omega
  unfold t__law_ask
  exact pss_cons (ps_try_cls (tb := (fun W1 => tIfS (tTest (tOp (rEqA K) (tVar 0) (tC (.int 0)))) (tAsg (tCallSD (toSp K (sp_check_list K)) [] (WE W1) (tCons (tVar 1) (tNil))) (gName 5)) (tIfS (tTest (tOp (rEqA K) (tVar 0) (tC (.int 1)))) (tAsg (tCallSD (toSp K (sp_swap_at K)) [] (WE W1) (tCons (tVar 1) (tCons (tVar 3) (tNil)))) (gName 5)) (tIfS (tTest (tOp (rEqA K) (tVar 0) (tC (.int 2)))) (tAsg (tCallSD (toSp K (sp_differing_pairs K)) [] (WE W1) (tCons (tVar 1) (tCons (tVar 2) (tNil)))) (gName 5)) (tAsg (tCallSD (toSp K (sp_straight_swaps K)) [] (WE W1) (tCons (tVar 1) (tCons (tVar 2) (tNil)))) (gName 5)))))) (l := (tl__law_ask_0 K)) (Wout := fun cls d _ H => E cls d H) rfl rfl sc__law_ask.nd (takes_of rfl rfl rfl rfl) (fun W1 pn1 xe1 tk1 hp1 => pss_one (ps_if (pt_cmpR (opA_eq hu64) (pv 0) (pe_int) (nomark _)) (pss_one (ps_set (i := 5) sc__law_ask.nd rfl (by first | exact Or.inl rfl | exact Or.inr rfl) (pe_fe (E := (WE W1)) F_check_list (hr.mono (by decide)) (by rfl) (fun σ => passAt tk1 σ) (pa_cons (pv 1) (pa_nil))))) (pss_one (ps_if (pt_cmpR (opA_eq hu64) (pv 0) (pe_int) (nomark _)) (pss_one (ps_set (i := 5) sc__law_ask.nd rfl (by first | exact Or.inl rfl | exact Or.inr rfl) (pe_fe (E := (WE W1)) F_swap_at (hr.mono (by decide)) (by rfl) (fun σ => passAt tk1 σ) (pa_cons (pv 1) (pa_cons (pv 3) (pa_nil)))))) (pss_one (ps_if (pt_cmpR (opA_eq hu64) (pv 0) (pe_int) (nomark _)) (pss_one (ps_set (i := 5) sc__law_ask.nd rfl (by first | exact Or.inl rfl | exact Or.inr rfl) (pe_fe (E := (WE W1)) F_differing_pairs (hr.mono (by decide)) (by rfl) (fun σ => passAt tk1 σ) (pa_cons (pv 1) (pa_cons (pv 2) (pa_nil)))))) (pss_one (ps_set (i := 5) sc__law_ask.nd rfl (by first | exact Or.inl rfl | exact Or.inr rfl) (pe_fe (E := (WE W1)) F_straight_swaps (hr.mono (by decide)) (by rfl) (fun σ => passAt tk1 σ) (pa_cons (pv 1) (pa_cons (pv 2) (pa_nil)))))))))))) ((ClsOk.cons (i := 4) (ts := (fun ea ecls ed => tSeq (tAsg (tAndV (tCB (rIsX K ea ecls ed) (tCons (tVar 4) (tCons (tC (.ref (He.ga K "DriftError"))) (tNil)))) (tCB (rIsX K ea ecls ed) (tCons (tVar 4) (tCons (tC (.ty "ValueError")) (tNil))))) (gName 6))
    (tSeq (tAsg (tAndV (tVar 6) (tAndV (tNotV (tCB (rIsX K ea ecls ed) (tCons (tVar 4) (tCons (tC (.ref (He.ga K "UnlikeKeys"))) (tNil))))) (tNotV (tCB (rIsX K ea ecls ed) (tCons (tVar 4) (tCons (tC (.ref (He.ga K "InvalidSwap"))) (tNil))))))) (gName 6))
    (tRet (tTup (tCons (tC (.str "list")) (tCons (tXf ea ecls ed (He.ga K "InvalidList") "place" (tVar 4)) (tCons (tVar 6) (tNil))))))))) ⟨rfl, by decide, .inl T.g_InvalidList⟩ rfl rfl (fun ea oe ecls ed pn hz hf => pss_cons (ps_set (i := 6) sc__law_ask.nd rfl (by first | exact Or.inl rfl | exact Or.inr rfl) (pe_and (pe_callB (call_isX hz hf) (by rfl) T.n_isinstance (by decide +kernel) (pa_cons (pv 4) (pa_cons (pe_glob rfl T.g_DriftError rfl) (pa_nil)))) (pe_one (pe_callB (call_isX hz hf) (by rfl) T.n_isinstance (by decide +kernel) (pa_cons (pv 4) (pa_cons (pe_bltn (v := .ty "ValueError") (by rfl) T.n_ValueError (by decide +kernel) rfl) (pa_nil)))))))
      (pss_cons (ps_set (i := 6) sc__law_ask.nd rfl (by first | exact Or.inl rfl | exact Or.inr rfl) (pe_and (pv 6) (pe_and (pe_not (pe_callB (call_isX hz hf) (by rfl) T.n_isinstance (by decide +kernel) (pa_cons (pv 4) (pa_cons (pe_glob rfl T.g_UnlikeKeys rfl) (pa_nil))))) (pe_one (pe_not (pe_callB (call_isX hz hf) (by rfl) T.n_isinstance (by decide +kernel) (pa_cons (pv 4) (pa_cons (pe_glob rfl T.g_InvalidSwap rfl) (pa_nil)))))))))
      (pss_one (ps_ret (pe_tup (pa_cons (pe_str) (pa_cons (pe_xf T.x_InvalidList.xf T.x_InvalidList.no hz hf (pv 4)) (pa_cons (pv 6) (pa_nil))))))))) (ClsOk.cons (i := 4) (ts := (fun ea ecls ed => tSeq (tAsg (tAndV (tCB (rIsX K ea ecls ed) (tCons (tVar 4) (tCons (tC (.ref (He.ga K "DriftError"))) (tNil)))) (tCB (rIsX K ea ecls ed) (tCons (tVar 4) (tCons (tC (.ty "ValueError")) (tNil))))) (gName 6))
    (tRet (tTup (tCons (tC (.str "unlike")) (tCons (tXf ea ecls ed (He.ga K "UnlikeKeys") "key" (tVar 4)) (tCons (tAndV (tVar 6) (tNotV (tCB (rIsX K ea ecls ed) (tCons (tVar 4) (tCons (tC (.ref (He.ga K "InvalidSwap"))) (tNil)))))) (tNil)))))))) ⟨rfl, by decide, .inl T.g_UnlikeKeys⟩ rfl rfl (fun ea oe ecls ed pn hz hf => pss_cons (ps_set (i := 6) sc__law_ask.nd rfl (by first | exact Or.inl rfl | exact Or.inr rfl) (pe_and (pe_callB (call_isX hz hf) (by rfl) T.n_isinstance (by decide +kernel) (pa_cons (pv 4) (pa_cons (pe_glob rfl T.g_DriftError rfl) (pa_nil)))) (pe_one (pe_callB (call_isX hz hf) (by rfl) T.n_isinstance (by decide +kernel) (pa_cons (pv 4) (pa_cons (pe_bltn (v := .ty "ValueError") (by rfl) T.n_ValueError (by decide +kernel) rfl) (pa_nil)))))))
      (pss_one (ps_ret (pe_tup (pa_cons (pe_str) (pa_cons (pe_xf T.x_UnlikeKeys.xf T.x_UnlikeKeys.no hz hf (pv 4)) (pa_cons (pe_and (pv 6) (pe_one (pe_not (pe_callB (call_isX hz hf) (by rfl) T.n_isinstance (by decide +kernel) (pa_cons (pv 4) (pa_cons (pe_glob rfl T.g_InvalidSwap rfl) (pa_nil))))))) (pa_nil)))))))) (ClsOk.cons (i := 4) (ts := (fun ea ecls ed => tRet (tTup (tCons (tC (.str "swap")) (tCons (tXf ea ecls ed (He.ga K "InvalidSwap") "step" (tVar 4)) (tCons (tAndV (tCB (rIsX K ea ecls ed) (tCons (tVar 4) (tCons (tC (.ref (He.ga K "DriftError"))) (tNil)))) (tCB (rIsX K ea ecls ed) (tCons (tVar 4) (tCons (tC (.ty "ValueError")) (tNil))))) (tNil))))))) ⟨rfl, by decide, .inl T.g_InvalidSwap⟩ rfl rfl (fun ea oe ecls ed pn hz hf => pss_one (ps_ret (pe_tup (pa_cons (pe_str) (pa_cons (pe_xf T.x_InvalidSwap.xf T.x_InvalidSwap.no hz hf (pv 4)) (pa_cons (pe_and (pe_callB (call_isX hz hf) (by rfl) T.n_isinstance (by decide +kernel) (pa_cons (pv 4) (pa_cons (pe_glob rfl T.g_DriftError rfl) (pa_nil)))) (pe_one (pe_callB (call_isX hz hf) (by rfl) T.n_isinstance (by decide +kernel) (pa_cons (pv 4) (pa_cons (pe_bltn (v := .ty "ValueError") (by rfl) T.n_ValueError (by decide +kernel) rfl) (pa_nil)))))) (pa_nil))))))) .nil)))))
      (pss_one (ps_ret (pe_tup (pa_cons (pe_str) (pa_cons (pv 5) (pa_cons (pe_bl) (pa_nil)))))))
theorem ok__law_differing (T : TX P K mg)
    (len : ∀ ds O k x, sp__law_differing K ds O k x → ds.length = 2)
    (walk : ∀ W ds O k x, sp__law_differing K ds O k x → (∀ p ∈ O, p.loc = false) → wpS K W (fun e _ O' => x e O') (t__law_differing K W) (startD N__law_differing.length ds) O { nx := fun _ O' => k .non O', rt := k }) : FE P w K mg base 1 "_law_differing" ["_law_first", "_law_second_here"] [] (toSp K (sp__law_differing K)) := by
  refine fe_of (ts := t__law_differing K) T.F__law_differing T.g__law_differing sc__law_differing len (fun fd F => binds0 F fun _ _ _ _ _ _ us hl => match us, hl with | [_, _], _ => rfl) (fun cdv A outer s H E hr => ?_) walk
  have hu := hu_of hr
  have hu64 : (A.deeper (envOfC "_law_differing" (defScope s__law_differing) s.heap.objs.size (He.ga K "_law_differing") cdv)).units + 64 < cLine := by have := hr.un; omega
  unfold t__law_differing
  exact pss_cons (ps_set (i := 2) sc__law_differing.nd rfl (by first | exact Or.inl rfl | exact Or.inr rfl) (pe_lst (pa_nil)))
      (pss_cons (ps_for (passes_of rfl) rfl (pi_list (pe_callB callA_sorted (by rfl) T.n_sorted (by decide +kernel) (pa_cons (pv 0) (pa_nil)))) (pg_name (i := 3) sc__law_differing.nd rfl (by first | exact Or.inl rfl | exact Or.inr rfl)) (pss_one (ps_for (passes_of rfl) rfl (pi_list (pe_callB callA_sorted (by rfl) T.n_sorted (by decide +kernel) (pa_cons (pv 0) (pa_nil)))) (pg_name (i := 4) sc__law_differing.nd rfl (by first | exact Or.inl rfl | exact Or.inr rfl)) (pss_one (ps_if (PW.pt (pw_and (pt_cmpR opA_lt (pe_bm PySem.F.plainAttrs_list PySem.F.slot_list_index PySem.F.type_list_index mt_index (pv 0) (pa_cons (pv 3) (pa_nil))) (pe_bm PySem.F.plainAttrs_list PySem.F.slot_list_index PySem.F.type_list_index mt_index (pv 0) (pa_cons (pv 4) (pa_nil))) (nomark _)) (pw_and1 (pt_cmpR opA_lt (pe_bm PySem.F.plainAttrs_list PySem.F.slot_list_index PySem.F.type_list_index mt_index (pv 1) (pa_cons (pv 4) (pa_nil))) (pe_bm PySem.F.plainAttrs_list PySem.F.slot_list_index PySem.F.type_list_index mt_index (pv 1) (pa_cons (pv 3) (pa_nil))) (nomark _))))) (pss_one (ps_expr (pe_bm PySem.F.plainAttrs_list PySem.F.slot_list_append PySem.F.type_list_append mt_append (pv 2) (pa_cons (pe_tup (pa_cons (pv 3) (pa_cons (pv 4) (pa_nil)))) (pa_nil))))) (pss_nil))))))
      (pss_one (ps_ret (pv 2))))
theorem ok__law_unlike (T : TX P K mg)
    (len : ∀ ds O k x, sp__law_unlike K ds O k x → ds.length = 2)
    (walk : ∀ W ds O k x, sp__law_unlike K ds O k x → (∀ p ∈ O, p.loc = false) → wpS K W (fun e _ O' => x e O') (t__law_unlike K W) (startD N__law_unlike.length ds) O { nx := fun _ O' => k .non O', rt := k }) : FE P w K mg base 1 "_law_unlike" ["_law_first", "_law_second_here"] [] (toSp K (sp__law_unlike K)) := by
  refine fe_of (ts := t__law_unlike K) T.F__law_unlike T.g__law_unlike sc__law_unlike len (fun fd F => binds0 F fun _ _ _ _ _ _ us hl => match us, hl with | [_, _], _ => rfl) (fun cdv A outer s H E hr => ?_) walk
  have hu := hu_of hr
  have hu64 : (A.deeper (envOfC "_law_unlike" (defScope s__law_unlike) s.heap.objs.size (He.ga K "_law_unlike") cdv)).units + 64 < cLine := by have := hr.un; omega
  unfold t__law_unlike
  exact pss_cons (ps_setLc (i := 2) (own := [("_law_key", 4)]) (g := gName 4) (tt := tTest (tOp (rIn K true) (tVar 4) (tVar 1))) rfl sc__law_unlike.nd rfl rfl (sw_true rfl rfl rfl (by decide +kernel)) (pi_list (pv 0)) (blkOk_by (N := N__law_unlike) (sc := defScope s__law_unlike) (by decide +kernel)) (fun _ _ _ _ _ => pg_name (i := 4) sc__law_unlike.nd rfl (by first | exact Or.inl rfl | exact Or.inr rfl)) (fun _ _ _ _ _ => pts_one (pt_cmpR op_notIn_seq (pv 4) (pv 1) (by rfl))) (fun _ _ _ _ _ => pv 4))
      (pss_cons (ps_setLc (i := 3) (own := [("_law_key", 4)]) (g := gName 4) (tt := tTest (tOp (rIn K true) (tVar 4) (tVar 0))) rfl sc__law_unlike.nd rfl rfl (sw_true rfl rfl rfl (by decide +kernel)) (pi_list (pv 1)) (blkOk_by (N := N__law_unlike) (sc := defScope s__law_unlike) (by decide +kernel)) (fun _ _ _ _ _ => pg_name (i := 4) sc__law_unlike.nd rfl (by first | exact Or.inl rfl | exact Or.inr rfl)) (fun _ _ _ _ _ => pts_one (pt_cmpR op_notIn_seq (pv 4) (pv 0) (by rfl))) (fun _ _ _ _ _ => pv 4))
      (pss_cons (ps_if (pt_truth (pe_op opA_add (pv 2) (pv 3)) (by intro _; rfl)) (pss_one (ps_ret (pe_callB (cr_min rfl) (by rfl) T.n_min (by decide +kernel) (pa_cons (pe_op opA_add (pv 2) (pv 3)) (pa_nil))))) (pss_nil))
      (pss_one (ps_ret (pe_non)))))
theorem ok__law_wrong (T : TX P K mg)
    (len : ∀ ds O k x, sp__law_wrong K ds O k x → ds.length = 1)
    (walk : ∀ W ds O k x, sp__law_wrong K ds O k x → (∀ p ∈ O, p.loc = false) → wpS K W (fun e _ O' => x e O') (t__law_wrong K W) (startD N__law_wrong.length ds) O { nx := fun _ O' => k .non O', rt := k }) : FE P w K mg base 1 "_law_wrong" ["_law_order_here"] [] (toSp K (sp__law_wrong K)) := by
  refine fe_of (ts := t__law_wrong K) T.F__law_wrong T.g__law_wrong sc__law_wrong len (fun fd F => binds0 F fun _ _ _ _ _ _ us hl => match us, hl with | [_], _ => rfl) (fun cdv A outer s H E hr => ?_) walk
  have hu := hu_of hr
  have hu64 : (A.deeper (envOfC "_law_wrong" (defScope s__law_wrong) s.heap.objs.size (He.ga K "_law_wrong") cdv)).units + 64 < cLine := by have := hr.un; omega
  unfold t__law_wrong
  exact pss_cons (ps_for (passes_of rfl) rfl (pi_range1 (by rfl) T.n_range (pa_cons (pe_callB callA_len (by rfl) T.n_len (by decide +kernel) (pa_cons (pv 0) (pa_nil))) (pa_nil))) (pg_name (i := 1) sc__law_wrong.nd rfl (by first | exact Or.inl rfl | exact Or.inr rfl)) (pss_one (ps_if (PW.pt (pw_or (pt_cmpR opA_ge (pv 1) (pe_int) (nomark _)) (pw_or (pt_cmpR opA_lt (pe_ix ix_lt (pv 0) (pv 1) (fun _ _ => rfl)) (pe_int) (nomark _)) (pw_or (pt_cmpR opA_gt (pe_ix ix_lt (pv 0) (pv 1) (fun _ _ => rfl)) (pe_int) (nomark _)) (pw_or1 (pt_cmpR op_in_seq (pe_ix ix_lt (pv 0) (pv 1) (fun _ _ => rfl)) (pe_slice sl_list (pv 0) (po_none) (po_some (pv 1))) (by rfl))))))) (pss_one (ps_ret (pv 1))) (pss_nil))))
      (pss_one (ps_ret (pe_non)))
theorem ok__law_due (T : TX P K mg) (F__law_unlike : FE P w K mg base 1 "_law_unlike" ["_law_first", "_law_second_here"] [] (toSp K (sp__law_unlike K))) (F__law_wrong : FE P w K mg base 1 "_law_wrong" ["_law_order_here"] [] (toSp K (sp__law_wrong K)))
    (len : ∀ ds O k x, sp__law_due K ds O k x → ds.length = 4)
    (walk : ∀ W ds O k x, sp__law_due K ds O k x → (∀ p ∈ O, p.loc = false) → wpS K W (fun e _ O' => x e O') (t__law_due K W) (startD N__law_due.length ds) O { nx := fun _ O' => k .non O', rt := k }) : FE P w K mg base 2 "_law_due" ["_law_way", "_law_first", "_law_second_here", "_law_index"] [] (toSp K (sp__law_due K)) := by
  refine fe_of (ts := t__law_due K) T.F__law_due T.g__law_due sc__law_due len (fun fd F => binds0 F fun _ _ _ _ _ _ us hl => match us, hl with | [_, _, _, _], _ => rfl) (fun cdv A outer s H E hr => ?_) walk
  have hu := hu_of hr
  have hu64 : (A.deeper (envOfC "_law_due" (defScope s__law_due) s.heap.objs.size (He.ga K "_law_due") cdv)).units + 64 < cLine := by have := hr.un; omega
  unfold t__law_due
  exact pss_cons (ps_set (i := 4) sc__law_due.nd rfl (by first | exact Or.inl rfl | exact Or.inr rfl) (pe_fe (E := (WE fun cls d _ H => E cls d H)) F__law_wrong (hr.mono (by decide)) (by rfl) (fun σ => passAt (takes_of rfl rfl rfl rfl) σ) (pa_cons (pv 1) (pa_nil))))
      (pss_cons (ps_if (pt_cmpR opA_notN (pv 4) (pe_non) (nomark _)) (pss_one (ps_ret (pe_tup (pa_cons (pe_str) (pa_cons (pv 4) (pa_nil)))))) (pss_nil))
      (pss_cons (ps_if (PW.pt (pw_and (pt_cmpR (opA_eq hu64) (pv 0) (pe_int) (nomark _)) (pw_and1 (PW.pt (pw_or (pt_cmpR opA_lt (pv 3) (pe_int) (nomark _)) (pw_or1 (pt_cmpR opA_gt (pv 3) (pe_op opA_sub (pe_callB callA_len (by rfl) T.n_len (by decide +kernel) (pa_cons (pv 1) (pa_nil))) (pe_int)) (nomark _)))))))) (pss_one (ps_ret (pe_tup (pa_cons (pe_str) (pa_cons (pe_int) (pa_nil)))))) (pss_nil))
      (pss_cons (ps_if (pt_cmpR opA_lt (pv 0) (pe_int) (nomark _)) (pss_one (ps_ret (pe_tup (pa_cons (pe_str) (pa_cons (pe_int) (pa_nil)))))) (pss_nil))
      (pss_cons (ps_set (i := 4) sc__law_due.nd rfl (by first | exact Or.inl rfl | exact Or.inr rfl) (pe_fe (E := (WE fun cls d _ H => E cls d H)) F__law_wrong (hr.mono (by decide)) (by rfl) (fun σ => passAt (takes_of rfl rfl rfl rfl) σ) (pa_cons (pv 2) (pa_nil))))
      (pss_cons (ps_if (pt_cmpR opA_notN (pv 4) (pe_non) (nomark _)) (pss_one (ps_ret (pe_tup (pa_cons (pe_str) (pa_cons (pv 4) (pa_nil)))))) (pss_nil))
      (pss_cons (ps_set (i := 5) sc__law_due.nd rfl (by first | exact Or.inl rfl | exact Or.inr rfl) (pe_fe (E := (WE fun cls d _ H => E cls d H)) F__law_unlike (hr.mono (by decide)) (by rfl) (fun σ => passAt (takes_of rfl rfl rfl rfl) σ) (pa_cons (pv 1) (pa_cons (pv 2) (pa_nil)))))
      (pss_cons (ps_if (pt_cmpR opA_notN (pv 5) (pe_non) (nomark _)) (pss_one (ps_ret (pe_tup (pa_cons (pe_str) (pa_cons (pv 5) (pa_nil)))))) (pss_nil))
      (pss_one (ps_ret (pe_tup (pa_cons (pe_str) (pa_cons (pe_int) (pa_nil)))))))))))))
theorem ok__law_exchanged (T : TX P K mg)
    (len : ∀ ds O k x, sp__law_exchanged K ds O k x → ds.length = 2)
    (walk : ∀ W ds O k x, sp__law_exchanged K ds O k x → (∀ p ∈ O, p.loc = false) → wpS K W (fun e _ O' => x e O') (t__law_exchanged K W) (startD N__law_exchanged.length ds) O { nx := fun _ O' => k .non O', rt := k }) : FE P w K mg base 1 "_law_exchanged" ["_law_order_here", "_law_place"] [] (toSp K (sp__law_exchanged K)) := by
  refine fe_of (ts := t__law_exchanged K) T.F__law_exchanged T.g__law_exchanged sc__law_exchanged len (fun fd F => binds0 F fun _ _ _ _ _ _ us hl => match us, hl with | [_, _], _ => rfl) (fun cdv A outer s H E hr => ?_) walk
  have hu := hu_of hr
  have hu64 : (A.deeper (envOfC "_law_exchanged" (defScope s__law_exchanged) s.heap.objs.size (He.ga K "_law_exchanged") cdv)).units + 64 < cLine := by have := hr.un; omega
  unfold t__law_exchanged
  exact pss_cons (ps_set (i := 2) sc__law_exchanged.nd rfl (by first | exact Or.inl rfl | exact Or.inr rfl) (pe_callTy callA_list (by rfl) T.n_list (by decide +kernel) (pa_cons (pv 0) (pa_nil))))
      (pss_cons (ps_asg (pe_ix ix_lt (pv 0) (pe_op opA_add (pv 1) (pe_int)) (fun _ _ => rfl)) (pg_sub (pv 2) (pv 1) set_list))
      (pss_cons (ps_asg (pe_ix ix_lt (pv 0) (pv 1) (fun _ _ => rfl)) (pg_sub (pv 2) (pe_op opA_add (pv 1) (pe_int)) set_list))
      (pss_one (ps_ret (pv 2)))))
theorem ok__law_int (T : TX P K mg)
    (len : ∀ ds O k x, sp__law_int K ds O k x → ds.length = 1)
    (walk : ∀ W ds O k x, sp__law_int K ds O k x → (∀ p ∈ O, p.loc = false) → wpS K W (fun e _ O' => x e O') (t__law_int K W) (startD N__law_int.length ds) O { nx := fun _ O' => k .non O', rt := k }) : FE P w K mg base 1 "_law_int" ["_law_value"] [] (toSp K (sp__law_int K)) := by
  refine fe_of (ts := t__law_int K) T.F__law_int T.g__law_int sc__law_int len (fun fd F => binds0 F fun _ _ _ _ _ _ us hl => match us, hl with | [_], _ => rfl) (fun cdv A outer s H E hr => ?_) walk
  have hu := hu_of hr
  have hu64 : (A.deeper (envOfC "_law_int" (defScope s__law_int) s.heap.objs.size (He.ga K "_law_int") cdv)).units + 64 < cLine := by have := hr.un; omega
  unfold t__law_int
  exact pss_one (ps_ret (pe_and (pe_callB call_isi (by rfl) T.n_isinstance (by decide +kernel) (pa_cons (pv 0) (pa_cons (pe_bltn (v := .ty "int") (by rfl) T.n_int (by decide +kernel) rfl) (pa_nil)))) (pe_one (pe_not (pe_callB call_isi (by rfl) T.n_isinstance (by decide +kernel) (pa_cons (pv 0) (pa_cons (pe_bltn (v := .ty "bool") (by rfl) T.n_bool (by decide +kernel) rfl) (pa_nil))))))))
theorem ok__law_ints (T : TX P K mg) (F__law_int : FE P w K mg base 1 "_law_int" ["_law_value"] [] (toSp K (sp__law_int K)))
    (len : ∀ ds O k x, sp__law_ints K ds O k x → ds.length = 2)
    (walk : ∀ W ds O k x, sp__law_ints K ds O k x → (∀ p ∈ O, p.loc = false) → wpS K W (fun e _ O' => x e O') (t__law_ints K W) (startD N__law_ints.length ds) O { nx := fun _ O' => k .non O', rt := k }) : FE P w K mg base 2 "_law_ints" ["_law_told", "_law_due_here"] [] (toSp K (sp__law_ints K)) := by
  refine fe_of (ts := t__law_ints K) T.F__law_ints T.g__law_ints sc__law_ints len (fun fd F => binds0 F fun _ _ _ _ _ _ us hl => match us, hl with | [_, _], _ => rfl) (fun cdv A outer s H E hr => ?_) walk
  have hu := hu_of hr
  have hu64 : (A.deeper (envOfC "_law_ints" (defScope s__law_ints) s.heap.objs.size (He.ga K "_law_ints") cdv)).units + 64 < cLine := by have := hr.un; omega
  unfold t__law_ints
  exact pss_cons (ps_if (PW.pt (pw_or (pt_not (pt_truth (pe_callB call_isi (by rfl) T.n_isinstance (by decide +kernel) (pa_cons (pv 0) (pa_cons (pe_bltn (v := .ty "list") (by rfl) T.n_list (by decide +kernel) rfl) (pa_nil)))) (by intro _; rfl))) (pw_or1 (pt_not (pt_truth (pe_callB (cr_all rfl) (by rfl) T.n_all (by decide +kernel) (pa_cons (pe_lc (own := [("_law_value", 2)]) (g := gName 2) (tt := tYes) rfl sc__law_ints.nd (pi_list (pv 0)) (blkOk_by (N := N__law_ints) (sc := defScope s__law_ints) (by decide +kernel)) (fun _ _ _ _ _ => pg_name (i := 2) sc__law_ints.nd rfl (by first | exact Or.inl rfl | exact Or.inr rfl)) (fun _ _ _ _ _ => pts_nil) (fun _ _ _ _ _ => pe_fe (E := (fun _ => E0)) F__law_int (hr.mono (by decide)) (by rfl) (fun σ => passE σ) (pa_cons (pv 2) (pa_nil)))) (pa_nil))) (by intro _; rfl)))))) (pss_one (ps_ret (pe_bl))) (pss_nil))
      (pss_one (ps_ret (pe_cmpR (opA_eq hu64) (pv 0) (pv 1) (nomark _))))
theorem ok__law_straight (T : TX P K mg) (F__law_differing : FE P w K mg base 1 "_law_differing" ["_law_first", "_law_second_here"] [] (toSp K (sp__law_differing K))) (F__law_exchanged : FE P w K mg base 1 "_law_exchanged" ["_law_order_here", "_law_place"] [] (toSp K (sp__law_exchanged K))) (F__law_int : FE P w K mg base 1 "_law_int" ["_law_value"] [] (toSp K (sp__law_int K)))
    (len : ∀ ds O k x, sp__law_straight K ds O k x → ds.length = 3)
    (walk : ∀ W ds O k x, sp__law_straight K ds O k x → (∀ p ∈ O, p.loc = false) → wpS K W (fun e _ O' => x e O') (t__law_straight K W) (startD N__law_straight.length ds) O { nx := fun _ O' => k .non O', rt := k }) : FE P w K mg base 2 "_law_straight" ["_law_first", "_law_second_here", "_law_told"] [] (toSp K (sp__law_straight K)) := by
  refine fe_of (ts := t__law_straight K) T.F__law_straight T.g__law_straight sc__law_straight len (fun fd F => binds0 F fun _ _ _ _ _ _ us hl => match us, hl with | [_, _, _], _ => rfl) (fun cdv A outer s H E hr => ?_) walk
  have hu := hu_of hr
  have hu64 : (A.deeper (envOfC "_law_straight" (defScope s__law_straight) s.heap.objs.size (He.ga K "_law_straight") cdv)).units + 64 < cLine := by have := hr.un; omega
  unfold t__law_straight
  exact pss_cons (ps_if (PW.pt (pw_or (pt_not (pt_truth (pe_callB call_isi (by rfl) T.n_isinstance (by decide +kernel) (pa_cons (pv 2) (pa_cons (pe_bltn (v := .ty "list") (by rfl) T.n_list (by decide +kernel) rfl) (pa_nil)))) (by intro _; rfl))) (pw_or1 (pt_not (pt_truth (pe_callB (cr_all rfl) (by rfl) T.n_all (by decide +kernel) (pa_cons (pe_lc (own := [("_law_place", 4)]) (g := gName 4) (tt := tYes) rfl sc__law_straight.nd (pi_list (pv 2)) (blkOk_by (N := N__law_straight) (sc := defScope s__law_straight) (by decide +kernel)) (fun _ _ _ _ _ => pg_name (i := 4) sc__law_straight.nd rfl (by first | exact Or.inl rfl | exact Or.inr rfl)) (fun _ _ _ _ _ => pts_nil) (fun _ _ _ _ _ => pe_fe (E := (fun _ => E0)) F__law_int (hr.mono (by decide)) (by rfl) (fun σ => passE σ) (pa_cons (pv 4) (pa_nil)))) (pa_nil))) (by intro _; rfl)))))) (pss_one (ps_ret (pe_bl))) (pss_nil))
      (pss_cons (ps_if (pt_cmpR (opA_ne hu64) (pe_callB callA_len (by rfl) T.n_len (by decide +kernel) (pa_cons (pv 2) (pa_nil))) (pe_callB callA_len (by rfl) T.n_len (by decide +kernel) (pa_cons (pe_fe (E := (WE fun cls d _ H => E cls d H)) F__law_differing (hr.mono (by decide)) (by rfl) (fun σ => passAt (takes_of rfl rfl rfl rfl) σ) (pa_cons (pv 0) (pa_cons (pv 1) (pa_nil)))) (pa_nil))) (nomark _)) (pss_one (ps_ret (pe_bl))) (pss_nil))
      (pss_cons (ps_set (i := 3) sc__law_straight.nd rfl (by first | exact Or.inl rfl | exact Or.inr rfl) (pe_callTy callA_list (by rfl) T.n_list (by decide +kernel) (pa_cons (pv 0) (pa_nil))))
      (pss_cons (ps_for (passes_of rfl) rfl (pi_list (pv 2)) (pg_name (i := 4) sc__law_straight.nd rfl (by first | exact Or.inl rfl | exact Or.inr rfl)) (pss_cons (ps_setLc (i := 5) (own := [("_law_k", 6)]) (g := gName 6) (tt := tTest (tOp rLtA (tBM K "list" (rIndex K) (tVar 1) (tCons (tOp (rIxLT K) (tVar 3) (tOp rAddA (tVar 6) (tC (.int 1)))) (tNil))) (tBM K "list" (rIndex K) (tVar 1) (tCons (tOp (rIxLT K) (tVar 3) (tVar 6)) (tNil))))) rfl sc__law_straight.nd rfl rfl (sw_true rfl rfl rfl (by decide +kernel)) (pi_range1 (by rfl) T.n_range (pa_cons (pe_op opA_sub (pe_callB callA_len (by rfl) T.n_len (by decide +kernel) (pa_cons (pv 3) (pa_nil))) (pe_int)) (pa_nil))) (blkOk_by (N := N__law_straight) (sc := defScope s__law_straight) (by decide +kernel)) (fun _ _ _ _ _ => pg_name (i := 6) sc__law_straight.nd rfl (by first | exact Or.inl rfl | exact Or.inr rfl)) (fun _ _ _ _ _ => pts_one (pt_cmpR opA_lt (pe_bm PySem.F.plainAttrs_list PySem.F.slot_list_index PySem.F.type_list_index mt_index (pv 1) (pa_cons (pe_ix ix_lt (pv 3) (pe_op opA_add (pv 6) (pe_int)) (fun _ _ => rfl)) (pa_nil))) (pe_bm PySem.F.plainAttrs_list PySem.F.slot_list_index PySem.F.type_list_index mt_index (pv 1) (pa_cons (pe_ix ix_lt (pv 3) (pv 6) (fun _ _ => rfl)) (pa_nil))) (nomark _))) (fun _ _ _ _ _ => pv 6))
      (pss_cons (ps_if (PW.pt (pw_or (pt_not (pt_truth (pv 5) (by intro _; rfl))) (pw_or1 (pt_cmpR (opA_ne hu64) (pv 4) (pe_ix ix_lt (pv 5) (pe_int) (fun _ _ => rfl)) (nomark _))))) (pss_one (ps_ret (pe_bl))) (pss_nil))
      (pss_one (ps_set (i := 3) sc__law_straight.nd rfl (by first | exact Or.inl rfl | exact Or.inr rfl) (pe_fe (E := (WE fun cls d _ H => E cls d H)) F__law_exchanged (hr.mono (by decide)) (by rfl) (fun σ => passAt (takes_of rfl rfl rfl rfl) σ) (pa_cons (pv 3) (pa_cons (pv 4) (pa_nil)))))))))
      (pss_one (ps_ret (pe_cmpR (opA_eq hu64) (pv 3) (pv 1) (nomark _)))))))
theorem ok__law_tuple (T : TX P K mg) (F__law_int : FE P w K mg base 1 "_law_int" ["_law_value"] [] (toSp K (sp__law_int K)))
    (len : ∀ ds O k x, sp__law_tuple K ds O k x → ds.length = 2)
    (walk : ∀ W ds O k x, sp__law_tuple K ds O k x → (∀ p ∈ O, p.loc = false) → wpS K W (fun e _ O' => x e O') (t__law_tuple K W) (startD N__law_tuple.length ds) O { nx := fun _ O' => k .non O', rt := k }) : FE P w K mg base 2 "_law_tuple" ["_law_told", "_law_due_here"] [] (toSp K (sp__law_tuple K)) := by
  refine fe_of (ts := t__law_tuple K) T.F__law_tuple T.g__law_tuple sc__law_tuple len (fun fd F => binds0 F fun _ _ _ _ _ _ us hl => match us, hl with | [_, _], _ => rfl) (fun cdv A outer s H E hr => ?_) walk
  have hu := hu_of hr
  have hu64 : (A.deeper (envOfC "_law_tuple" (defScope s__law_tuple) s.heap.objs.size (He.ga K "_law_tuple") cdv)).units + 64 < cLine := by have := hr.un; omega
  unfold t__law_tuple
  exact pss_cons (ps_if (PW.pt (pw_or (pt_not (pt_truth (pe_callB call_isi (by rfl) T.n_isinstance (by decide +kernel) (pa_cons (pv 0) (pa_cons (pe_bltn (v := .ty "tuple") (by rfl) T.n_tuple (by decide +kernel) rfl) (pa_nil)))) (by intro _; rfl))) (pw_or1 (pt_not (pt_truth (pe_callB (cr_all rfl) (by rfl) T.n_all (by decide +kernel) (pa_cons (pe_lc (own := [("_law_value", 2)]) (g := gName 2) (tt := tYes) rfl sc__law_tuple.nd (pi_tup (pv 0)) (blkOk_by (N := N__law_tuple) (sc := defScope s__law_tuple) (by decide +kernel)) (fun _ _ _ _ _ => pg_name (i := 2) sc__law_tuple.nd rfl (by first | exact Or.inl rfl | exact Or.inr rfl)) (fun _ _ _ _ _ => pts_nil) (fun _ _ _ _ _ => pe_fe (E := (fun _ => E0)) F__law_int (hr.mono (by decide)) (by rfl) (fun σ => passE σ) (pa_cons (pv 2) (pa_nil)))) (pa_nil))) (by intro _; rfl)))))) (pss_one (ps_ret (pe_bl))) (pss_nil))
      (pss_one (ps_ret (pe_cmpR (opA_eq hu64) (pv 0) (pv 1) (nomark _))))
theorem ok__law_tuples (T : TX P K mg) (F__law_tuple : FE P w K mg base 2 "_law_tuple" ["_law_told", "_law_due_here"] [] (toSp K (sp__law_tuple K)))
    (len : ∀ ds O k x, sp__law_tuples K ds O k x → ds.length = 2)
    (walk : ∀ W ds O k x, sp__law_tuples K ds O k x → (∀ p ∈ O, p.loc = false) → wpS K W (fun e _ O' => x e O') (t__law_tuples K W) (startD N__law_tuples.length ds) O { nx := fun _ O' => k .non O', rt := k }) : FE P w K mg base 3 "_law_tuples" ["_law_told", "_law_due_here"] [] (toSp K (sp__law_tuples K)) := by
  refine fe_of (ts := t__law_tuples K) T.F__law_tuples T.g__law_tuples sc__law_tuples len (fun fd F => binds0 F fun _ _ _ _ _ _ us hl => match us, hl with | [_, _], _ => rfl) (fun cdv A outer s H E hr => ?_) walk
  have hu := hu_of hr
  have hu64 : (A.deeper (envOfC "_law_tuples" (defScope s__law_tuples) s.heap.objs.size (He.ga K "_law_tuples") cdv)).units + 64 < cLine := by have := hr.un; omega
  unfold t__law_tuples
  exact pss_cons (ps_if (PW.pt (pw_or (pt_not (pt_truth (pe_callB call_isi (by rfl) T.n_isinstance (by decide +kernel) (pa_cons (pv 0) (pa_cons (pe_bltn (v := .ty "list") (by rfl) T.n_list (by decide +kernel) rfl) (pa_nil)))) (by intro _; rfl))) (pw_or1 (pt_cmpR (opA_ne hu64) (pe_callB callA_len (by rfl) T.n_len (by decide +kernel) (pa_cons (pv 0) (pa_nil))) (pe_callB callA_len (by rfl) T.n_len (by decide +kernel) (pa_cons (pv 1) (pa_nil))) (nomark _))))) (pss_one (ps_ret (pe_bl))) (pss_nil))
      (pss_one (ps_ret (pe_callB (cr_all rfl) (by rfl) T.n_all (by decide +kernel) (pa_cons (pe_lc (own := [("_law_k", 2)]) (g := gName 2) (tt := tYes) rfl sc__law_tuples.nd (pi_range1 (by rfl) T.n_range (pa_cons (pe_callB callA_len (by rfl) T.n_len (by decide +kernel) (pa_cons (pv 1) (pa_nil))) (pa_nil))) (blkOk_by (N := N__law_tuples) (sc := defScope s__law_tuples) (by decide +kernel)) (fun _ _ _ _ _ => pg_name (i := 2) sc__law_tuples.nd rfl (by first | exact Or.inl rfl | exact Or.inr rfl)) (fun _ _ _ _ _ => pts_nil) (fun _ _ _ _ _ => pe_fe (E := (fun _ => E0)) F__law_tuple (hr.mono (by decide)) (by rfl) (fun σ => passE σ) (pa_cons (pe_ix ix_lt (pv 0) (pv 2) (fun _ _ => rfl)) (pa_cons (pe_ix ix_lt (pv 1) (pv 2) (fun _ _ => rfl)) (pa_nil))))) (pa_nil)))))
theorem ok__law_asked (T : TX P K mg) (F__law_ask : FE P w K mg base 5 "_law_ask" ["_law_way", "_law_first", "_law_second_here", "_law_index"] [] (toSp K (sp__law_ask K))) (F__law_differing : FE P w K mg base 1 "_law_differing" ["_law_first", "_law_second_here"] [] (toSp K (sp__law_differing K))) (F__law_due : FE P w K mg base 2 "_law_due" ["_law_way", "_law_first", "_law_second_here", "_law_index"] [] (toSp K (sp__law_due K))) (F__law_exchanged : FE P w K mg base 1 "_law_exchanged" ["_law_order_here", "_law_place"] [] (toSp K (sp__law_exchanged K))) (F__law_int : FE P w K mg base 1 "_law_int" ["_law_value"] [] (toSp K (sp__law_int K))) (F__law_ints : FE P w K mg base 2 "_law_ints" ["_law_told", "_law_due_here"] [] (toSp K (sp__law_ints K))) (F__law_straight : FE P w K mg base 2 "_law_straight" ["_law_first", "_law_second_here", "_law_told"] [] (toSp K (sp__law_straight K))) (F__law_tuples : FE P w K mg base 3 "_law_tuples" ["_law_told", "_law_due_here"] [] (toSp K (sp__law_tuples K)))
    (len : ∀ ds O k x, sp__law_asked K ds O k x → ds.length = 4)
    (walk : ∀ W ds O k x, sp__law_asked K ds O k x → (∀ p ∈ O, p.loc = false) → wpS K W (fun e _ O' => x e O') (t__law_asked K W) (startD N__law_asked.length ds) O { nx := fun _ O' => k .non O', rt := k }) : FE P w K mg base 6 "_law_asked" ["_law_way", "_law_first", "_law_second_here", "_law_index"] [] (toSp K (sp__law_asked K)) := by
  refine fe_of (ts := t__law_asked K) T.F__law_asked T.g__law_asked sc__law_asked len (fun fd F => binds0 F fun _ _ _ _ _ _ us hl => match us, hl with | [_, _, _, _], _ => rfl) (fun cdv A outer s H E hr => ?_) walk
  have hu := hu_of hr
  have hu64 : (A.deeper (envOfC "_law_asked" (defScope s__law_asked) s.heap.objs.size (He.ga K "_law_asked") cdv)).units + 64 < cLine := by have := hr.un; omega
  unfold t__law_asked
  exact pss_cons (ps_set (i := 4) sc__law_asked.nd rfl (by first | exact Or.inl rfl | exact Or.inr rfl) (pe_lst (pa_cons (pe_callTy callA_list (by rfl) T.n_list (by decide +kernel) (pa_cons (pv 1) (pa_nil))) (pa_cons (pe_callTy callA_list (by rfl) T.n_list (by decide +kernel) (pa_cons (pv 2) (pa_nil))) (pa_nil)))))
      (pss_cons (ps_set (i := 5) sc__law_asked.nd rfl (by first | exact Or.inl rfl | exact Or.inr rfl) (pe_fe (E := (WE fun cls d _ H => E cls d H)) F__law_ask (hr.mono (by decide)) (by rfl) (fun σ => passAt (takes_of rfl rfl rfl rfl) σ) (pa_cons (pv 0) (pa_cons (pe_ix ix_lt (pv 4) (pe_int) (fun _ _ => rfl)) (pa_cons (pe_ix ix_lt (pv 4) (pe_int) (fun _ _ => rfl)) (pa_cons (pv 3) (pa_nil)))))))
      (pss_cons (ps_set (i := 6) sc__law_asked.nd rfl (by first | exact Or.inl rfl | exact Or.inr rfl) (pe_fe (E := (WE fun cls d _ H => E cls d H)) F__law_due (hr.mono (by decide)) (by rfl) (fun σ => passAt (takes_of rfl rfl rfl rfl) σ) (pa_cons (pv 0) (pa_cons (pv 1) (pa_cons (pv 2) (pa_cons (pv 3) (pa_nil)))))))
      (pss_cons (ps_if (PW.pt (pw_or (pt_cmpR (opA_ne hu64) (pe_ix ix_lt (pv 5) (pe_int) (fun _ _ => rfl)) (pe_ix ix_lt (pv 6) (pe_int) (fun _ _ => rfl)) (nomark _)) (pw_or (pt_not (pt_truth (pe_ix ix_lt (pv 5) (pe_int) (fun _ _ => rfl)) (by intro _; rfl))) (pw_or (pt_cmpR (opA_ne hu64) (pe_ix ix_lt (pv 4) (pe_int) (fun _ _ => rfl)) (pv 1) (nomark _)) (pw_or1 (pt_cmpR (opA_ne hu64) (pe_ix ix_lt (pv 4) (pe_int) (fun _ _ => rfl)) (pv 2) (nomark _))))))) (pss_one (ps_ret (pe_bl))) (pss_nil))
      (pss_cons (ps_if (pt_cmpR (opA_ne hu64) (pe_ix ix_lt (pv 6) (pe_int) (fun _ _ => rfl)) (pe_str) (nomark _)) (pss_one (ps_ret (pe_and (pe_fe (E := (WE fun cls d _ H => E cls d H)) F__law_int (hr.mono (by decide)) (by rfl) (fun σ => passAt (takes_of rfl rfl rfl rfl) σ) (pa_cons (pe_ix ix_lt (pv 5) (pe_int) (fun _ _ => rfl)) (pa_nil))) (pe_one (pe_cmpR (opA_eq hu64) (pe_ix ix_lt (pv 5) (pe_int) (fun _ _ => rfl)) (pe_ix ix_lt (pv 6) (pe_int) (fun _ _ => rfl)) (nomark _)))))) (pss_nil))
      (pss_cons (ps_if (pt_cmpR (opA_eq hu64) (pv 0) (pe_int) (nomark _)) (pss_one (ps_ret (pe_cmpR opA_isN (pe_ix ix_lt (pv 5) (pe_int) (fun _ _ => rfl)) (pe_non) (nomark _)))) (pss_nil))
      (pss_cons (ps_if (pt_cmpR (opA_eq hu64) (pv 0) (pe_int) (nomark _)) (pss_cons (ps_if (pt_not (pt_truth (pe_fe (E := (WE fun cls d _ H => E cls d H)) F__law_ints (hr.mono (by decide)) (by rfl) (fun σ => passAt (takes_of rfl rfl rfl rfl) σ) (pa_cons (pe_ix ix_lt (pv 5) (pe_int) (fun _ _ => rfl)) (pa_cons (pe_fe (E := (WE fun cls d _ H => E cls d H)) F__law_exchanged (hr.mono (by decide)) (by rfl) (fun σ => passAt (takes_of rfl rfl rfl rfl) σ) (pa_cons (pv 1) (pa_cons (pv 3) (pa_nil)))) (pa_nil)))) (by intro _; rfl))) (pss_one (ps_ret (pe_bl))) (pss_nil))
      (pss_cons (ps_set (i := 7) sc__law_asked.nd rfl (by first | exact Or.inl rfl | exact Or.inr rfl) (pe_ix ix_lt (pv 5) (pe_int) (fun _ _ => rfl)))
      (pss_cons (ps_expr (pe_bm PySem.F.plainAttrs_list PySem.F.slot_list_append PySem.F.type_list_append mt_append (pv 7) (pa_cons (pe_int) (pa_nil))))
      (pss_one (ps_ret (pe_cmpR (opA_eq hu64) (pe_ix ix_lt (pv 4) (pe_int) (fun _ _ => rfl)) (pv 1) (nomark _))))))) (pss_nil))
      (pss_cons (ps_if (pt_cmpR (opA_eq hu64) (pv 0) (pe_int) (nomark _)) (pss_one (ps_ret (pe_fe (E := (WE fun cls d _ H => E cls d H)) F__law_tuples (hr.mono (by decide)) (by rfl) (fun σ => passAt (takes_of rfl rfl rfl rfl) σ) (pa_cons (pe_ix ix_lt (pv 5) (pe_int) (fun _ _ => rfl)) (pa_cons (pe_fe (E := (WE fun cls d _ H => E cls d H)) F__law_differing (hr.mono (by decide)) (by rfl) (fun σ => passAt (takes_of rfl rfl rfl rfl) σ) (pa_cons (pv 1) (pa_cons (pv 2) (pa_nil)))) (pa_nil)))))) (pss_nil))
      (pss_one (ps_ret (pe_fe (E := (WE fun cls d _ H => E cls d H)) F__law_straight (hr.mono (by decide)) (by rfl) (fun σ => passAt (takes_of rfl rfl rfl rfl) σ) (pa_cons (pv 1) (pa_cons (pv 2) (pa_cons (pe_ix ix_lt (pv 5) (pe_int) (fun _ _ => rfl)) (pa_nil))))))))))))))
theorem ok__law_take (T : TX P K mg)
    (len : ∀ ds O k x, sp__law_take K ds O k x → ds.length = 2)
    (walk : ∀ W ds O k x, sp__law_take K ds O k x → (∀ p ∈ O, p.loc = false) → wpS K W (fun e _ O' => x e O') (t__law_take K W) (startD N__law_take.length ds) O { nx := fun _ O' => k .non O', rt := k }) : FE P w K mg base 1 "_law_take" ["_law_box_here", "_law_size"] [] (toSp K (sp__law_take K)) := by
  refine fe_of (ts := t__law_take K) T.F__law_take T.g__law_take sc__law_take len (fun fd F => binds0 F fun _ _ _ _ _ _ us hl => match us, hl with | [_, _], _ => rfl) (fun cdv A outer s H E hr => ?_) walk
  have hu := hu_of hr
  have hu64 : (A.deeper (envOfC "_law_take" (defScope s__law_take) s.heap.objs.size (He.ga K "_law_take") cdv)).units + 64 < cLine := by have := hr.un; omega
  unfold t__law_take
  exact pss_cons (ps_set (i := 2) sc__law_take.nd rfl (by first | exact Or.inl rfl | exact Or.inr rfl) (pe_ix ix_lt (pv 0) (pe_int) (fun _ _ => rfl)))
      (pss_cons (ps_if (pt_cmpR opA_gt (pv 2) (pe_int) (nomark _)) (pss_cons (ps_asg (pe_op opA_div (pv 2) (pv 1)) (pg_sub (pv 0) (pe_int) set_list))
      (pss_one (ps_ret (pe_op opA_mod (pe_callTy callA_int (by rfl) T.n_int (by decide +kernel) (pa_cons (pv 2) (pa_nil))) (pv 1))))) (pss_nil))
      (pss_cons (ps_asg (pe_op opA_add (pe_ix ix_lt (pv 0) (pe_int) (fun _ _ => rfl)) (pe_int)) (pg_sub (pv 0) (pe_int) set_list))
      (pss_cons (ps_set (i := 3) sc__law_take.nd rfl (by first | exact Or.inl rfl | exact Or.inr rfl) (pe_ix ix_lt (pv 0) (pe_int) (fun _ _ => rfl)))
      (pss_cons (ps_set (i := 4) sc__law_take.nd rfl (by first | exact Or.inl rfl | exact Or.inr rfl) (pe_ix ix_lt (pv 0) (pe_int) (fun _ _ => rfl)))
      (pss_cons (ps_set (i := 5) sc__law_take.nd rfl (by first | exact Or.inl rfl | exact Or.inr rfl) (pe_int))
      (pss_cons (ps_if (pt_cmpR opA_le (pv 3) (pe_callB callA_len (by rfl) T.n_len (by decide +kernel) (pa_cons (pv 4) (pa_nil))) (nomark _)) (pss_cons (ps_set (i := 5) sc__law_take.nd rfl (by first | exact Or.inl rfl | exact Or.inr rfl) (pe_callB callA_abs (by rfl) T.n_abs (by decide +kernel) (pa_cons (pe_ix ix_lt (pv 4) (pe_op opA_sub (pv 3) (pe_int)) (fun _ _ => rfl)) (pa_nil))))
      (pss_one (ps_if (pt_cmpR opA_ge (pv 5) (pe_op opA_pow (pe_int) (pe_int)) (nomark _)) (pss_cons (ps_asg (pe_op opA_div (pv 5) (pv 1)) (pg_sub (pv 0) (pe_int) set_list))
      (pss_one (ps_ret (pe_op opA_mod (pe_callTy callA_int (by rfl) T.n_int (by decide +kernel) (pa_cons (pv 5) (pa_nil))) (pv 1))))) (pss_nil)))) (pss_one (ps_if (pt_truth (pv 4) (by intro _; rfl)) (pss_one (ps_set (i := 5) sc__law_take.nd rfl (by first | exact Or.inl rfl | exact Or.inr rfl) (pe_callB callA_abs (by rfl) T.n_abs (by decide +kernel) (pa_cons (pe_ix ix_lt (pv 4) (pe_op opA_mod (pv 3) (pe_callB callA_len (by rfl) T.n_len (by decide +kernel) (pa_cons (pv 4) (pa_nil)))) (fun _ _ => rfl)) (pa_nil))))) (pss_nil))))
      (pss_cons (ps_set (i := 6) sc__law_take.nd rfl (by first | exact Or.inl rfl | exact Or.inr rfl) (pe_op opA_mod (pe_callTy callA_int (by rfl) T.n_int (by decide +kernel) (pa_cons (pe_op opA_add (pe_op opA_mul (pe_op opA_add (pv 5) (pe_op opA_mul (pv 3) (pe_int))) (pe_int)) (pe_int)) (pa_nil))) (pe_int)))
      (pss_cons (ps_set (i := 6) sc__law_take.nd rfl (by first | exact Or.inl rfl | exact Or.inr rfl) (pe_op opA_mod (pe_callTy callA_int (by rfl) T.n_int (by decide +kernel) (pa_cons (pe_op opA_add (pe_op opA_mul (pv 6) (pe_op opA_add (pe_op opA_div (pv 6) (pe_int)) (pe_int))) (pv 3)) (pa_nil))) (pe_int)))
      (pss_one (ps_ret (pe_op opA_mod (pe_callTy callA_int (by rfl) T.n_int (by decide +kernel) (pa_cons (pe_op opA_div (pv 6) (pe_int)) (pa_nil))) (pv 1))))))))))))
theorem ok__law_bent (T : TX P K mg) (F__law_take : FE P w K mg base 1 "_law_take" ["_law_box_here", "_law_size"] [] (toSp K (sp__law_take K)))
    (len : ∀ ds O k x, sp__law_bent K ds O k x → ds.length = 2)
    (walk : ∀ W ds O k x, sp__law_bent K ds O k x → (∀ p ∈ O, p.loc = false) → wpS K W (fun e _ O' => x e O') (t__law_bent K W) (startD N__law_bent.length ds) O { nx := fun _ O' => k .non O', rt := k }) : FE P w K mg base 2 "_law_bent" ["_law_box_here", "_law_order_here"] [] (toSp K (sp__law_bent K)) := by
  refine fe_of (ts := t__law_bent K) T.F__law_bent T.g__law_bent sc__law_bent len (fun fd F => binds0 F fun _ _ _ _ _ _ us hl => match us, hl with | [_, _], _ => rfl) (fun cdv A outer s H E hr => ?_) walk
  have hu := hu_of hr
  have hu64 : (A.deeper (envOfC "_law_bent" (defScope s__law_bent) s.heap.objs.size (He.ga K "_law_bent") cdv)).units + 64 < cLine := by have := hr.un; omega
  unfold t__law_bent
  exact pss_cons (ps_set (i := 2) sc__law_bent.nd rfl (by first | exact Or.inl rfl | exact Or.inr rfl) (pe_callTy callA_list (by rfl) T.n_list (by decide +kernel) (pa_cons (pv 1) (pa_nil))))
      (pss_cons (ps_for (passes_of rfl) rfl (pi_range1 (by rfl) T.n_range (pa_cons (pe_fe (E := (WE fun cls d _ H => E cls d H)) F__law_take (hr.mono (by decide)) (by rfl) (fun σ => passAt (takes_of rfl rfl rfl rfl) σ) (pa_cons (pv 0) (pa_cons (pe_int) (pa_nil)))) (pa_nil))) (pg_name (i := 3) sc__law_bent.nd rfl (by first | exact Or.inl rfl | exact Or.inr rfl)) (pss_cons (ps_set (i := 4) sc__law_bent.nd rfl (by first | exact Or.inl rfl | exact Or.inr rfl) (pe_fe (E := (WE fun cls d _ H => E cls d H)) F__law_take (hr.mono (by decide)) (by rfl) (fun σ => passAt (takes_of rfl rfl rfl rfl) σ) (pa_cons (pv 0) (pa_cons (pe_int) (pa_nil)))))
      (pss_cons (ps_set (i := 5) sc__law_bent.nd rfl (by first | exact Or.inl rfl | exact Or.inr rfl) (pe_fe (E := (WE fun cls d _ H => E cls d H)) F__law_take (hr.mono (by decide)) (by rfl) (fun σ => passAt (takes_of rfl rfl rfl rfl) σ) (pa_cons (pv 0) (pa_cons (pe_op opA_add (pe_callB callA_len (by rfl) T.n_len (by decide +kernel) (pa_cons (pv 2) (pa_nil))) (pe_int)) (pa_nil)))))
      (pss_cons (ps_if (PW.pt (pw_and (pt_cmpR (opA_eq hu64) (pv 4) (pe_int) (nomark _)) (pw_and1 (pt_cmpR opA_lt (pe_callB callA_len (by rfl) T.n_len (by decide +kernel) (pa_cons (pv 2) (pa_nil))) (pe_int) (nomark _))))) (pss_one (ps_expr (pe_bm PySem.F.plainAttrs_list PySem.F.slot_list_insert PySem.F.type_list_insert mtA_insert (pv 2) (pa_cons (pv 5) (pa_cons (pe_op opA_add (pe_int) (pe_callB callA_len (by rfl) T.n_len (by decide +kernel) (pa_cons (pv 2) (pa_nil)))) (pa_nil)))))) (pss_nil))
      (pss_cons (ps_if (PW.pt (pw_and (pt_cmpR (opA_eq hu64) (pv 4) (pe_int) (nomark _)) (pw_and1 (pt_cmpR opA_le (pe_callB callA_len (by rfl) T.n_len (by decide +kernel) (pa_cons (pv 2) (pa_nil))) (pe_int) (nomark _))))) (pss_cons (ps_set (i := 6) sc__law_bent.nd rfl (by first | exact Or.inl rfl | exact Or.inr rfl) (pe_op opA_add (pe_op opA_sub (pe_int) (pe_callB callA_len (by rfl) T.n_len (by decide +kernel) (pa_cons (pv 2) (pa_nil)))) (pe_fe (E := (WE fun cls d _ H => E cls d H)) F__law_take (hr.mono (by decide)) (by rfl) (fun σ => passAt (takes_of rfl rfl rfl rfl) σ) (pa_cons (pv 0) (pa_cons (pe_int) (pa_nil))))))
      (pss_one (ps_set (i := 2) sc__law_bent.nd rfl (by first | exact Or.inl rfl | exact Or.inr rfl) (pe_op opA_add (pv 2) (pe_lc (own := [("_law_more", 7)]) (g := gName 7) (tt := tYes) rfl sc__law_bent.nd (pi_range1 (by rfl) T.n_range (pa_cons (pv 6) (pa_nil))) (blkOk_by (N := N__law_bent) (sc := defScope s__law_bent) (by decide +kernel)) (fun _ _ _ _ _ => pg_name (i := 7) sc__law_bent.nd rfl (by first | exact Or.inl rfl | exact Or.inr rfl)) (fun _ _ _ _ _ => pts_nil) (fun _ _ _ _ _ => pe_op opA_add (pe_int) (pv 7))))))) (pss_nil))
      (pss_cons (ps_if (PW.pt (pw_and (pt_cmpR (opA_eq hu64) (pv 4) (pe_int) (nomark _)) (pw_and1 (pt_cmpR opA_lt (pv 5) (pe_callB callA_len (by rfl) T.n_len (by decide +kernel) (pa_cons (pv 2) (pa_nil))) (nomark _))))) (pss_one (ps_asg (pe_op opA_sub (pe_un unA_neg (pe_int)) (pe_fe (E := (WE fun cls d _ H => E cls d H)) F__law_take (hr.mono (by decide)) (by rfl) (fun σ => passAt (takes_of rfl rfl rfl rfl) σ) (pa_cons (pv 0) (pa_cons (pe_int) (pa_nil))))) (pg_sub (pv 2) (pv 5) set_list))) (pss_nil))
      (pss_cons (ps_if (PW.pt (pw_and (pt_cmpR (opA_eq hu64) (pv 4) (pe_int) (nomark _)) (pw_and1 (pt_cmpR opA_lt (pv 5) (pe_callB callA_len (by rfl) T.n_len (by decide +kernel) (pa_cons (pv 2) (pa_nil))) (nomark _))))) (pss_one (ps_asg (pe_op opA_add (pe_int) (pe_fe (E := (WE fun cls d _ H => E cls d H)) F__law_take (hr.mono (by decide)) (by rfl) (fun σ => passAt (takes_of rfl rfl rfl rfl) σ) (pa_cons (pv 0) (pa_cons (pe_int) (pa_nil))))) (pg_sub (pv 2) (pv 5) set_list))) (pss_nil))
      (pss_cons (ps_if (PW.pt (pw_and (pt_cmpR (opA_eq hu64) (pv 4) (pe_int) (nomark _)) (pw_and1 (pt_cmpR opA_lt (pv 5) (pe_callB callA_len (by rfl) T.n_len (by decide +kernel) (pa_cons (pv 2) (pa_nil))) (nomark _))))) (pss_one (ps_asg (pe_ix ix_lt (pe_lst (pa_cons (pe_int) (pa_cons (pe_int) (pa_cons (pe_int) (pa_cons (pe_un unA_neg (pe_int)) (pa_nil)))))) (pe_fe (E := (WE fun cls d _ H => E cls d H)) F__law_take (hr.mono (by decide)) (by rfl) (fun σ => passAt (takes_of rfl rfl rfl rfl) σ) (pa_cons (pv 0) (pa_cons (pe_int) (pa_nil)))) (fun _ _ => rfl)) (pg_sub (pv 2) (pv 5) set_list))) (pss_nil))
      (pss_cons (ps_if (PW.pt (pw_and (pt_cmpR (opA_eq hu64) (pv 4) (pe_int) (nomark _)) (pw_and1 (pt_cmpR opA_lt (pv 5) (pe_callB callA_len (by rfl) T.n_len (by decide +kernel) (pa_cons (pv 2) (pa_nil))) (nomark _))))) (pss_one (ps_asg (pe_ix ix_lt (pv 2) (pe_fe (E := (WE fun cls d _ H => E cls d H)) F__law_take (hr.mono (by decide)) (by rfl) (fun σ => passAt (takes_of rfl rfl rfl rfl) σ) (pa_cons (pv 0) (pa_cons (pe_callB callA_len (by rfl) T.n_len (by decide +kernel) (pa_cons (pv 2) (pa_nil))) (pa_nil)))) (fun _ _ => rfl)) (pg_sub (pv 2) (pv 5) set_list))) (pss_nil))
      (pss_one (ps_if (PW.pt (pw_and (pt_cmpR (opA_eq hu64) (pv 4) (pe_int) (nomark _)) (pw_and1 (pt_cmpR opA_lt (pv 5) (pe_callB callA_len (by rfl) T.n_len (by decide +kernel) (pa_cons (pv 2) (pa_nil))) (nomark _))))) (pss_one (ps_expr (pe_bm PySem.F.plainAttrs_list PySem.F.slot_list_pop PySem.F.type_list_pop mt_popAt (pv 2) (pa_cons (pv 5) (pa_nil))))) (pss_nil))))))))))))
      (pss_one (ps_ret (pv 2))))
theorem ok__law_box (T : TX P K mg)
    (len : ∀ ds O k x, sp__law_box K ds O k x → ds.length = 1)
    (walk : ∀ W ds O k x, sp__law_box K ds O k x → (∀ p ∈ O, p.loc = false) → wpS K W (fun e _ O' => x e O') (t__law_box K W) (startD N__law_box.length ds) O { nx := fun _ O' => k .non O', rt := k }) : FE P w K mg base 1 "_law_box" ["_law_script"] [] (toSp K (sp__law_box K)) := by
  refine fe_of (ts := t__law_box K) T.F__law_box T.g__law_box sc__law_box len (fun fd F => binds0 F fun _ _ _ _ _ _ us hl => match us, hl with | [_], _ => rfl) (fun cdv A outer s H E hr => ?_) walk
  have hu := hu_of hr
  have hu64 : (A.deeper (envOfC "_law_box" (defScope s__law_box) s.heap.objs.size (He.ga K "_law_box") cdv)).units + 64 < cLine := by have := hr.un; omega
  unfold t__law_box
  exact pss_one (ps_ret (pe_lst (pa_cons (pe_callTy callA_list (by rfl) T.n_list (by decide +kernel) (pa_cons (pe_slice sl_list (pv 0) (po_none) (po_some (pe_int))) (pa_nil))) (pa_cons (pe_int) (pa_cons (pe_int) (pa_nil))))))
theorem ok__law_order (T : TX P K mg) (F__law_take : FE P w K mg base 1 "_law_take" ["_law_box_here", "_law_size"] [] (toSp K (sp__law_take K)))
    (len : ∀ ds O k x, sp__law_order K ds O k x → ds.length = 2)
    (walk : ∀ W ds O k x, sp__law_order K ds O k x → (∀ p ∈ O, p.loc = false) → wpS K W (fun e _ O' => x e O') (t__law_order K W) (startD N__law_order.length ds) O { nx := fun _ O' => k .non O', rt := k }) : FE P w K mg base 2 "_law_order" ["_law_box_here", "_law_keys_here"] [] (toSp K (sp__law_order K)) := by
  refine fe_of (ts := t__law_order K) T.F__law_order T.g__law_order sc__law_order len (fun fd F => binds0 F fun _ _ _ _ _ _ us hl => match us, hl with | [_, _], _ => rfl) (fun cdv A outer s H E hr => ?_) walk
  have hu := hu_of hr
  have hu64 : (A.deeper (envOfC "_law_order" (defScope s__law_order) s.heap.objs.size (He.ga K "_law_order") cdv)).units + 64 < cLine := by have := hr.un; omega
  unfold t__law_order
  exact pss_cons (ps_set (i := 2) sc__law_order.nd rfl (by first | exact Or.inl rfl | exact Or.inr rfl) (pe_callTy callA_list (by rfl) T.n_list (by decide +kernel) (pa_cons (pv 1) (pa_nil))))
      (pss_cons (ps_set (i := 3) sc__law_order.nd rfl (by first | exact Or.inl rfl | exact Or.inr rfl) (pe_lst (pa_nil)))
      (pss_cons (ps_for (passes_of rfl) rfl (pi_range1 (by rfl) T.n_range (pa_cons (pe_callB callA_len (by rfl) T.n_len (by decide +kernel) (pa_cons (pv 1) (pa_nil))) (pa_nil))) (pg_name (i := 4) sc__law_order.nd rfl (by first | exact Or.inl rfl | exact Or.inr rfl)) (pss_one (ps_expr (pe_bm PySem.F.plainAttrs_list PySem.F.slot_list_append PySem.F.type_list_append mt_append (pv 3) (pa_cons (pe_bm PySem.F.plainAttrs_list PySem.F.slot_list_pop PySem.F.type_list_pop mt_popAt (pv 2) (pa_cons (pe_fe (E := (WE fun cls d _ H => E cls d H)) F__law_take (hr.mono (by decide)) (by rfl) (fun σ => passAt (takes_of rfl rfl rfl rfl) σ) (pa_cons (pv 0) (pa_cons (pe_callB callA_len (by rfl) T.n_len (by decide +kernel) (pa_cons (pv 2) (pa_nil))) (pa_nil)))) (pa_nil))) (pa_nil))))))
      (pss_one (ps_ret (pv 3)))))
theorem ok__law_keys (T : TX P K mg) (F__law_order : FE P w K mg base 2 "_law_order" ["_law_box_here", "_law_keys_here"] [] (toSp K (sp__law_order K))) (F__law_take : FE P w K mg base 1 "_law_take" ["_law_box_here", "_law_size"] [] (toSp K (sp__law_take K)))
    (len : ∀ ds O k x, sp__law_keys K ds O k x → ds.length = 2)
    (walk : ∀ W ds O k x, sp__law_keys K ds O k x → (∀ p ∈ O, p.loc = false) → wpS K W (fun e _ O' => x e O') (t__law_keys K W) (startD N__law_keys.length ds) O { nx := fun _ O' => k .non O', rt := k }) : FE P w K mg base 3 "_law_keys" ["_law_box_here", "_law_count"] [] (toSp K (sp__law_keys K)) := by
  refine fe_of (ts := t__law_keys K) T.F__law_keys T.g__law_keys sc__law_keys len (fun fd F => binds0 F fun _ _ _ _ _ _ us hl => match us, hl with | [_, _], _ => rfl) (fun cdv A outer s H E hr => ?_) walk
  have hu := hu_of hr
  have hu64 : (A.deeper (envOfC "_law_keys" (defScope s__law_keys) s.heap.objs.size (He.ga K "_law_keys") cdv)).units + 64 < cLine := by have := hr.un; omega
  unfold t__law_keys
  exact pss_cons (ps_set (i := 2) sc__law_keys.nd rfl (by first | exact Or.inl rfl | exact Or.inr rfl) (pe_lst (pa_nil)))
      (pss_cons (ps_set (i := 3) sc__law_keys.nd rfl (by first | exact Or.inl rfl | exact Or.inr rfl) (pe_fe (E := (WE fun cls d _ H => E cls d H)) F__law_take (hr.mono (by decide)) (by rfl) (fun σ => passAt (takes_of rfl rfl rfl rfl) σ) (pa_cons (pv 0) (pa_cons (pe_int) (pa_nil)))))
      (pss_cons (ps_for (passes_of rfl) rfl (pi_range1 (by rfl) T.n_range (pa_cons (pv 1) (pa_nil))) (pg_name (i := 4) sc__law_keys.nd rfl (by first | exact Or.inl rfl | exact Or.inr rfl)) (pss_cons (ps_expr (pe_bm PySem.F.plainAttrs_list PySem.F.slot_list_append PySem.F.type_list_append mt_append (pv 2) (pa_cons (pv 3) (pa_nil))))
      (pss_one (ps_set (i := 3) sc__law_keys.nd rfl (by first | exact Or.inl rfl | exact Or.inr rfl) (pe_op opA_add (pe_op opA_add (pv 3) (pe_int)) (pe_op opA_mul (pe_fe (E := (WE fun cls d _ H => E cls d H)) F__law_take (hr.mono (by decide)) (by rfl) (fun σ => passAt (takes_of rfl rfl rfl rfl) σ) (pa_cons (pv 0) (pa_cons (pe_int) (pa_nil)))) (pe_fe (E := (WE fun cls d _ H => E cls d H)) F__law_take (hr.mono (by decide)) (by rfl) (fun σ => passAt (takes_of rfl rfl rfl rfl) σ) (pa_cons (pv 0) (pa_cons (pe_int) (pa_nil))))))))))
      (pss_one (ps_ret (pe_fe (E := (WE fun cls d _ H => E cls d H)) F__law_order (hr.mono (by decide)) (by rfl) (fun σ => passAt (takes_of rfl rfl rfl rfl) σ) (pa_cons (pv 0) (pa_cons (pv 2) (pa_nil))))))))
theorem ok__law_second (T : TX P K mg) (F__law_exchanged : FE P w K mg base 1 "_law_exchanged" ["_law_order_here", "_law_place"] [] (toSp K (sp__law_exchanged K))) (F__law_order : FE P w K mg base 2 "_law_order" ["_law_box_here", "_law_keys_here"] [] (toSp K (sp__law_order K))) (F__law_take : FE P w K mg base 1 "_law_take" ["_law_box_here", "_law_size"] [] (toSp K (sp__law_take K)))
    (len : ∀ ds O k x, sp__law_second K ds O k x → ds.length = 2)
    (walk : ∀ W ds O k x, sp__law_second K ds O k x → (∀ p ∈ O, p.loc = false) → wpS K W (fun e _ O' => x e O') (t__law_second K W) (startD N__law_second.length ds) O { nx := fun _ O' => k .non O', rt := k }) : FE P w K mg base 3 "_law_second" ["_law_box_here", "_law_first"] [] (toSp K (sp__law_second K)) := by
  refine fe_of (ts := t__law_second K) T.F__law_second T.g__law_second sc__law_second len (fun fd F => binds0 F fun _ _ _ _ _ _ us hl => match us, hl with | [_, _], _ => rfl) (fun cdv A outer s H E hr => ?_) walk
  have hu := hu_of hr
  have hu64 : (A.deeper (envOfC "_law_second" (defScope s__law_second) s.heap.objs.size (He.ga K "_law_second") cdv)).units + 64 < cLine := by have := hr.un; omega
  unfold t__law_second
  exact pss_cons (ps_set (i := 2) sc__law_second.nd rfl (by first | exact Or.inl rfl | exact Or.inr rfl) (pe_fe (E := (WE fun cls d _ H => E cls d H)) F__law_take (hr.mono (by decide)) (by rfl) (fun σ => passAt (takes_of rfl rfl rfl rfl) σ) (pa_cons (pv 0) (pa_cons (pe_int) (pa_nil)))))
      (pss_cons (ps_if (pt_cmpR (opA_eq hu64) (pv 2) (pe_int) (nomark _)) (pss_one (ps_ret (pe_fe (E := (WE fun cls d _ H => E cls d H)) F__law_order (hr.mono (by decide)) (by rfl) (fun σ => passAt (takes_of rfl rfl rfl rfl) σ) (pa_cons (pv 0) (pa_cons (pv 1) (pa_nil)))))) (pss_nil))
      (pss_cons (ps_set (i := 3) sc__law_second.nd rfl (by first | exact Or.inl rfl | exact Or.inr rfl) (pe_callTy callA_list (by rfl) T.n_list (by decide +kernel) (pa_cons (pv 1) (pa_nil))))
      (pss_cons (ps_if (pt_cmpR (opA_eq hu64) (pv 2) (pe_int) (nomark _)) (pss_one (ps_expr (pe_bm0 PySem.F.plainAttrs_list PySem.F.slot_list_reverse PySem.F.type_list_reverse mt_reverse (pv 3)))) (pss_nil))
      (pss_cons (ps_if (PW.pt (pw_and (pt_cmpR (opA_eq hu64) (pv 2) (pe_int) (nomark _)) (pw_and1 (pt_cmpR opA_gt (pe_callB callA_len (by rfl) T.n_len (by decide +kernel) (pa_cons (pv 3) (pa_nil))) (pe_int) (nomark _))))) (pss_one (ps_for (passes_of rfl) rfl (pi_range1 (by rfl) T.n_range (pa_cons (pe_fe (E := (WE fun cls d _ H => E cls d H)) F__law_take (hr.mono (by decide)) (by rfl) (fun σ => passAt (takes_of rfl rfl rfl rfl) σ) (pa_cons (pv 0) (pa_cons (pe_int) (pa_nil)))) (pa_nil))) (pg_name (i := 4) sc__law_second.nd rfl (by first | exact Or.inl rfl | exact Or.inr rfl)) (pss_one (ps_set (i := 3) sc__law_second.nd rfl (by first | exact Or.inl rfl | exact Or.inr rfl) (pe_fe (E := (WE fun cls d _ H => E cls d H)) F__law_exchanged (hr.mono (by decide)) (by rfl) (fun σ => passAt (takes_of rfl rfl rfl rfl) σ) (pa_cons (pv 3) (pa_cons (pe_fe (E := (WE fun cls d _ H => E cls d H)) F__law_take (hr.mono (by decide)) (by rfl) (fun σ => passAt (takes_of rfl rfl rfl rfl) σ) (pa_cons (pv 0) (pa_cons (pe_op opA_sub (pe_callB callA_len (by rfl) T.n_len (by decide +kernel) (pa_cons (pv 3) (pa_nil))) (pe_int)) (pa_nil)))) (pa_nil)))))))) (pss_nil))
      (pss_one (ps_ret (pv 3)))))))
theorem ok__law_widened (T : TX P K mg) (F__law_take : FE P w K mg base 1 "_law_take" ["_law_box_here", "_law_size"] [] (toSp K (sp__law_take K)))
    (len : ∀ ds O k x, sp__law_widened K ds O k x → ds.length = 2)
    (walk : ∀ W ds O k x, sp__law_widened K ds O k x → (∀ p ∈ O, p.loc = false) → wpS K W (fun e _ O' => x e O') (t__law_widened K W) (startD N__law_widened.length ds) O { nx := fun _ O' => k .non O', rt := k }) : FE P w K mg base 2 "_law_widened" ["_law_box_here", "_law_keys_here"] [] (toSp K (sp__law_widened K)) := by
  refine fe_of (ts := t__law_widened K) T.F__law_widened T.g__law_widened sc__law_widened len (fun fd F => binds0 F fun _ _ _ _ _ _ us hl => match us, hl with | [_, _], _ => rfl) (fun cdv A outer s H E hr => ?_) walk
  have hu := hu_of hr
  have hu64 : (A.deeper (envOfC "_law_widened" (defScope s__law_widened) s.heap.objs.size (He.ga K "_law_widened") cdv)).units + 64 < cLine := by have := hr.un; omega
  unfold t__law_widened
  exact pss_cons (ps_set (i := 2) sc__law_widened.nd rfl (by first | exact Or.inl rfl | exact Or.inr rfl) (pe_callTy callA_list (by rfl) T.n_list (by decide +kernel) (pa_cons (pv 1) (pa_nil))))
      (pss_cons (ps_set (i := 3) sc__law_widened.nd rfl (by first | exact Or.inl rfl | exact Or.inr rfl) (pe_fe (E := (WE fun cls d _ H => E cls d H)) F__law_take (hr.mono (by decide)) (by rfl) (fun σ => passAt (takes_of rfl rfl rfl rfl) σ) (pa_cons (pv 0) (pa_cons (pe_int) (pa_nil)))))
      (pss_cons (ps_set (i := 4) sc__law_widened.nd rfl (by first | exact Or.inl rfl | exact Or.inr rfl) (pe_fe (E := (WE fun cls d _ H => E cls d H)) F__law_take (hr.mono (by decide)) (by rfl) (fun σ => passAt (takes_of rfl rfl rfl rfl) σ) (pa_cons (pv 0) (pa_cons (pe_op opA_add (pe_callB callA_len (by rfl) T.n_len (by decide +kernel) (pa_cons (pv 2) (pa_nil))) (pe_int)) (pa_nil)))))
      (pss_cons (ps_if (PW.pt (pw_and (pt_cmpR opA_lt (pv 4) (pe_callB callA_len (by rfl) T.n_len (by decide +kernel) (pa_cons (pv 2) (pa_nil))) (nomark _)) (pw_and1 (pt_cmpR (opA_eq hu64) (pv 3) (pe_int) (nomark _))))) (pss_one (ps_asg (pe_int) (pg_sub (pv 2) (pv 4) set_list))) (pss_nil))
      (pss_cons (ps_if (PW.pt (pw_and (pt_cmpR opA_lt (pv 4) (pe_callB callA_len (by rfl) T.n_len (by decide +kernel) (pa_cons (pv 2) (pa_nil))) (nomark _)) (pw_and (pt_cmpR (opA_eq hu64) (pv 3) (pe_int) (nomark _)) (pw_and1 (pt_cmpR op_notIn_seq (pe_int) (pv 2) (by rfl)))))) (pss_one (ps_asg (pe_int) (pg_sub (pv 2) (pv 4) set_list))) (pss_nil))
      (pss_one (ps_ret (pv 2)))))))
theorem ok_law (T : TX P K mg) (F__law_asked : FE P w K mg base 6 "_law_asked" ["_law_way", "_law_first", "_law_second_here", "_law_index"] [] (toSp K (sp__law_asked K))) (F__law_bent : FE P w K mg base 2 "_law_bent" ["_law_box_here", "_law_order_here"] [] (toSp K (sp__law_bent K))) (F__law_box : FE P w K mg base 1 "_law_box" ["_law_script"] [] (toSp K (sp__law_box K))) (F__law_keys : FE P w K mg base 3 "_law_keys" ["_law_box_here", "_law_count"] [] (toSp K (sp__law_keys K))) (F__law_second : FE P w K mg base 3 "_law_second" ["_law_box_here", "_law_first"] [] (toSp K (sp__law_second K))) (F__law_take : FE P w K mg base 1 "_law_take" ["_law_box_here", "_law_size"] [] (toSp K (sp__law_take K))) (F__law_widened : FE P w K mg base 2 "_law_widened" ["_law_box_here", "_law_keys_here"] [] (toSp K (sp__law_widened K)))
    (len : ∀ ds O k x, sp_law K ds O k x → ds.length = 1)
    (walk : ∀ W ds O k x, sp_law K ds O k x → (∀ p ∈ O, p.loc = false) → wpS K W (fun e _ O' => x e O') (t_law K W) (startD N_law.length ds) O { nx := fun _ O' => k .non O', rt := k }) {fd : FuncData} (F : FunD K "law" "law" (defArgs s_law) (defBody s_law) (defScope s_law) [] [] (He.ga K "law") fd) : FnOk P w K mg base (L2.CX P w) 7 (He.ga K "law") fd ["_law_script"] (toSp K (sp_law K)) := by
  refine fn_ofL (ts := t_law K) F sc_law len (fun cdv A outer s H E hr => ?_) walk
  have hu := hu_of hr
  have hu64 : (A.deeper (envOfC "law" (defScope s_law) s.heap.objs.size (He.ga K "law") cdv)).units + 64 < cLine := by have := hr.un; omega
  unfold t_law
  exact pss_cons (ps_set (i := 1) sc_law.nd rfl (by first | exact Or.inl rfl | exact Or.inr rfl) (pe_fe (E := (WE fun cls d _ H => E cls d H)) F__law_box (hr.mono (by decide)) (by rfl) (fun σ => passAt (takes_of rfl rfl rfl rfl) σ) (pa_cons (pv 0) (pa_nil))))
      (pss_cons (ps_set (i := 2) sc_law.nd rfl (by first | exact Or.inl rfl | exact Or.inr rfl) (pe_fe (E := (WE fun cls d _ H => E cls d H)) F__law_take (hr.mono (by decide)) (by rfl) (fun σ => passAt (takes_of rfl rfl rfl rfl) σ) (pa_cons (pv 1) (pa_cons (pe_int) (pa_nil)))))
      (pss_cons (ps_if (pt_cmpR (opA_eq hu64) (pe_fe (E := (WE fun cls d _ H => E cls d H)) F__law_take (hr.mono (by decide)) (by rfl) (fun σ => passAt (takes_of rfl rfl rfl rfl) σ) (pa_cons (pv 1) (pa_cons (pe_int) (pa_nil)))) (pe_int) (nomark _)) (pss_one (ps_set (i := 2) sc_law.nd rfl (by first | exact Or.inl rfl | exact Or.inr rfl) (pe_fe (E := (WE fun cls d _ H => E cls d H)) F__law_take (hr.mono (by decide)) (by rfl) (fun σ => passAt (takes_of rfl rfl rfl rfl) σ) (pa_cons (pv 1) (pa_cons (pe_int) (pa_nil)))))) (pss_nil))
      (pss_cons (ps_set (i := 3) sc_law.nd rfl (by first | exact Or.inl rfl | exact Or.inr rfl) (pe_fe (E := (WE fun cls d _ H => E cls d H)) F__law_widened (hr.mono (by decide)) (by rfl) (fun σ => passAt (takes_of rfl rfl rfl rfl) σ) (pa_cons (pv 1) (pa_cons (pe_fe (E := (WE fun cls d _ H => E cls d H)) F__law_keys (hr.mono (by decide)) (by rfl) (fun σ => passAt (takes_of rfl rfl rfl rfl) σ) (pa_cons (pv 1) (pa_cons (pv 2) (pa_nil)))) (pa_nil)))))
      (pss_cons (ps_set (i := 4) sc_law.nd rfl (by first | exact Or.inl rfl | exact Or.inr rfl) (pe_fe (E := (WE fun cls d _ H => E cls d H)) F__law_second (hr.mono (by decide)) (by rfl) (fun σ => passAt (takes_of rfl rfl rfl rfl) σ) (pa_cons (pv 1) (pa_cons (pv 3) (pa_nil)))))
      (pss_cons (ps_set (i := 5) sc_law.nd rfl (by first | exact Or.inl rfl | exact Or.inr rfl) (pe_fe (E := (WE fun cls d _ H => E cls d H)) F__law_bent (hr.mono (by decide)) (by rfl) (fun σ => passAt (takes_of rfl rfl rfl rfl) σ) (pa_cons (pv 1) (pa_cons (pv 3) (pa_nil)))))
      (pss_cons (ps_set (i := 6) sc_law.nd rfl (by first | exact Or.inl rfl | exact Or.inr rfl) (pe_fe (E := (WE fun cls d _ H => E cls d H)) F__law_bent (hr.mono (by decide)) (by rfl) (fun σ => passAt (takes_of rfl rfl rfl rfl) σ) (pa_cons (pv 1) (pa_cons (pv 4) (pa_nil)))))
      (pss_cons (ps_set (i := 7) sc_law.nd rfl (by first | exact Or.inl rfl | exact Or.inr rfl) (pe_op opA_sub (pe_fe (E := (WE fun cls d _ H => E cls d H)) F__law_take (hr.mono (by decide)) (by rfl) (fun σ => passAt (takes_of rfl rfl rfl rfl) σ) (pa_cons (pv 1) (pa_cons (pe_int) (pa_nil)))) (pe_int)))
      (pss_cons (ps_for (passes_of rfl) rfl (pi_range1 (by rfl) T.n_range (pa_cons (pe_int) (pa_nil))) (pg_name (i := 8) sc_law.nd rfl (by first | exact Or.inl rfl | exact Or.inr rfl)) (pss_cons (ps_if (PW.pt (pw_or (pt_not (pt_truth (pe_fe (E := (WE fun cls d _ H => E cls d H)) F__law_asked (hr.mono (by decide)) (by rfl) (fun σ => passAt (takes_of rfl rfl rfl rfl) σ) (pa_cons (pv 8) (pa_cons (pv 3) (pa_cons (pv 4) (pa_cons (pv 7) (pa_nil)))))) (by intro _; rfl))) (pw_or1 (pt_not (pt_truth (pe_fe (E := (WE fun cls d _ H => E cls d H)) F__law_asked (hr.mono (by decide)) (by rfl) (fun σ => passAt (takes_of rfl rfl rfl rfl) σ) (pa_cons (pv 8) (pa_cons (pv 4) (pa_cons (pv 3) (pa_cons (pv 7) (pa_nil)))))) (by intro _; rfl)))))) (pss_one (ps_ret (pe_bl))) (pss_nil))
      (pss_cons (ps_if (PW.pt (pw_or (pt_not (pt_truth (pe_fe (E := (WE fun cls d _ H => E cls d H)) F__law_asked (hr.mono (by decide)) (by rfl) (fun σ => passAt (takes_of rfl rfl rfl rfl) σ) (pa_cons (pv 8) (pa_cons (pv 5) (pa_cons (pv 4) (pa_cons (pv 7) (pa_nil)))))) (by intro _; rfl))) (pw_or1 (pt_not (pt_truth (pe_fe (E := (WE fun cls d _ H => E cls d H)) F__law_asked (hr.mono (by decide)) (by rfl) (fun σ => passAt (takes_of rfl rfl rfl rfl) σ) (pa_cons (pv 8) (pa_cons (pv 3) (pa_cons (pv 6) (pa_cons (pv 7) (pa_nil)))))) (by intro _; rfl)))))) (pss_one (ps_ret (pe_bl))) (pss_nil))
      (pss_one (ps_if (PW.pt (pw_or (pt_not (pt_truth (pe_fe (E := (WE fun cls d _ H => E cls d H)) F__law_asked (hr.mono (by decide)) (by rfl) (fun σ => passAt (takes_of rfl rfl rfl rfl) σ) (pa_cons (pv 8) (pa_cons (pv 5) (pa_cons (pv 6) (pa_cons (pv 7) (pa_nil)))))) (by intro _; rfl))) (pw_or1 (pt_not (pt_truth (pe_fe (E := (WE fun cls d _ H => E cls d H)) F__law_asked (hr.mono (by decide)) (by rfl) (fun σ => passAt (takes_of rfl rfl rfl rfl) σ) (pa_cons (pv 8) (pa_cons (pv 6) (pa_cons (pv 5) (pa_cons (pv 7) (pa_nil)))))) (by intro _; rfl)))))) (pss_one (ps_ret (pe_bl))) (pss_nil))))))
      (pss_cons (ps_for (passes_of rfl) rfl (pi_range1 (by rfl) T.n_range (pa_cons (pe_op opA_add (pv 2) (pe_int)) (pa_nil))) (pg_name (i := 9) sc_law.nd rfl (by first | exact Or.inl rfl | exact Or.inr rfl)) (pss_one (ps_if (pt_not (pt_truth (pe_fe (E := (WE fun cls d _ H => E cls d H)) F__law_asked (hr.mono (by decide)) (by rfl) (fun σ => passAt (takes_of rfl rfl rfl rfl) σ) (pa_cons (pe_int) (pa_cons (pv 3) (pa_cons (pv 4) (pa_cons (pe_op opA_sub (pv 9) (pe_int)) (pa_nil)))))) (by intro _; rfl))) (pss_one (ps_ret (pe_bl))) (pss_nil))))
      (pss_one (ps_ret (pe_and (pe_fe (E := (WE fun cls d _ H => E cls d H)) F__law_asked (hr.mono (by decide)) (by rfl) (fun σ => passAt (takes_of rfl rfl rfl rfl) σ) (pa_cons (pe_int) (pa_cons (pv 3) (pa_cons (pv 3) (pa_cons (pe_int) (pa_nil)))))) (pe_one (pe_fe (E := (WE fun cls d _ H => E cls d H)) F__law_asked (hr.mono (by decide)) (by rfl) (fun σ => passAt (takes_of rfl rfl rfl rfl) σ) (pa_cons (pe_int) (pa_cons (pv 4) (pa_cons (pv 4) (pa_cons (pe_int) (pa_nil)))))))))))))))))))
end
end K06
namespace K06
open PySem PySem.Spec PyProof.Rows L2
abbrev R : PySem.W.OpenRow := PySem.W.OpenLaw.row PySem.Challenge.rw_quorumdrift_k06_straight_lists
def nm0 : List PySem.Str := [("DriftError" : PySem.Str), ("InvalidList" : PySem.Str), ("UnlikeKeys" : PySem.Str), ("InvalidSwap" : PySem.Str), ("MAX_KEYS" : PySem.Str), ("MAX_KEY" : PySem.Str), ("first_wrong_place" : PySem.Str), ("check_list" : PySem.Str), ("require_same" : PySem.Str), ("index_of" : PySem.Str), ("_check_two" : PySem.Str), ("swap_at" : PySem.Str), ("differing_pairs" : PySem.Str), ("straight_swaps" : PySem.Str), ("_law_box" : PySem.Str), ("_law_take" : PySem.Str), ("_law_keys" : PySem.Str), ("_law_order" : PySem.Str), ("_law_int" : PySem.Str), ("_law_truth" : PySem.Str), ("_law_ints" : PySem.Str), ("_law_tuple" : PySem.Str), ("_law_tuples" : PySem.Str), ("_law_widened" : PySem.Str), ("_law_wrong" : PySem.Str), ("_law_unlike" : PySem.Str), ("_law_bent" : PySem.Str), ("_law_exchanged" : PySem.Str), ("_law_second" : PySem.Str), ("_law_differing" : PySem.Str), ("_law_straight" : PySem.Str), ("_law_ask" : PySem.Str), ("_law_due" : PySem.Str), ("_law_asked" : PySem.Str)]
abbrev nms : List PySem.Str := nm0
def d_first_wrong_place : He.DefD := ⟨("first_wrong_place", none), "first_wrong_place", "first_wrong_place", defArgs s_first_wrong_place, defBody s_first_wrong_place, defScope s_first_wrong_place, [], []⟩
def d_check_list : He.DefD := ⟨("check_list", none), "check_list", "check_list", defArgs s_check_list, defBody s_check_list, defScope s_check_list, [], []⟩
def d_require_same : He.DefD := ⟨("require_same", none), "require_same", "require_same", defArgs s_require_same, defBody s_require_same, defScope s_require_same, [], []⟩
def d__check_two : He.DefD := ⟨("_check_two", none), "_check_two", "_check_two", defArgs s__check_two, defBody s__check_two, defScope s__check_two, [], []⟩
def d_index_of : He.DefD := ⟨("index_of", none), "index_of", "index_of", defArgs s_index_of, defBody s_index_of, defScope s_index_of, [], []⟩
def d_differing_pairs : He.DefD := ⟨("differing_pairs", none), "differing_pairs", "differing_pairs", defArgs s_differing_pairs, defBody s_differing_pairs, defScope s_differing_pairs, [], []⟩
def d_straight_swaps : He.DefD := ⟨("straight_swaps", none), "straight_swaps", "straight_swaps", defArgs s_straight_swaps, defBody s_straight_swaps, defScope s_straight_swaps, [], []⟩
def d_swap_at : He.DefD := ⟨("swap_at", none), "swap_at", "swap_at", defArgs s_swap_at, defBody s_swap_at, defScope s_swap_at, [], []⟩
def d__law_ask : He.DefD := ⟨("_law_ask", none), "_law_ask", "_law_ask", defArgs s__law_ask, defBody s__law_ask, defScope s__law_ask, [], []⟩
def d__law_differing : He.DefD := ⟨("_law_differing", none), "_law_differing", "_law_differing", defArgs s__law_differing, defBody s__law_differing, defScope s__law_differing, [], []⟩
def d__law_unlike : He.DefD := ⟨("_law_unlike", none), "_law_unlike", "_law_unlike", defArgs s__law_unlike, defBody s__law_unlike, defScope s__law_unlike, [], []⟩
def d__law_wrong : He.DefD := ⟨("_law_wrong", none), "_law_wrong", "_law_wrong", defArgs s__law_wrong, defBody s__law_wrong, defScope s__law_wrong, [], []⟩
def d__law_due : He.DefD := ⟨("_law_due", none), "_law_due", "_law_due", defArgs s__law_due, defBody s__law_due, defScope s__law_due, [], []⟩
def d__law_exchanged : He.DefD := ⟨("_law_exchanged", none), "_law_exchanged", "_law_exchanged", defArgs s__law_exchanged, defBody s__law_exchanged, defScope s__law_exchanged, [], []⟩
def d__law_int : He.DefD := ⟨("_law_int", none), "_law_int", "_law_int", defArgs s__law_int, defBody s__law_int, defScope s__law_int, [], []⟩
def d__law_ints : He.DefD := ⟨("_law_ints", none), "_law_ints", "_law_ints", defArgs s__law_ints, defBody s__law_ints, defScope s__law_ints, [], []⟩
def d__law_straight : He.DefD := ⟨("_law_straight", none), "_law_straight", "_law_straight", defArgs s__law_straight, defBody s__law_straight, defScope s__law_straight, [], []⟩
def d__law_tuple : He.DefD := ⟨("_law_tuple", none), "_law_tuple", "_law_tuple", defArgs s__law_tuple, defBody s__law_tuple, defScope s__law_tuple, [], []⟩
def d__law_tuples : He.DefD := ⟨("_law_tuples", none), "_law_tuples", "_law_tuples", defArgs s__law_tuples, defBody s__law_tuples, defScope s__law_tuples, [], []⟩
def d__law_asked : He.DefD := ⟨("_law_asked", none), "_law_asked", "_law_asked", defArgs s__law_asked, defBody s__law_asked, defScope s__law_asked, [], []⟩
def d__law_take : He.DefD := ⟨("_law_take", none), "_law_take", "_law_take", defArgs s__law_take, defBody s__law_take, defScope s__law_take, [], []⟩
def d__law_bent : He.DefD := ⟨("_law_bent", none), "_law_bent", "_law_bent", defArgs s__law_bent, defBody s__law_bent, defScope s__law_bent, [], []⟩
def d__law_box : He.DefD := ⟨("_law_box", none), "_law_box", "_law_box", defArgs s__law_box, defBody s__law_box, defScope s__law_box, [], []⟩
def d__law_order : He.DefD := ⟨("_law_order", none), "_law_order", "_law_order", defArgs s__law_order, defBody s__law_order, defScope s__law_order, [], []⟩
def d__law_keys : He.DefD := ⟨("_law_keys", none), "_law_keys", "_law_keys", defArgs s__law_keys, defBody s__law_keys, defScope s__law_keys, [], []⟩
def d__law_second : He.DefD := ⟨("_law_second", none), "_law_second", "_law_second", defArgs s__law_second, defBody s__law_second, defScope s__law_second, [], []⟩
def d__law_widened : He.DefD := ⟨("_law_widened", none), "_law_widened", "_law_widened", defArgs s__law_widened, defBody s__law_widened, defScope s__law_widened, [], []⟩
def d_law : He.DefD := ⟨("law", none), "law", "law", defArgs s_law, defBody s_law, defScope s_law, [], []⟩
def x_InvalidList : PyH.ExD := ⟨"InvalidList", "place", "InvalidList.__init__", i_InvalidList⟩
def x_InvalidSwap : PyH.ExD := ⟨"InvalidSwap", "step", "InvalidSwap.__init__", i_InvalidSwap⟩
def x_UnlikeKeys : PyH.ExD := ⟨"UnlikeKeys", "key", "UnlikeKeys.__init__", i_UnlikeKeys⟩
def fn : List He.DefD := [d_first_wrong_place, d_check_list, d_require_same, d__check_two, d_index_of, d_differing_pairs, d_straight_swaps, d_swap_at, d__law_ask, d__law_differing, d__law_unlike, d__law_wrong, d__law_due, d__law_exchanged, d__law_int, d__law_ints, d__law_straight, d__law_tuple, d__law_tuples, d__law_asked, d__law_take, d__law_bent, d__law_box, d__law_order, d__law_keys, d__law_second, d__law_widened, d_law]
def fa : List He.Fa := [.glo "first_wrong_place", .glo "check_list", .glo "require_same", .glo "_check_two", .glo "index_of", .glo "differing_pairs", .glo "straight_swaps", .glo "swap_at", .glo "_law_ask", .glo "_law_differing", .glo "_law_unlike", .glo "_law_wrong", .glo "_law_due", .glo "_law_exchanged", .glo "_law_int", .glo "_law_ints", .glo "_law_straight", .glo "_law_tuple", .glo "_law_tuples", .glo "_law_asked", .glo "_law_take", .glo "_law_bent", .glo "_law_box", .glo "_law_order", .glo "_law_keys", .glo "_law_second", .glo "_law_widened", .glo "law", .glo "DriftError", .glo "InvalidList", .glo "InvalidSwap", .glo "UnlikeKeys", .free "ValueError", .free "abs", .free "all", .free "bool", .free "enumerate", .free "int", .free "isinstance", .free "len", .free "list", .free "max", .free "min", .free "range", .free "sorted", .free "super", .free "tuple", .int "MAX_KEY" 9999, .int "MAX_KEYS" 12]
def xs : List PyH.ExD := [x_InvalidList, x_InvalidSwap, x_UnlikeKeys]
def e_0 : PySem.W.Frag → Bool := fun K => PyH.ExD.ok "/claim/cut.py" K x_InvalidList
def e_1 : PySem.W.Frag → Bool := fun K => PyH.ExD.ok "/claim/cut.py" K x_InvalidSwap
def e_2 : PySem.W.Frag → Bool := fun K => PyH.ExD.ok "/claim/cut.py" K x_UnlikeKeys
def e_3 : PySem.W.Frag → Bool := fun K => PyH.ex2B K (He.ga K "InvalidList") "place"
def e_4 : PySem.W.Frag → Bool := fun K => PyH.ex2B K (He.ga K "InvalidSwap") "step"
def e_5 : PySem.W.Frag → Bool := fun K => PyH.ex2B K (He.ga K "UnlikeKeys") "key"
def e_6 : PySem.W.Frag → Bool := fun K => decide (PySem.W.exmOne K (.ref (He.ga K "InvalidList")) (.ref (He.ga K "InvalidList")) = some true)
def e_7 : PySem.W.Frag → Bool := fun K => decide (PySem.W.exmOne K (.ref (He.ga K "InvalidList")) (.ref (He.ga K "InvalidSwap")) = some false)
def e_8 : PySem.W.Frag → Bool := fun K => decide (PySem.W.exmOne K (.ref (He.ga K "InvalidList")) (.ref (He.ga K "UnlikeKeys")) = some false)
def e_9 : PySem.W.Frag → Bool := fun K => decide (PySem.W.exmOne K (.ref (He.ga K "InvalidSwap")) (.ref (He.ga K "InvalidList")) = some false)
def e_10 : PySem.W.Frag → Bool := fun K => decide (PySem.W.exmOne K (.ref (He.ga K "InvalidSwap")) (.ref (He.ga K "InvalidSwap")) = some true)
def e_11 : PySem.W.Frag → Bool := fun K => decide (PySem.W.exmOne K (.ref (He.ga K "InvalidSwap")) (.ref (He.ga K "UnlikeKeys")) = some false)
def e_12 : PySem.W.Frag → Bool := fun K => decide (PySem.W.exmOne K (.ref (He.ga K "UnlikeKeys")) (.ref (He.ga K "InvalidList")) = some false)
def e_13 : PySem.W.Frag → Bool := fun K => decide (PySem.W.exmOne K (.ref (He.ga K "UnlikeKeys")) (.ref (He.ga K "InvalidSwap")) = some false)
def e_14 : PySem.W.Frag → Bool := fun K => decide (PySem.W.exmOne K (.ref (He.ga K "UnlikeKeys")) (.ref (He.ga K "UnlikeKeys")) = some true)
def e_15 : PySem.W.Frag → Bool := fun K => decide (PySem.W.kitOne K (.ref (He.ga K "InvalidList")) (.ref (He.ga K "DriftError")) = some true)
def e_16 : PySem.W.Frag → Bool := fun K => decide (PySem.W.kitOne K (.ref (He.ga K "InvalidList")) (.ref (He.ga K "InvalidSwap")) = some false)
def e_17 : PySem.W.Frag → Bool := fun K => decide (PySem.W.kitOne K (.ref (He.ga K "InvalidList")) (.ref (He.ga K "UnlikeKeys")) = some false)
def e_18 : PySem.W.Frag → Bool := fun K => decide (PySem.W.kitOne K (.ref (He.ga K "InvalidList")) (.type "ValueError") = some true)
def e_19 : PySem.W.Frag → Bool := fun K => decide (PySem.W.kitOne K (.ref (He.ga K "InvalidSwap")) (.ref (He.ga K "DriftError")) = some true)
def e_20 : PySem.W.Frag → Bool := fun K => decide (PySem.W.kitOne K (.ref (He.ga K "InvalidSwap")) (.type "ValueError") = some true)
def e_21 : PySem.W.Frag → Bool := fun K => decide (PySem.W.kitOne K (.ref (He.ga K "UnlikeKeys")) (.ref (He.ga K "DriftError")) = some true)
def e_22 : PySem.W.Frag → Bool := fun K => decide (PySem.W.kitOne K (.ref (He.ga K "UnlikeKeys")) (.ref (He.ga K "InvalidSwap")) = some false)
def e_23 : PySem.W.Frag → Bool := fun K => decide (PySem.W.kitOne K (.ref (He.ga K "UnlikeKeys")) (.type "ValueError") = some true)
def ex : List (PySem.W.Frag → Bool) := [e_0, e_1, e_2, e_3, e_4, e_5, e_6, e_7, e_8, e_9, e_10, e_11, e_12, e_13, e_14, e_15, e_16, e_17, e_18, e_19, e_20, e_21, e_22, e_23]
abbrev hk : PySem.W.Hook := PyH.hookK 6 fa fn xs ex
def ob (s : PySem.W.SharedT) : PyH.AlK := PyH.obsKG 6 fa fn xs ex (HandSHeadRun.getT s)
theorem ob_eq (s : PySem.W.SharedT) : ob s = hk.obs s.abs := PyH.obsKG_eq (HandSHeadRun.getT_eq s)
theorem run (w : World) : HandSHeadRun.RunEq R (PySem.W.view R.prog [37]) hk ob 3000 nms w := by
  intro os
  kernel_rfl
theorem facts {P : Program} {K : PySem.W.Frag} {h : Heap} {mg : Str → Option Value} (X : K.In h) (G : h.Ns mainGlobals mg) (c : PyH.SaysK fa fn xs ex K) (htop : (P.main.scope.names.lookup ("super" : Str)).isSome = false) (hfile : ((P.main.file : Str) == ("/claim/cut.py" : Str)) = true) : TX P K mg where
  F_first_wrong_place := c.d.def_ 0 (d := d_first_wrong_place) rfl
  g_first_wrong_place := He.glo_ok X G (c.d.fact 0 (f := .glo "first_wrong_place") rfl)
  F_check_list := c.d.def_ 1 (d := d_check_list) rfl
  g_check_list := He.glo_ok X G (c.d.fact 1 (f := .glo "check_list") rfl)
  F_require_same := c.d.def_ 2 (d := d_require_same) rfl
  g_require_same := He.glo_ok X G (c.d.fact 2 (f := .glo "require_same") rfl)
  F__check_two := c.d.def_ 3 (d := d__check_two) rfl
  g__check_two := He.glo_ok X G (c.d.fact 3 (f := .glo "_check_two") rfl)
  F_index_of := c.d.def_ 4 (d := d_index_of) rfl
  g_index_of := He.glo_ok X G (c.d.fact 4 (f := .glo "index_of") rfl)
  F_differing_pairs := c.d.def_ 5 (d := d_differing_pairs) rfl
  g_differing_pairs := He.glo_ok X G (c.d.fact 5 (f := .glo "differing_pairs") rfl)
  F_straight_swaps := c.d.def_ 6 (d := d_straight_swaps) rfl
  g_straight_swaps := He.glo_ok X G (c.d.fact 6 (f := .glo "straight_swaps") rfl)
  F_swap_at := c.d.def_ 7 (d := d_swap_at) rfl
  g_swap_at := He.glo_ok X G (c.d.fact 7 (f := .glo "swap_at") rfl)
  F__law_ask := c.d.def_ 8 (d := d__law_ask) rfl
  g__law_ask := He.glo_ok X G (c.d.fact 8 (f := .glo "_law_ask") rfl)
  F__law_differing := c.d.def_ 9 (d := d__law_differing) rfl
  g__law_differing := He.glo_ok X G (c.d.fact 9 (f := .glo "_law_differing") rfl)
  F__law_unlike := c.d.def_ 10 (d := d__law_unlike) rfl
  g__law_unlike := He.glo_ok X G (c.d.fact 10 (f := .glo "_law_unlike") rfl)
  F__law_wrong := c.d.def_ 11 (d := d__law_wrong) rfl
  g__law_wrong := He.glo_ok X G (c.d.fact 11 (f := .glo "_law_wrong") rfl)
  F__law_due := c.d.def_ 12 (d := d__law_due) rfl
  g__law_due := He.glo_ok X G (c.d.fact 12 (f := .glo "_law_due") rfl)
  F__law_exchanged := c.d.def_ 13 (d := d__law_exchanged) rfl
  g__law_exchanged := He.glo_ok X G (c.d.fact 13 (f := .glo "_law_exchanged") rfl)
  F__law_int := c.d.def_ 14 (d := d__law_int) rfl
  g__law_int := He.glo_ok X G (c.d.fact 14 (f := .glo "_law_int") rfl)
  F__law_ints := c.d.def_ 15 (d := d__law_ints) rfl
  g__law_ints := He.glo_ok X G (c.d.fact 15 (f := .glo "_law_ints") rfl)
  F__law_straight := c.d.def_ 16 (d := d__law_straight) rfl
  g__law_straight := He.glo_ok X G (c.d.fact 16 (f := .glo "_law_straight") rfl)
  F__law_tuple := c.d.def_ 17 (d := d__law_tuple) rfl
  g__law_tuple := He.glo_ok X G (c.d.fact 17 (f := .glo "_law_tuple") rfl)
  F__law_tuples := c.d.def_ 18 (d := d__law_tuples) rfl
  g__law_tuples := He.glo_ok X G (c.d.fact 18 (f := .glo "_law_tuples") rfl)
  F__law_asked := c.d.def_ 19 (d := d__law_asked) rfl
  g__law_asked := He.glo_ok X G (c.d.fact 19 (f := .glo "_law_asked") rfl)
  F__law_take := c.d.def_ 20 (d := d__law_take) rfl
  g__law_take := He.glo_ok X G (c.d.fact 20 (f := .glo "_law_take") rfl)
  F__law_bent := c.d.def_ 21 (d := d__law_bent) rfl
  g__law_bent := He.glo_ok X G (c.d.fact 21 (f := .glo "_law_bent") rfl)
  F__law_box := c.d.def_ 22 (d := d__law_box) rfl
  g__law_box := He.glo_ok X G (c.d.fact 22 (f := .glo "_law_box") rfl)
  F__law_order := c.d.def_ 23 (d := d__law_order) rfl
  g__law_order := He.glo_ok X G (c.d.fact 23 (f := .glo "_law_order") rfl)
  F__law_keys := c.d.def_ 24 (d := d__law_keys) rfl
  g__law_keys := He.glo_ok X G (c.d.fact 24 (f := .glo "_law_keys") rfl)
  F__law_second := c.d.def_ 25 (d := d__law_second) rfl
  g__law_second := He.glo_ok X G (c.d.fact 25 (f := .glo "_law_second") rfl)
  F__law_widened := c.d.def_ 26 (d := d__law_widened) rfl
  g__law_widened := He.glo_ok X G (c.d.fact 26 (f := .glo "_law_widened") rfl)
  F_law := c.d.def_ 27 (d := d_law) rfl
  g_law := He.glo_ok X G (c.d.fact 27 (f := .glo "law") rfl)
  g_DriftError := He.glo_ok X G (c.d.fact 28 (f := .glo "DriftError") rfl)
  g_InvalidList := He.glo_ok X G (c.d.fact 29 (f := .glo "InvalidList") rfl)
  g_InvalidSwap := He.glo_ok X G (c.d.fact 30 (f := .glo "InvalidSwap") rfl)
  g_UnlikeKeys := He.glo_ok X G (c.d.fact 31 (f := .glo "UnlikeKeys") rfl)
  n_ValueError := He.free_ok X G (c.d.fact 32 (f := .free "ValueError") rfl)
  n_abs := He.free_ok X G (c.d.fact 33 (f := .free "abs") rfl)
  n_all := He.free_ok X G (c.d.fact 34 (f := .free "all") rfl)
  n_bool := He.free_ok X G (c.d.fact 35 (f := .free "bool") rfl)
  n_enumerate := He.free_ok X G (c.d.fact 36 (f := .free "enumerate") rfl)
  n_int := He.free_ok X G (c.d.fact 37 (f := .free "int") rfl)
  n_isinstance := He.free_ok X G (c.d.fact 38 (f := .free "isinstance") rfl)
  n_len := He.free_ok X G (c.d.fact 39 (f := .free "len") rfl)
  n_list := He.free_ok X G (c.d.fact 40 (f := .free "list") rfl)
  n_max := He.free_ok X G (c.d.fact 41 (f := .free "max") rfl)
  n_min := He.free_ok X G (c.d.fact 42 (f := .free "min") rfl)
  n_range := He.free_ok X G (c.d.fact 43 (f := .free "range") rfl)
  n_sorted := He.free_ok X G (c.d.fact 44 (f := .free "sorted") rfl)
  n_super := He.free_ok X G (c.d.fact 45 (f := .free "super") rfl)
  n_tuple := He.free_ok X G (c.d.fact 46 (f := .free "tuple") rfl)
  i_MAX_KEY := He.int_ok X G (c.d.fact 47 (f := .int "MAX_KEY" 9999) rfl)
  i_MAX_KEYS := He.int_ok X G (c.d.fact 48 (f := .int "MAX_KEYS" 12) rfl)
  tx_InvalidList := PyH.ex_txt (d := x_InvalidList) (c.init 0 rfl) (c.exs 0 rfl) rfl rfl rfl (fun _ => ⟨rfl, _, rfl⟩) ⟨rfl, rfl, rfl, rfl⟩ (by intros; rfl) htop hfile
  tx_InvalidSwap := PyH.ex_txt (d := x_InvalidSwap) (c.init 1 rfl) (c.exs 1 rfl) rfl rfl rfl (fun _ => ⟨rfl, _, rfl⟩) ⟨rfl, rfl, rfl, rfl⟩ (by intros; rfl) htop hfile
  tx_UnlikeKeys := PyH.ex_txt (d := x_UnlikeKeys) (c.init 2 rfl) (c.exs 2 rfl) rfl rfl rfl (fun _ => ⟨rfl, _, rfl⟩) ⟨rfl, rfl, rfl, rfl⟩ (by intros; rfl) htop hfile
  x_InvalidList := PyH.ex2B_ok (c.exs 3 rfl)
  x_InvalidSwap := PyH.ex2B_ok (c.exs 4 rfl)
  x_UnlikeKeys := PyH.ex2B_ok (c.exs 5 rfl)
  exm_InvalidList_InvalidList := of_decide_eq_true (c.exs 6 rfl)
  exm_InvalidList_InvalidSwap := of_decide_eq_true (c.exs 7 rfl)
  exm_InvalidList_UnlikeKeys := of_decide_eq_true (c.exs 8 rfl)
  exm_InvalidSwap_InvalidList := of_decide_eq_true (c.exs 9 rfl)
  exm_InvalidSwap_InvalidSwap := of_decide_eq_true (c.exs 10 rfl)
  exm_InvalidSwap_UnlikeKeys := of_decide_eq_true (c.exs 11 rfl)
  exm_UnlikeKeys_InvalidList := of_decide_eq_true (c.exs 12 rfl)
  exm_UnlikeKeys_InvalidSwap := of_decide_eq_true (c.exs 13 rfl)
  exm_UnlikeKeys_UnlikeKeys := of_decide_eq_true (c.exs 14 rfl)
  kit_InvalidList_DriftError := of_decide_eq_true (c.exs 15 rfl)
  kit_InvalidList_InvalidSwap := of_decide_eq_true (c.exs 16 rfl)
  kit_InvalidList_UnlikeKeys := of_decide_eq_true (c.exs 17 rfl)
  kit_InvalidList_ValueError := of_decide_eq_true (c.exs 18 rfl)
  kit_InvalidSwap_DriftError := of_decide_eq_true (c.exs 19 rfl)
  kit_InvalidSwap_ValueError := of_decide_eq_true (c.exs 20 rfl)
  kit_UnlikeKeys_DriftError := of_decide_eq_true (c.exs 21 rfl)
  kit_UnlikeKeys_InvalidSwap := of_decide_eq_true (c.exs 22 rfl)
  kit_UnlikeKeys_ValueError := of_decide_eq_true (c.exs 23 rfl)
end K06
namespace K06
open PySem PySem.Spec L2 PyD PyT PyE PyH
local macro_rules | `(tactic| walk_at "w1") => `(tactic| first
  | ((with_reducible show wpS _ _ _ (tSeq (tAsg _ _) _) _ _ _); refine wpS_seq ?_)
  | ((with_reducible show wpS _ _ _ (tSeq (tDrop _) _) _ _ _); refine wpS_seq ?_)
  | ((with_reducible show wpS _ _ _ (tSeq (sDPut _ _ _) _) _ _ _); refine wpS_seq ?_)
  | ((with_reducible show wpS _ _ _ (tSeq (tSeq _ _) _) _ _ _); refine wpS_seq ?_)
  | ((with_reducible show wpS _ _ _ (tSeq (tNext) _) _ _ _); refine wpS_seq ?_)
  | ((with_reducible show wpS _ _ _ (tSeq (tIfS _ (tRet _) tNext) _) _ _ _); refine wpS_seq ?_)
  | ((with_reducible show wpS _ _ _ (tSeq (tIfS _ (tRaiseX _ _ _ _ _) tNext) _) _ _ _); refine wpS_seq ?_)
  | ((with_reducible show wpS _ _ _ (tSeq (tIfS _ (tSeq _ (tRet _)) tNext) _) _ _ _); refine wpS_seq ?_)
  | (with_reducible refine wpS_set ?_)
  | (with_reducible refine wpS_sub ?_)
  | (with_reducible refine wpS_drop ?_)
  | (with_reducible refine wpS_next ?_)
  | (with_reducible refine wpS_retN ?_)
  | (with_reducible refine wpS_brk ?_)
  | (with_reducible refine wpS_cont ?_)
  | (with_reducible refine wpS_raise ?_)
  | (with_reducible refine wpS_dput ?_)
  | ((with_reducible show wpE _ _ _ (tVar _) _ _ _); refine wpE_var rfl ?_)
  | (with_reducible refine wpE_int ?_)
  | (with_reducible refine wpE_bl ?_)
  | (with_reducible refine wpE_str ?_)
  | (with_reducible refine wpE_non ?_)
  | (with_reducible refine wpE_ref ?_)
  | (with_reducible refine wpE_ty ?_)
  | (with_reducible refine wpE_op ?_)
  | (with_reducible refine wpE_un ?_)
  | (with_reducible refine wpE_cb ?_)
  | (with_reducible refine wpE_andV ?_)
  | (with_reducible refine wpE_orV ?_)
  | (with_reducible refine wpE_notV ?_)
  | (with_reducible refine wpE_tup ?_)
  | (with_reducible refine wpE_dnew ?_)
  | (with_reducible refine wpE_dget ?_)
  | (with_reducible refine wpE_din ?_)
  | (with_reducible refine wpE_dnotin ?_)
  | (with_reducible refine wpE_bm rfl ?_)
  | (with_reducible refine wpE_bm0 rfl ?_)
  | (with_reducible refine wpE_call0E (fun _ => .nil) ?_)
  | (with_reducible refine wpA_nil ?_)
  | (with_reducible refine wpA_cons ?_)
  | (with_reducible refine wpO_none ?_)
  | (with_reducible refine wpO_some ?_)
  | (with_reducible refine wpT_test ?_)
  | (with_reducible refine wpT_B ?_)
  | (with_reducible refine wpT_not ?_)
  | (with_reducible refine wpT_tru ?_)
  | (with_reducible refine wpR_addI ?_)
  | (with_reducible refine wpR_sub ?_)
  | (with_reducible refine wpR_lt ?_)
  | (with_reducible refine wpR_le ?_)
  | (with_reducible refine wpR_gt ?_)
  | (with_reducible refine wpR_ge ?_)
  | (with_reducible refine wpR_eqI ?_)
  | (with_reducible refine wpR_neI ?_)
  | (with_reducible refine wpR_eqS ?_)
  | (with_reducible refine wpR_neS ?_)
  | (with_reducible refine wpR_eqB ?_)
  | (with_reducible refine wpR_isN ?_)
  | (with_reducible refine wpR_notN ?_)
  | (with_reducible refine wpU_neg ?_)
  | (with_reducible refine wpC_int ?_)
  | (with_reducible refine wpC_abs ?_)
  | (with_reducible refine wpC_max2 ?_)
  | (with_reducible refine wpC_min2 ?_)
  | (with_reducible refine wpI_list ?_)
  | (with_reducible refine wpI_tup ?_)
  | (with_reducible refine wpI_rng1 ?_)
  | (with_reducible refine wpI_rng2 ?_)
  | (with_reducible refine wpI_enum ?_)
  | ((with_reducible show wpR _ rDivA _ _ _ _); refine wpR_div (by omega) (by omega) ?_)
  | ((with_reducible show wpR _ rModA _ _ _ _); refine wpR_mod (by omega) ?_)
  | ((with_reducible show wpR _ rMulA _ _ _ _); first | refine wpR_mul (.inl ⟨by omega, by omega⟩) ?_ | refine wpR_mul (.inr ⟨by omega, by omega⟩) ?_)
  | ((with_reducible show wpR _ rPowA _ _ _ _); refine wpR_pow ⟨by decide, by decide, by decide⟩ ?_)
  | ((with_reducible show wpPut _ rSetL _ (.int _) _ _ _); first
      | refine wpPut_I (j := 0) rfl (by omega) (by omega) ?_
      | refine wpPut_I (j := 1) rfl (by omega) (by omega) ?_
      | refine wpPut_I (j := 0) rfl (by omega) (by simp only [List.length_set]; omega) ?_
      | refine wpPut_I (j := 1) rfl (by omega) (by simp only [List.length_set]; omega) ?_
      | refine wpPut_lst (j := 0) rfl (by omega) (by simp <;> omega) ?_
      | refine wpPut_lst (j := 1) rfl (by omega) (by simp <;> omega) ?_)
  | ((with_reducible show ∃ b, TrD _ (.bl _) b ∧ _); refine ⟨_, .bl _, ?_⟩)
  | ((with_reducible show ∃ b, TrD _ .non b ∧ _); refine ⟨_, .non, ?_⟩)
  | ((with_reducible show ∃ b, TrD _ (.int _) b ∧ _); refine ⟨_, .int _, ?_⟩)
  | ((with_reducible show wpS _ _ _ (tIfS (tTest _) _ _) _ _ _); refine wpS_if ?_)
  | ((with_reducible show wpS _ _ _ (tIfS (tB _) _ _) _ _ _); refine wpS_if ?_)
  | ((with_reducible show wpS _ _ _ (tIfS (tTru _ _) _ _) _ _ _); refine wpS_if ?_)
  | ((with_reducible show wpS _ _ _ (tIfS (tNot _) _ _) _ _ _); refine wpS_if ?_)
  | ((with_reducible show wpR _ (rIxLT _) _ _ _ _); first
      | refine wpR_ixI seq_l (by omega) (by omega) ?_
      | refine wpR_ixI (seq_m (i := 0) rfl) (by omega) (by omega) ?_
      | refine wpR_ixI (seq_m (i := 1) rfl) (by omega) (by omega) ?_
      | refine wpR_ixI (seq_m (i := 2) rfl) (by omega) (by omega) ?_
      | refine wpR_ixA (.inl seq_l) rfl ?_
      | refine wpR_ixA (.inr rfl) rfl ?_
      | refine wpR_ixA (.inl (seq_m (i := 0) rfl)) rfl ?_
      | refine wpR_ixA (.inl (seq_m (i := 1) rfl)) rfl ?_
      | refine wpR_ixA (.inl (seq_m (i := 2) rfl)) rfl ?_)
  | ((with_reducible show wpC _ (rLenA _) _ _ _); first
      | refine wpC_lenI seq_l ?_
      | refine wpC_lenI seq_k ?_
      | refine wpC_lenI (seq_m (i := 0) rfl) ?_
      | refine wpC_lenI (seq_m (i := 1) rfl) ?_
      | refine wpC_lenL seq_l ?_
      | refine wpC_lenL seq_k ?_
      | refine wpC_lenT ?_
      | refine wpC_lenL (seq_m (i := 0) rfl) ?_
      | refine wpC_lenL (seq_m (i := 1) rfl) ?_
      | refine wpC_lenL (seq_m (i := 2) rfl) ?_)
  | (with_reducible refine wpG_name ?_)
  | (with_reducible refine wpG_tup rfl ?_)
  | (with_reducible refine wpGs_cons ?_)
  | (with_reducible refine wpGs_nil ?_)
  | (with_reducible refine ⟨_, rfl, ?_⟩)
  | (intro wf; cases wf; done)
  | (dsimp only [List.set_cons_zero, List.set_cons_succ, List.append_nil, List.nil_append, List.cons_append, wipeG, Int.reduceToNat, List.length_map, lcEnd, dcEnd]))
local macro_rules | `(tactic| walk_at "w") => `(tactic| repeat (walk_at "w1"))
local macro_rules | `(tactic| walk_at "start") => `(tactic| (dsimp only [startD, List.length_cons, List.length_nil, List.map_cons, List.map_nil, Nat.reduceAdd, Nat.reduceSub, List.replicate, List.cons_append, List.nil_append, List.map]))
local macro_rules | `(tactic| walk_at "wr") => `(tactic| ((repeat (walk_at "w1")); (with_reducible refine wpS_ret ?_); (repeat (walk_at "w1"))))
local macro_rules | `(tactic| walk_at "c0") => `(tactic| ((with_reducible refine wpE_call0 (fun _ => .nil) ?_); (repeat (walk_at "w1"))))
local macro_rules | `(tactic| walk_at "c1") => `(tactic| ((with_reducible refine wpE_call1 (fun _ => .nil) ?_); (repeat (walk_at "w1"))))
section
variable {K : PySem.W.Frag} {W : WX} {ds : List D} {O : Ow} {k : Kk} {x : Xk}
theorem w__law_take (h : sp__law_take K ds O k x) (lo : ∀ p ∈ O, p.loc = false) : wpS K W (fun e _ O' => x e O') (t__law_take K W) (startD N__law_take.length ds) O { nx := fun _ O' => k .non O', rt := k } := by
  obtain ⟨a, d, n, ⟨rfl, rfl⟩, ⟨cs, r, t, rfl, hr, ht, hl⟩, h1, h2, hk⟩ := h
  unfold t__law_take boxD
  walk_at "start"
  walk_at "w"
  refine ⟨fun h => ?_, fun h => ?_⟩
  · have hr' := of_decide_eq_true h
    walk_at "wr"
    exact hk _ _ (Int.emod_nonneg _ (by omega)) (Int.emod_lt_of_pos _ (by omega)) ⟨cs, r / n, t, rfl, Int.ediv_nonneg hr (by omega), ht, hl⟩
  · walk_at "w"
    -- the cell
    refine wpS_mid (fun G O' => ∃ c : Int, 0 ≤ c ∧ G = [some (.mut a), some (.int n), some (.int r), some (.int (t + 1)), some (L cs), some (.int c), none] ∧ O' = [⟨a, false, boxD cs r (t + 1)⟩]) ?_ ?_
    · walk_at "w"
      refine ⟨fun h1' => ?_, fun h1' => ?_⟩
      · have h1' := of_decide_eq_true h1'
        walk_at "w"
        have hc : ∀ z : Int, 0 ≤ if z < 0 then -z else z := fun z => by split <;> omega
        generalize e : (if cs.getD (t + 1 - 1).toNat 0 < 0 then -cs.getD (t + 1 - 1).toNat 0 else cs.getD (t + 1 - 1).toNat 0) = c
        have c0 : 0 ≤ c := by rw [← e]; exact hc _
        refine ⟨fun h2' => ?_, fun h2' => ?_⟩
        · walk_at "wr"
          exact hk _ _ (Int.emod_nonneg _ (by omega)) (Int.emod_lt_of_pos _ (by omega)) ⟨cs, c / n, t + 1, rfl, Int.ediv_nonneg c0 (by omega), by omega, hl⟩
        · walk_at "w"
          exact ⟨c, c0, rfl, rfl⟩
      · walk_at "w"
        refine ⟨_, .seq seq_l, fun h2' => ?_, fun h2' => ?_⟩
        · have hp : 0 < cs.length := by
            cases cs with
            | nil => simp at h2'
            | cons a b => simp
          walk_at "w"
          refine wpR_ixI seq_l (Int.emod_nonneg _ (by omega)) (Int.emod_lt_of_pos _ (by omega)) ?_
          walk_at "w"
          exact ⟨_, by split <;> omega, rfl, rfl⟩
        · walk_at "w"
          exact ⟨0, by omega, rfl, rfl⟩
    · intro G O' h
      obtain ⟨c, c0, rfl, rfl⟩ := h
      walk_at "wr"
      exact hk _ _ (Int.emod_nonneg _ (by omega)) (Int.emod_lt_of_pos _ (by omega)) ⟨cs, r, t + 1, rfl, hr, by omega, hl⟩
end
section
variable {K : PySem.W.Frag} {W : WX} {ds : List D} {O : Ow} {k : Kk} {x : Xk}
theorem w__law_exchanged (h : sp__law_exchanged K ds O k x) (lo : ∀ p ∈ O, p.loc = false) : wpS K W (fun e _ O' => x e O') (t__law_exchanged K W) (startD N__law_exchanged.length ds) O { nx := fun _ O' => k .non O', rt := k } := by
  obtain ⟨a, i, ⟨rfl, rfl⟩, h0, h1, hk⟩ := h
  unfold t__law_exchanged
  walk_at "start"
  walk_at "w"
  refine wpC_list false seq_l ?_
  intro c hc
  refine wpS_seq ?_
  walk_at "w"
  have e : (i + 1).toNat = i.toNat + 1 := by omega
  refine wpS_frz (i := 2) (j := 0) rfl rfl ?_
  walk_at "wr"
  rw [e]
  exact hk
theorem w__law_int (h : sp__law_int K ds O k x) (lo : ∀ p ∈ O, p.loc = false) : wpS K W (fun e _ O' => x e O') (t__law_int K W) (startD N__law_int.length ds) O { nx := fun _ O' => k .non O', rt := k } := by
  obtain ⟨i, ⟨rfl, rfl⟩, hk⟩ := h
  unfold t__law_int
  walk_at "start"
  walk_at "wr"
  refine wpC_isi (.int i) (b := true) (by decide +kernel) ?_
  walk_at "w"
  refine ⟨fun _ => ?_, fun h => (by cases h)⟩
  walk_at "w"
  refine wpC_isi (.int i) (b := false) (by decide +kernel) ?_
  walk_at "w"
  exact hk
theorem w__law_ints (h : sp__law_ints K ds O k x) (lo : ∀ p ∈ O, p.loc = false) : wpS K W (fun e _ O' => x e O') (t__law_ints K W) (startD N__law_ints.length ds) O { nx := fun _ O' => k .non O', rt := k } := by
  obtain ⟨c, a, ⟨rfl, rfl⟩, hl, hk⟩ := h
  unfold t__law_ints
  walk_at "start"
  refine wpS_seq ?_
  refine wpS_ite false ?_ (fun h => (by cases h)) fun _ => ?_
  · refine wpT_or ?_
    walk_at "w"
    refine wpC_isi (.own (List.mem_cons_self)) (b := true) (by decide +kernel) ?_
    walk_at "w"
    refine ⟨fun h => (by cases h), fun _ => ?_⟩
    walk_at "w"
    refine wpE_lcA true a D.int (fun _ => some (.bl true)) (gIn_name (by decide)) gMono_name ?_
    walk_at "w"
    refine ⟨a.map D.int, seq_m (i := 0) rfl, rfl, small1000 (by omega), seq_m (i := 0) rfl, fun i z hz => ?_, ?_⟩
    · walk_at "w"
      refine ⟨rfl, wpT_yes ⟨rfl, fun _ => ?_, fun h => (by cases h)⟩⟩
      walk_at "w"
      exact ⟨_, ⟨rfl, rfl⟩, rfl, rfl⟩
    · walk_at "w"
      refine wpC_allT seq_l ?_
      walk_at "w"
      exact ⟨rfl, rfl⟩
  · walk_at "wr"
    refine wpR_eqLd (view_m (i := 0) rfl) view_self ?_
    simpa using hk
theorem w__law_tuple (h : sp__law_tuple K ds O k x) (lo : ∀ p ∈ O, p.loc = false) : wpS K W (fun e _ O' => x e O') (t__law_tuple K W) (startD N__law_tuple.length ds) O { nx := fun _ O' => k .non O', rt := k } := by
  obtain ⟨⟨p1, p2⟩, ⟨rfl, rfl⟩, hk⟩ := h
  unfold t__law_tuple
  walk_at "start"
  refine wpS_seq ?_
  refine wpS_ite false ?_ (fun h => (by cases h)) fun _ => ?_
  · refine wpT_or ?_
    walk_at "w"
    refine wpC_isi (.tup _) (b := true) (by decide +kernel) ?_
    walk_at "w"
    refine ⟨fun h => (by cases h), fun _ => ?_⟩
    walk_at "w"
    refine wpE_lcA true [p1, p2] D.int (fun _ => some (.bl true)) (gIn_name (by decide)) gMono_name ?_
    walk_at "w"
    refine ⟨rfl, small1000 (by simp), trivial, fun i z hz => ?_, ?_⟩
    · walk_at "w"
      refine ⟨rfl, wpT_yes ⟨rfl, fun _ => ?_, fun h => (by cases h)⟩⟩
      walk_at "w"
      exact ⟨_, ⟨rfl, rfl⟩, rfl, rfl⟩
    · walk_at "w"
      refine wpC_allT (as := [p1, p2]) seq_l ?_
      walk_at "w"
      exact ⟨rfl, rfl⟩
  · walk_at "wr"
    refine wpR_eqPd ?_
    simpa using hk
end
section
variable {K : PySem.W.Frag} {W : WX} {ds : List D} {O : Ow} {k : Kk} {x : Xk}
theorem w__law_box (h : sp__law_box K ds O k x) (lo : ∀ p ∈ O, p.loc = false) : wpS K W (fun e _ O' => x e O') (t__law_box K W) (startD N__law_box.length ds) O { nx := fun _ O' => k .non O', rt := k } := by
  obtain ⟨ns, ⟨rfl, rfl⟩, hl, hk⟩ := h
  unfold t__law_box
  walk_at "start"
  walk_at "wr"
  refine wpE_lst false ?_
  walk_at "w"
  refine wpE_slL true ?_
  walk_at "w"
  refine ⟨ns.map D.int, seq_k, ?_⟩
  walk_at "w"
  rw [show (some (63 : Int)) = some ((63 : Nat) : Int) from rfl, cut_take hl]
  refine wpC_list true seq_l ?_
  walk_at "w"
  refine ⟨by show 3 ≤ sizeLine; decide, ?_⟩
  intro c hc
  exact hk c _ ⟨ns, 0, 0, rfl, by omega, by omega, hl⟩
theorem perm_erase : ∀ (l : List Int) (i : Nat) (h : i < l.length), (l[i] :: l.eraseIdx i).Perm l
  | [], _, h => by simp at h
  | a :: l, 0, _ => List.Perm.refl _
  | a :: l, i + 1, h => by
    have h2 : i < l.length := by simpa using h
    refine List.Perm.trans (List.Perm.swap a (l[i]'h2) _) ?_
    exact List.Perm.cons a (perm_erase l i h2)
theorem perm_pop {o l ns : List Int} {i : Nat} (h : (o ++ l).Perm ns) (hi : i < l.length) : (o ++ [l.getD i 0] ++ l.eraseIdx i).Perm ns := by
  refine List.Perm.trans ?_ h
  rw [List.append_assoc]
  refine List.Perm.append_left o ?_
  have e : l.getD i 0 = l[i] := by rw [List.getD_eq_getElem?_getD, List.getElem?_eq_getElem hi] <;> rfl
  rw [e]
  exact perm_erase l i hi
theorem w__law_order (h : sp__law_order K ds O k x) (lo : ∀ p ∈ O, p.loc = false) : wpS K W (fun e _ O' => x e O') (t__law_order K W) (startD N__law_order.length ds) O { nx := fun _ O' => k .non O', rt := k } := by
  obtain ⟨a, d, ns, ⟨rfl, rfl⟩, hB, hl, hk⟩ := h
  unfold t__law_order
  walk_at "start"
  walk_at "w"
  refine wpC_list false seq_l ?_
  intro lf hlf
  walk_at "w"
  refine wpE_lst false ?_
  walk_at "w"
  refine ⟨by simp, ?_⟩
  intro od hod
  refine wpS_seq ?_
  refine wpS_forA (List.range ns.length) (fun i => .int (0 + (i : Int))) (fun i G O => ∃ v o l d', G = [some (.mut a), some (L ns), some (.mut lf), some (.mut od), v] ∧ O = [⟨od, true, L o⟩, ⟨lf, true, L l⟩, ⟨a, false, d'⟩] ∧ Bx d' ∧ (o ++ l).Perm ns ∧ o.length = i ∧ o.length + l.length = ns.length) ?_
  walk_at "w"
  refine ⟨⟨by omega, by omega⟩, by rw [Int.toNat_natCast]; rfl, ⟨none, [], ns, d, rfl, rfl, hB, List.Perm.refl _, rfl, by simp⟩, fun _ _ _ _ _ => trivial, ?_, ?_⟩
  · intro i j G' O' hij hI
    obtain ⟨rfl, hi⟩ := range_get hij
    obtain ⟨v, o, l, d', rfl, rfl, hB, hp, h1, h2⟩ := hI
    walk_at "w"
    refine ⟨⟨_, seq_m (i := 0) rfl⟩, ?_⟩
    walk_at "w"
    refine ⟨⟨_, seq_m (i := 1) rfl⟩, ?_⟩
    walk_at "w"
    walk_at "c1"
    refine ⟨2, _, _, _, rfl, ⟨_, _, _, ⟨rfl, rfl⟩, hB, by omega, by omega, fun v d' v0 v1 hB' => ⟨[], _, rfl, ?_⟩⟩⟩
    walk_at "w"
    refine wpM_popAtI (j := 1) rfl v0 v1 (by omega) ?_
    walk_at "w"
    refine wpM_appendI (j := 0) rfl (by omega) ?_
    walk_at "w"
    exact ⟨_, _, _, _, rfl, rfl, hB', perm_pop hp (by omega), by simp; omega, by simp [List.length_eraseIdx]; split <;> omega⟩
  · intro G' O' hI
    obtain ⟨v, o, l, d', rfl, rfl, hB, hp, h1, h2⟩ := hI
    rw [List.length_range] at h1
    have hl0 : l = [] := List.length_eq_zero_iff.mp (by omega)
    subst hl0
    rw [List.append_nil] at hp
    refine wpS_frz (i := 3) (j := 0) rfl rfl ?_
    refine wpS_subO (O' := [⟨a, false, d'⟩]) (by simp) ?_
    walk_at "wr"
    exact hk o d' hB hp
theorem w__law_keys (h : sp__law_keys K ds O k x) (lo : ∀ p ∈ O, p.loc = false) : wpS K W (fun e _ O' => x e O') (t__law_keys K W) (startD N__law_keys.length ds) O { nx := fun _ O' => k .non O', rt := k } := by
  obtain ⟨a, d, n, ⟨rfl, rfl⟩, hB, h0, h1, hk⟩ := h
  unfold t__law_keys
  walk_at "start"
  walk_at "w"
  refine wpE_lst false ?_
  walk_at "w"
  refine ⟨by simp, ?_⟩
  intro ks hks
  walk_at "w"
  walk_at "c1"
  refine ⟨1, _, _, _, rfl, ⟨_, _, _, ⟨rfl, rfl⟩, hB, by omega, by omega, fun v d' v0 v1 hB' => ⟨[], _, rfl, ?_⟩⟩⟩
  walk_at "w"
  refine wpS_seq ?_
  refine wpS_forA (List.range n.toNat) (fun i => .int (0 + (i : Int))) (fun i G O => ∃ w l q d', G = [some (.mut a), some (.int n), some (.mut ks), some (.int w), q] ∧ O = [⟨ks, true, L l⟩, ⟨a, false, d'⟩] ∧ Bx d' ∧ l.length = i ∧ l.Nodup ∧ (∀ z ∈ l, 0 ≤ z ∧ z < w) ∧ 0 ≤ w ∧ w < 600 + 500 * (i : Int)) ?_
  walk_at "w"
  refine ⟨⟨by omega, by omega⟩, rfl, ⟨v, [], none, d', rfl, rfl, hB', rfl, List.nodup_nil, by simp, v0, by omega⟩, fun _ _ _ _ _ => trivial, ?_, ?_⟩
  · intro i j G' O' hij hI
    obtain ⟨rfl, hi⟩ := range_get hij
    obtain ⟨w, l, q, d', rfl, rfl, hB, h3, h4, h5, h6, h7⟩ := hI
    walk_at "w"
    refine ⟨⟨_, seq_m (i := 0) rfl⟩, ?_⟩
    walk_at "w"
    refine wpM_appendI (j := 0) rfl (by omega) ?_
    walk_at "w"
    walk_at "c1"
    refine ⟨1, _, _, _, rfl, ⟨_, _, _, ⟨rfl, rfl⟩, hB, by omega, by omega, fun v d' v0 v1 hB' => ⟨[], _, rfl, ?_⟩⟩⟩
    walk_at "w"
    walk_at "c1"
    refine ⟨1, _, _, _, rfl, ⟨_, _, _, ⟨rfl, rfl⟩, hB', by omega, by omega, fun u d'' u0 u1 hB'' => ⟨[], _, rfl, ?_⟩⟩⟩
    walk_at "w"
    have m0 : 0 ≤ v * u := Int.mul_nonneg v0 u0
    have m1 : v * u ≤ 2 * 239 := Int.mul_le_mul (by omega) (by omega) u0 (by omega)
    refine ⟨_, _, _, _, rfl, rfl, hB'', by simp; omega, ?_, ?_, by omega, by omega⟩
    · rw [List.nodup_append]
      refine ⟨h4, by simp, fun x hx y hy => ?_⟩
      rw [List.mem_singleton.mp hy]
      have := (h5 x hx).2
      omega
    · intro z hz
      rcases List.mem_append.mp hz with hz | hz
      · have := h5 z hz
        omega
      · rw [List.mem_singleton.mp hz]
        omega
  · intro G' O' hI
    obtain ⟨w, l, q, d', rfl, rfl, hB, h3, h4, h5, h6, h7⟩ := hI
    rw [List.length_range] at h3 h7
    refine wpS_frz (i := 2) (j := 0) rfl rfl ?_
    walk_at "wr"
    walk_at "c1"
    refine ⟨0, _, _, _, rfl, ⟨_, _, _, ⟨rfl, rfl⟩, hB, by omega, fun ms d'' hB'' hp => ⟨[], _, rfl, ?_⟩⟩⟩
    walk_at "w"
    exact hk ms d'' hB'' (by rw [hp.length_eq]; omega) (hp.nodup_iff.mpr h4) fun z hz => by have := h5 z (hp.mem_iff.mp hz); omega
end
section
variable {K : PySem.W.Frag} {W : WX} {ds : List D} {O : Ow} {k : Kk} {x : Xk}
theorem Sm.perm {a b : List Int} (h : Sm a) (p : b.Perm a) : Sm b := ⟨by rw [p.length_eq]; exact h.1, fun z hz => h.2 z (p.mem_iff.mp hz)⟩
theorem mem_getD {a : List Int} {i : Nat} (h : i < a.length) : a.getD i 0 ∈ a := by
  rw [List.getD_eq_getElem?_getD, List.getElem?_eq_getElem h]
  exact List.getElem_mem h
theorem Sm.set {a : List Int} {i : Nat} {z : Int} (h : Sm a) (hz : -1000000 ≤ z ∧ z ≤ 1000000) : Sm (a.set i z) := ⟨by rw [List.length_set]; exact h.1, fun y hy => by
  rcases List.mem_or_eq_of_mem_set hy with hy | rfl
  · exact h.2 y hy
  · exact hz⟩
theorem Sm.exch {a : List Int} {i : Nat} (h : Sm a) (hi : i + 1 < a.length) : Sm (exch a i) := (h.set (h.2 _ (mem_getD hi))).set (h.2 _ (mem_getD (by omega)))
theorem w__law_second (h : sp__law_second K ds O k x) (lo : ∀ p ∈ O, p.loc = false) : wpS K W (fun e _ O' => x e O') (t__law_second K W) (startD N__law_second.length ds) O { nx := fun _ O' => k .non O', rt := k } := by
  obtain ⟨a, d, ns, ⟨rfl, rfl⟩, hB, hs, hk⟩ := h
  have hl := hs.1
  unfold t__law_second
  walk_at "start"
  walk_at "w"
  walk_at "c1"
  refine ⟨0, _, _, _, rfl, ⟨_, _, _, ⟨rfl, rfl⟩, hB, by omega, by omega, fun v d' v0 v1 hB' => ⟨[], _, rfl, ?_⟩⟩⟩
  walk_at "w"
  refine ⟨fun h => ?_, fun h => ?_⟩
  · walk_at "wr"
    walk_at "c1"
    refine ⟨0, _, _, _, rfl, ⟨_, _, _, ⟨rfl, rfl⟩, hB', by omega, fun ms d'' hB'' hp => ⟨[], _, rfl, ?_⟩⟩⟩
    walk_at "w"
    exact hk ms d'' hB'' (hs.perm hp)
  walk_at "w"
  refine wpC_list false seq_l ?_
  intro c hc
  walk_at "w"
  refine wpS_mid (fun G O => ∃ l, G = [some (.mut a), some (L ns), some (.int v), some (.mut c), none] ∧ O = [⟨c, true, L l⟩, ⟨a, false, d'⟩] ∧ Sm l) ?_ ?_
  · walk_at "w"
    refine ⟨fun h => ?_, fun h => ?_⟩
    · walk_at "w"
      refine ⟨⟨_, seq_m (i := 0) rfl⟩, wpM_reverseI (j := 0) rfl ?_⟩
      walk_at "w"
      exact ⟨_, rfl, rfl, hs.perm (List.reverse_perm ns)⟩
    · walk_at "w"
      exact ⟨_, rfl, rfl, hs⟩
  intro G O h
  obtain ⟨l, rfl, rfl, hsl⟩ := h
  -- told from here on as it stands
  refine wpS_frz (i := 3) (j := 0) rfl rfl ?_
  walk_at "w"
  refine wpS_mid (fun G O => ∃ l q d'', G = [some (.mut a), some (L ns), some (.int v), some (L l), q] ∧ O = [⟨a, false, d''⟩] ∧ Bx d'' ∧ Sm l) ?_ ?_
  · refine wpS_ite (decide (v = 2) && decide (1 < (l.length : Int))) ?_ (fun h => ?_) fun h => ?_
    · refine wpT_and ?_
      walk_at "w"
      refine ⟨fun h => ?_, fun h => ⟨by simp [h], rfl⟩⟩
      walk_at "w"
      exact ⟨by simp [h], rfl⟩
    · obtain ⟨hv, hll⟩ := Bool.and_eq_true_iff.mp h
      have hll := of_decide_eq_true hll
      have n1 : 1 < l.length := by omega
      refine wpS_forE (α := Nat) ?_
      walk_at "w"
      walk_at "c1"
      refine ⟨0, _, _, _, rfl, ⟨_, _, _, ⟨rfl, rfl⟩, hB', by omega, by omega, fun u e u0 u1 hBe => ⟨[], _, rfl, ?_⟩⟩⟩
      walk_at "w"
      refine ⟨⟨by omega, by omega⟩, List.range u.toNat, fun i => .int (0 + (i : Int)), fun i G O => ∃ m q e, G = [some (.mut a), some (L ns), some (.int v), some (L m), q] ∧ O = [⟨a, false, e⟩] ∧ Bx e ∧ Sm m ∧ m.length = l.length, rfl, ⟨_, _, _, rfl, rfl, hBe, hsl, rfl⟩, fun _ _ _ _ _ => trivial, ?_, ?_⟩
      · intro i j G O hij hI
        obtain ⟨m, q, e, rfl, rfl, hBe, hm, hml⟩ := hI
        have hm16 := hm.1
        walk_at "w"
        walk_at "c0"
        walk_at "c1"
        refine ⟨0, _, _, _, rfl, ⟨_, _, _, ⟨rfl, rfl⟩, hBe, by omega, by omega, fun y e' y0 y1 hBe' => ⟨[], _, rfl, ?_⟩⟩⟩
        walk_at "w"
        refine ⟨_, _, ⟨rfl, rfl⟩, y0, by omega, ?_⟩
        walk_at "w"
        exact ⟨_, _, _, rfl, rfl, hBe', hm.exch (by omega), by simp [exch, hml]⟩
      · intro G O hI
        obtain ⟨m, q, e, rfl, rfl, hBe, hm, hml⟩ := hI
        walk_at "w"
        exact ⟨_, _, _, rfl, rfl, hBe, hm⟩
    · walk_at "w"
      exact ⟨_, _, _, rfl, rfl, hB', hsl⟩
  · intro G O h
    obtain ⟨l, q, d'', rfl, rfl, hB'', hsl⟩ := h
    walk_at "wr"
    exact hk l d'' hB'' hsl
end
section
variable {K : PySem.W.Frag} {W : WX} {ds : List D} {O : Ow} {k : Kk} {x : Xk}
theorem w__law_widened (h : sp__law_widened K ds O k x) (lo : ∀ p ∈ O, p.loc = false) : wpS K W (fun e _ O' => x e O') (t__law_widened K W) (startD N__law_widened.length ds) O { nx := fun _ O' => k .non O', rt := k } := by
  obtain ⟨a, d, ns, ⟨rfl, rfl⟩, hB, hl, hn, hb, hk⟩ := h
  unfold t__law_widened
  walk_at "start"
  walk_at "w"
  refine wpC_list false seq_l ?_
  intro c hc
  walk_at "w"
  walk_at "c1"
  refine ⟨1, _, _, _, rfl, ⟨_, _, _, ⟨rfl, rfl⟩, hB, by omega, by omega, fun v d' v0 v1 hB' => ⟨[], _, rfl, ?_⟩⟩⟩
  walk_at "w"
  walk_at "c1"
  refine ⟨1, _, _, _, rfl, ⟨_, _, _, ⟨rfl, rfl⟩, hB', by omega, by omega, fun p d' p0 p1 hB' => ⟨[], _, rfl, ?_⟩⟩⟩
  walk_at "w"
  have step : ∀ {l : List Int} {z : Int}, (l.length = ns.length ∧ ∀ z ∈ l, 0 ≤ z ∧ z ≤ 9999) → 0 ≤ z ∧ z ≤ 9999 → ((l.set p.toNat z).length = ns.length ∧ ∀ y ∈ l.set p.toNat z, 0 ≤ y ∧ y ≤ 9999) := fun h hz => ⟨by rw [List.length_set]; exact h.1, fun y hy => by
    rcases List.mem_or_eq_of_mem_set hy with hy | rfl
    · exact h.2 y hy
    · exact hz⟩
  refine wpS_mid (fun G O => ∃ l, G = [some (.mut a), some (L ns), some (.mut c), some (.int v), some (.int p)] ∧ O = [⟨c, true, L l⟩, ⟨a, false, d'⟩] ∧ (l.length = ns.length ∧ ∀ z ∈ l, 0 ≤ z ∧ z ≤ 9999)) ?_ ?_
  · refine wpS_ite (decide (p < (ns.length : Int)) && decide (v = 0)) ?_ (fun h => ?_) fun h => ?_
    · refine wpT_and ?_
      walk_at "w"
      refine ⟨fun h => ?_, fun h => ⟨by simp [h], rfl⟩⟩
      walk_at "w"
      exact ⟨by simp [h], rfl⟩
    · have hp := of_decide_eq_true (Bool.and_eq_true_iff.mp h).1
      walk_at "w"
      exact ⟨_, rfl, rfl, step ⟨rfl, fun z hz => by have := hb z hz; omega⟩ (by omega)⟩
    · walk_at "w"
      exact ⟨_, rfl, rfl, rfl, fun z hz => by have := hb z hz; omega⟩
  intro G O h
  obtain ⟨l, rfl, rfl, h1⟩ := h
  refine wpS_mid (fun G O => ∃ l, G = [some (.mut a), some (L ns), some (.mut c), some (.int v), some (.int p)] ∧ O = [⟨c, true, L l⟩, ⟨a, false, d'⟩] ∧ (l.length = ns.length ∧ ∀ z ∈ l, 0 ≤ z ∧ z ≤ 9999)) ?_ ?_
  · refine wpS_ite (decide (p < (l.length : Int)) && (decide (v = 1) && !decide (0 ∈ l))) ?_ (fun h => ?_) fun h => ?_
    · refine wpT_and ?_
      walk_at "w"
      refine ⟨fun h => ?_, fun h => ⟨by simp [h], rfl⟩⟩
      refine wpT_and ?_
      walk_at "w"
      refine ⟨fun h2 => ?_, fun h2 => ⟨by simp [h2], rfl⟩⟩
      walk_at "w"
      refine wpR_inI (.inl (seq_m (i := 0) rfl)) ?_
      walk_at "w"
      exact ⟨by simp [h, h2], rfl⟩
    · have hp := of_decide_eq_true (Bool.and_eq_true_iff.mp h).1
      walk_at "w"
      exact ⟨_, rfl, rfl, step h1 (by omega)⟩
    · walk_at "w"
      exact ⟨_, rfl, rfl, h1⟩
  intro G O h
  obtain ⟨l, rfl, rfl, h1⟩ := h
  refine wpS_frz (i := 2) (j := 0) rfl rfl ?_
  walk_at "wr"
  exact hk l d' hB' h1.1 h1.2
theorem ap_D (l m : List Int) : l.map D.int ++ m.map D.int = (l ++ m).map D.int := by rw [List.map_append]
theorem w__law_bent (h : sp__law_bent K ds O k x) (lo : ∀ p ∈ O, p.loc = false) : wpS K W (fun e _ O' => x e O') (t__law_bent K W) (startD N__law_bent.length ds) O { nx := fun _ O' => k .non O', rt := k } := by
  obtain ⟨a, d, ns, ⟨rfl, rfl⟩, hB, hs, hk⟩ := h
  have hl := hs.1
  unfold t__law_bent
  walk_at "start"
  walk_at "w"
  refine wpC_list false seq_l ?_
  intro c hc
  walk_at "w"
  refine wpS_seq ?_
  refine wpS_forE (α := Nat) ?_
  walk_at "w"
  walk_at "c1"
  refine ⟨1, _, _, _, rfl, ⟨_, _, _, ⟨rfl, rfl⟩, hB, by omega, by omega, fun u e u0 u1 hBe => ⟨[], _, rfl, ?_⟩⟩⟩
  walk_at "w"
  refine ⟨⟨by omega, by omega⟩, List.range u.toNat, fun i => .int (0 + (i : Int)), fun i G O => ∃ c l e q3 q4 q5 q6 q7, G = [some (.mut a), some (L ns), some (.mut c), q3, q4, q5, q6, q7] ∧ O = [⟨c, true, L l⟩, ⟨a, false, e⟩] ∧ Bx e ∧ Sm l, rfl, ⟨_, _, _, _, _, _, _, _, rfl, rfl, hBe, hs⟩, fun _ _ _ _ _ => trivial, ?_, ?_⟩
  · intro i j G O hij hI
    obtain ⟨c, l, e, q3, q4, q5, q6, q7, rfl, rfl, hBe, hsl⟩ := hI
    have hl := hsl.1
    walk_at "w"
    walk_at "c1"
    refine ⟨1, _, _, _, rfl, ⟨_, _, _, ⟨rfl, rfl⟩, hBe, by omega, by omega, fun v d' v0 v1 hB' => ⟨[], _, rfl, ?_⟩⟩⟩
    walk_at "w"
    walk_at "c1"
    refine ⟨1, _, _, _, rfl, ⟨_, _, _, ⟨rfl, rfl⟩, hB', by omega, by omega, fun p d' p0 p1 hB' => ⟨[], _, rfl, ?_⟩⟩⟩
    walk_at "w"
    -- the shape between the ifs
    obtain ⟨M, hM⟩ : ∃ M : Gm → Ow → Prop, M = fun G O => ∃ O1, O1.Sublist O ∧ ∃ c l e q3 q6 q7, G = [some (.mut a), some (L ns), some (.mut c), q3, some (.int v), some (.int p), q6, q7] ∧ O1 = [⟨c, true, L l⟩, ⟨a, false, e⟩] ∧ Bx e ∧ Sm l := ⟨_, rfl⟩
    have mk : ∀ {c : Addr} {l : List Int} {e : D} {q3 q6 q7 : Option D}, Bx e → Sm l → M [some (.mut a), some (L ns), some (.mut c), q3, some (.int v), some (.int p), q6, q7] [⟨c, true, L l⟩, ⟨a, false, e⟩] := fun h1 h2 => by
      rw [hM]
      exact ⟨_, List.Sublist.refl _, _, _, _, _, _, _, rfl, rfl, h1, h2⟩
    have en : ∀ {t : TS} {E : EnD}, (∀ c l e q3 q6 q7, Bx e → Sm l → wpS K W (fun e _ O' => x e O') t [some (.mut a), some (L ns), some (.mut c), q3, some (.int v), some (.int p), q6, q7] [⟨c, true, L l⟩, ⟨a, false, e⟩] E) → ∀ G O, M G O → wpS K W (fun e _ O' => x e O') t G O E := fun h G O hm => by
      rw [hM] at hm
      obtain ⟨O1, hO, c, l, e, q3, q6, q7, rfl, rfl, h1, h2⟩ := hm
      exact wpS_subO hO (h c l e q3 q6 q7 h1 h2)
    refine wpS_mid M ?_ (en fun c l e q3 q6 q7 hBe hsl => ?_)
    · refine wpS_ite (decide (v = 0) && decide ((l.length : Int) < 16)) ?_ (fun h => ?_) fun h => ?_
      · refine wpT_and ?_
        walk_at "w"
        refine ⟨fun h => ?_, fun h => ⟨by simp [h], rfl⟩⟩
        walk_at "w"
        exact ⟨by simp [h], rfl⟩
      · have h16 := of_decide_eq_true (Bool.and_eq_true_iff.mp h).2
        walk_at "w"
        refine ⟨⟨_, seq_m (i := 0) rfl⟩, ?_⟩
        walk_at "w"
        refine wpM_insertI (j := 0) rfl (by omega) p0 (by omega) ?_
        walk_at "w"
        refine mk hB' ⟨by simp; omega, fun z hz => ?_⟩
        rcases List.mem_append.mp hz with hz | hz
        · rcases List.mem_append.mp hz with hz | hz
          · exact hsl.2 z (List.mem_of_mem_take hz)
          · rw [List.mem_singleton.mp hz]
            omega
        · exact hsl.2 z (List.mem_of_mem_drop hz)
      · walk_at "w"
        exact mk hB' hsl
    have hl := hsl.1
    refine wpS_mid M ?_ (en fun c l e q3 q6 q7 hBe hsl => ?_)
    · refine wpS_ite (decide (v = 1) && decide ((l.length : Int) ≤ 12)) ?_ (fun h => ?_) fun h => ?_
      · refine wpT_and ?_
        walk_at "w"
        refine ⟨fun h => ?_, fun h => ⟨by simp [h], rfl⟩⟩
        walk_at "w"
        exact ⟨by simp [h], rfl⟩
      · have h12 := of_decide_eq_true (Bool.and_eq_true_iff.mp h).2
        walk_at "w"
        walk_at "c1"
        refine ⟨1, _, _, _, rfl, ⟨_, _, _, ⟨rfl, rfl⟩, hBe, by omega, by omega, fun y d' y0 y1 hB' => ⟨[], _, rfl, ?_⟩⟩⟩
        walk_at "w"
        refine wpE_lcA true (List.range (13 - (l.length : Int) + y).toNat) (fun i => .int (0 + (i : Int))) (fun i => some (.int (8000 + (0 + (i : Int))))) (gIn_name (by decide)) gMono_name ?_
        walk_at "w"
        refine ⟨⟨by omega, by omega⟩, rfl, small1000 (by simp; omega), trivial, fun i z hz => ?_, ?_⟩
        · walk_at "w"
          refine ⟨rfl, wpT_yes ⟨rfl, fun _ => ?_, fun h => (by cases h)⟩⟩
          walk_at "w"
          exact ⟨rfl, rfl⟩
        · walk_at "w"
          have e1 : (List.range (13 - (l.length : Int) + y).toNat).filterMap (fun (i : Nat) => some (D.int (8000 + (0 + (i : Int))))) = ((List.range (13 - (l.length : Int) + y).toNat).map fun (i : Nat) => 8000 + (0 + (i : Int))).map D.int := by
            rw [List.filterMap_eq_map', List.map_map] <;> rfl
          rw [e1]
          refine wpR_addL false (lst_m (i := 0) rfl) lst_l (Nat.le_of_lt (small1000 (by simp; omega))) ?_
          intro c' hc'
          rw [ap_D]
          walk_at "w"
          have hS : Sm (l ++ (List.range (13 - (l.length : Int) + y).toNat).map fun (i : Nat) => 8000 + (0 + (i : Int))) := by
            refine ⟨by simp; omega, fun z hz => ?_⟩
            rcases List.mem_append.mp hz with hz | hz
            · exact hsl.2 z hz
            · obtain ⟨i, hi, rfl⟩ := List.mem_map.mp hz
              have := List.mem_range.mp hi
              omega
          rw [hM]
          exact ⟨_, .cons₂ _ (.cons _ (.refl _)), _, _, _, _, _, _, rfl, rfl, hB', hS⟩
      · walk_at "w"
        exact mk hBe hsl
    have hl := hsl.1
    refine wpS_mid M ?_ (en fun c l e q3 q6 q7 hBe hsl => ?_)
    · refine wpS_ite (decide (v = 2) && decide (p < (l.length : Int))) ?_ (fun h => ?_) fun h => ?_
      · refine wpT_and ?_
        walk_at "w"
        refine ⟨fun h => ?_, fun h => ⟨by simp [h], rfl⟩⟩
        walk_at "w"
        exact ⟨by simp [h], rfl⟩
      · have hp := of_decide_eq_true (Bool.and_eq_true_iff.mp h).2
        walk_at "w"
        walk_at "c1"
        refine ⟨1, _, _, _, rfl, ⟨_, _, _, ⟨rfl, rfl⟩, hBe, by omega, by omega, fun y d' y0 y1 hB' => ⟨[], _, rfl, ?_⟩⟩⟩
        walk_at "w"
        exact mk hB' (hsl.set (by omega))
      · walk_at "w"
        exact mk hBe hsl
    have hl := hsl.1
    refine wpS_mid M ?_ (en fun c l e q3 q6 q7 hBe hsl => ?_)
    · refine wpS_ite (decide (v = 3) && decide (p < (l.length : Int))) ?_ (fun h => ?_) fun h => ?_
      · refine wpT_and ?_
        walk_at "w"
        refine ⟨fun h => ?_, fun h => ⟨by simp [h], rfl⟩⟩
        walk_at "w"
        exact ⟨by simp [h], rfl⟩
      · have hp := of_decide_eq_true (Bool.and_eq_true_iff.mp h).2
        walk_at "w"
        walk_at "c1"
        refine ⟨1, _, _, _, rfl, ⟨_, _, _, ⟨rfl, rfl⟩, hBe, by omega, by omega, fun y d' y0 y1 hB' => ⟨[], _, rfl, ?_⟩⟩⟩
        walk_at "w"
        exact mk hB' (hsl.set (by omega))
      · walk_at "w"
        exact mk hBe hsl
    have hl := hsl.1
    refine wpS_mid M ?_ (en fun c l e q3 q6 q7 hBe hsl => ?_)
    · refine wpS_ite (decide (v = 4) && decide (p < (l.length : Int))) ?_ (fun h => ?_) fun h => ?_
      · refine wpT_and ?_
        walk_at "w"
        refine ⟨fun h => ?_, fun h => ⟨by simp [h], rfl⟩⟩
        walk_at "w"
        exact ⟨by simp [h], rfl⟩
      · have hp := of_decide_eq_true (Bool.and_eq_true_iff.mp h).2
        walk_at "w"
        refine wpE_lst true ?_
        walk_at "w"
        refine ⟨by show 4 ≤ sizeLine; decide, ?_⟩
        walk_at "w"
        walk_at "c1"
        refine ⟨1, _, _, _, rfl, ⟨_, _, _, ⟨rfl, rfl⟩, hBe, by omega, by omega, fun y d' y0 y1 hB' => ⟨[], _, rfl, ?_⟩⟩⟩
        walk_at "w"
        have hy : y = 0 ∨ y = 1 ∨ y = 2 ∨ y = 3 := by omega
        rcases hy with rfl | rfl | rfl | rfl
        · walk_at "w"
          exact mk hB' (hsl.set (by omega))
        · walk_at "w"
          exact mk hB' (hsl.set (by omega))
        · walk_at "w"
          exact mk hB' (hsl.set (by omega))
        · walk_at "w"
          exact mk hB' (hsl.set (by omega))
      · walk_at "w"
        exact mk hBe hsl
    have hl := hsl.1
    refine wpS_mid M ?_ (en fun c l e q3 q6 q7 hBe hsl => ?_)
    · refine wpS_ite (decide (v = 5) && decide (p < (l.length : Int))) ?_ (fun h => ?_) fun h => ?_
      · refine wpT_and ?_
        walk_at "w"
        refine ⟨fun h => ?_, fun h => ⟨by simp [h], rfl⟩⟩
        walk_at "w"
        exact ⟨by simp [h], rfl⟩
      · have hp := of_decide_eq_true (Bool.and_eq_true_iff.mp h).2
        walk_at "w"
        walk_at "c1"
        refine ⟨1, _, _, _, rfl, ⟨_, _, _, ⟨rfl, rfl⟩, hBe, by omega, by omega, fun y d' y0 y1 hB' => ⟨[], _, rfl, ?_⟩⟩⟩
        walk_at "w"
        exact mk hB' (hsl.set (hsl.2 _ (mem_getD (by omega))))
      · walk_at "w"
        exact mk hBe hsl
    have hl := hsl.1
    · refine wpS_ite (decide (v = 6) && decide (p < (l.length : Int))) ?_ (fun h => ?_) fun h => ?_
      · refine wpT_and ?_
        walk_at "w"
        refine ⟨fun h => ?_, fun h => ⟨by simp [h], rfl⟩⟩
        walk_at "w"
        exact ⟨by simp [h], rfl⟩
      · have hp := of_decide_eq_true (Bool.and_eq_true_iff.mp h).2
        walk_at "w"
        refine ⟨⟨_, seq_m (i := 0) rfl⟩, ?_⟩
        walk_at "w"
        refine wpM_popAtI (j := 0) rfl p0 hp (by omega) ?_
        walk_at "w"
        exact ⟨_, _, _, _, _, _, _, _, rfl, rfl, hBe, ⟨by rw [List.length_eraseIdx]; split <;> omega, fun z hz => hsl.2 z (List.mem_of_mem_eraseIdx hz)⟩⟩
      · walk_at "w"
        exact ⟨_, _, _, _, _, _, _, _, rfl, rfl, hBe, hsl⟩
  · intro G O hI
    obtain ⟨c, l, e, q3, q4, q5, q6, q7, rfl, rfl, hBe, hsl⟩ := hI
    refine wpS_frz (i := 2) (j := 0) rfl rfl ?_
    walk_at "wr"
    exact hk l e hBe hsl
end
theorem wrong_some {a : List Int} {p : Nat} (hp : p < a.length) (hb : bad a p = true) (h : ∀ j, j < p → bad a j = false) : wrong a = some p := by
  unfold wrong
  rw [List.find?_range_eq_some]
  exact ⟨hb, List.mem_range.mpr hp, fun j hj => by rw [h j hj]; rfl⟩
theorem wrong_none {a : List Int} (h : ∀ j, j < a.length → bad a j = false) : wrong a = none := by
  unfold wrong
  rw [List.find?_eq_none]
  intro j hj
  rw [h j (List.mem_range.mp hj)]
  decide
theorem wrong_not {a : List Int} (h : wrong a = none) : ∀ j, j < a.length → bad a j = false := fun j hj => by
  unfold wrong at h
  rw [List.find?_eq_none] at h
  have := h j (List.mem_range.mpr hj)
  simpa using this
theorem wrong_lt {a : List Int} {p : Nat} (h : wrong a = some p) : p < a.length := by
  unfold wrong at h
  exact List.mem_range.mp (List.mem_of_find?_eq_some h)
/-- keys seen, as the dict holds them -/
def seenD (l : List Int) : List (Key × D) := l.map fun z => ((Sum.inl z : Key), D.bl true)
theorem seen_val (l : List Int) (z : Int) : (valD (seenD l) (Sum.inl z)).isSome = decide (z ∈ l) := by
  unfold valD seenD
  induction l with
  | nil => rfl
  | cons y l ih =>
    rw [List.map_cons, List.find?_cons]
    by_cases h : y = z
    · subst h
      simp
    · have h1 : decide ((Sum.inl y : Key) = Sum.inl z) = false := decide_eq_false fun e => h (Sum.inl.inj e)
      rw [h1]
      dsimp only
      rw [ih]
      have : (z ∈ y :: l) ↔ z ∈ l := by
        rw [List.mem_cons]
        exact ⟨fun q => q.resolve_left fun e => h e.symm, .inr⟩
      simp only [this]
theorem seen_put {l : List Int} {z : Int} (h : z ∉ l) : putD (seenD l) (Sum.inl z) (.bl true) = seenD (l ++ [z]) := by
  unfold putD
  have : (seenD l).any (fun kv => decide (kv.1 = Sum.inl z)) = false := by
    rw [List.any_eq_false]
    intro kv hkv
    obtain ⟨y, hy, rfl⟩ := List.mem_map.mp hkv
    simp only [decide_eq_true_eq]
    intro e
    exact h (by rw [← Sum.inl.inj e]; exact hy)
  rw [this]
  unfold seenD
  rw [List.map_append] <;> rfl
theorem take_snoc {a : List Int} {i : Nat} {z : Int} (h : a[i]? = some z) : a.take (i + 1) = a.take i ++ [z] := by
  rw [List.take_succ, h] <;> rfl
theorem bad_parts {a : List Int} {i : Nat} {z : Int} (h : a[i]? = some z) : bad a i = (decide (12 ≤ i) || (decide (z < 0) || (decide (9999 < z) || decide (z ∈ a.take i)))) := by
  unfold bad
  rw [get_D h]
theorem min_some {l : List Int} {m : Int} (h1 : m ∈ l) (h2 : ∀ y, y ∈ l → m ≤ y) : l.min? = some m := by
  cases l with
  | nil => cases h1
  | cons a l =>
    have key : ∀ (l : List Int) (a : Int), (l.foldl min a ≤ a ∧ ∀ y ∈ l, l.foldl min a ≤ y) ∧ (l.foldl min a = a ∨ l.foldl min a ∈ l) := by
      intro l
      induction l with
      | nil => intro a; exact ⟨⟨Int.le_refl _, fun _ h => by cases h⟩, .inl rfl⟩
      | cons b l ih =>
        intro a
        obtain ⟨⟨i1, i2⟩, i3⟩ := ih (min a b)
        rw [List.foldl_cons]
        refine ⟨⟨by omega, fun y hy => ?_⟩, ?_⟩
        · rcases List.mem_cons.mp hy with rfl | hy
          · omega
          · exact i2 y hy
        · rcases i3 with i3 | i3
          · rw [i3]
            by_cases hab : a ≤ b
            · left; omega
            · right
              rw [show min a b = b by omega]
              exact List.mem_cons_self
          · exact .inr (List.mem_cons_of_mem _ i3)
    obtain ⟨⟨k1, k2⟩, k3⟩ := key l a
    show some (l.foldl min a) = some m
    have hm : l.foldl min a ∈ a :: l := by
      rcases k3 with k3 | k3
      · rw [k3]; exact List.mem_cons_self
      · exact List.mem_cons_of_mem _ k3
    have h3 := h2 _ hm
    have h4 : l.foldl min a ≤ m := by
      rcases List.mem_cons.mp h1 with rfl | h1
      · exact k1
      · exact k2 _ h1
    rw [show l.foldl min a = m by omega]
theorem fm_only (a b : List Int) : a.filterMap (fun z => if z ∈ b then none else some (D.int z)) = (only a b).map D.int := by
  unfold only
  induction a with
  | nil => rfl
  | cons z a ih =>
    rw [List.filterMap_cons, List.filter_cons]
    by_cases h : z ∈ b
    · simp only [h, if_true, decide_true, Bool.not_true]
      exact ih
    · simp only [h, if_false, decide_false, Bool.not_false, if_true, List.map_cons, ih]
theorem unl_nil {a b : List Int} (h : only a b ++ only b a = []) : unlK a b = none := by
  unfold unlK
  rw [h] <;> rfl
theorem unl_none {a b : List Int} (h : unlK a b = none) : only a b ++ only b a = [] := by
  unfold unlK at h
  cases e : only a b ++ only b a with
  | nil => rfl
  | cons c l => rw [e] at h; cases h
theorem only_nil {a b : List Int} (h : only a b = []) : ∀ z ∈ a, z ∈ b := fun z hz => by
  have := List.filter_eq_nil_iff.mp h z hz
  simpa using this
theorem only_sm {a b : List Int} (h : Sm a) : ∀ z ∈ only a b, -1000000 ≤ z ∧ z ≤ 1000000 := fun z hz => h.2 z (List.mem_filter.mp hz).1
theorem only_len {a b : List Int} : (only a b).length ≤ a.length := List.length_filter_le _ _
theorem wrong_nodup {a : List Int} (h : wrong a = none) : a.Nodup := by
  rw [List.nodup_iff_pairwise_ne] 
  rw [List.pairwise_iff_getElem]
  intro i j hi hj hij e
  have hb := wrong_not h j hj
  unfold bad at hb
  have hm : a.getD j 0 ∈ a.take j := by
    rw [List.getD_eq_getElem?_getD, List.getElem?_eq_getElem hj]
    show a[j] ∈ a.take j
    rw [← e]
    rw [List.mem_take_iff_getElem]
    exact ⟨i, by omega, rfl⟩
  rw [decide_eq_true hm] at hb
  simp at hb
theorem wrong_len {a : List Int} (h : wrong a = none) : a.length ≤ 12 := by
  refine Nat.le_of_not_lt fun hl => ?_
  have hb := wrong_not h 12 hl
  unfold bad at hb
  simp at hb
theorem same_perm {a b : List Int} (ha : wrong a = none) (hb : wrong b = none) (h : unlK a b = none) : a.Perm b := by
  have h1 := unl_none h
  obtain ⟨h2, h3⟩ := List.append_eq_nil_iff.mp h1
  exact (List.perm_ext_iff_of_nodup (wrong_nodup ha) (wrong_nodup hb)).mpr fun z => ⟨only_nil h2 z, only_nil h3 z⟩
section
variable {K : PySem.W.Frag} {W : WX} {ds : List D} {O : Ow} {k : Kk} {x : Xk}
theorem w_first_wrong_place (h : sp_first_wrong_place K ds O k x) (lo : ∀ p ∈ O, p.loc = false) : wpS K W (fun e _ O' => x e O') (t_first_wrong_place K W) (startD N_first_wrong_place.length ds) O { nx := fun _ O' => k .non O', rt := k } := by
  obtain ⟨a, ⟨rfl, rfl⟩, hs, hk⟩ := h
  have hl := hs.1
  unfold t_first_wrong_place
  walk_at "start"
  walk_at "w"
  intro s hs
  walk_at "w"
  refine wpS_seq ?_
  refine wpS_forE (α := Int × Nat) ?_
  walk_at "w"
  refine ⟨_, a.map D.int, rfl, seq_l, ?_⟩
  refine ⟨a.zipIdx, fun p => D.tup [.int (p.2 : Nat), .int p.1], fun i G O => ∃ q2 q3, G = [some (L a), some (.mut s), q2, q3] ∧ O = [⟨s, true, .dK (seenD (a.take i))⟩] ∧ ∀ j, j < i → bad a j = false, enumD_map _ _, ⟨none, none, rfl, rfl, fun j hj => absurd hj (Nat.not_lt_zero j)⟩, fun _ _ _ _ _ => seq_l, ?_, ?_⟩
  · rintro i ⟨z, i'⟩ G O hz hI
    obtain ⟨hz, e⟩ := zip_get hz
    dsimp only at hz e
    subst e
    obtain ⟨q2, q3, rfl, rfl, hb⟩ := hI
    have hi : i' < a.length := (List.getElem?_eq_some_iff.mp hz).1
    walk_at "w"
    refine wpS_ite (bad a i') ?_ (fun h => ?_) fun h => ?_
    · rw [bad_parts hz]
      refine wpT_or ?_
      walk_at "w"
      refine ⟨fun h => ⟨by rw [show decide (12 ≤ i') = true by simp at h ⊢; omega]; rfl, rfl⟩, fun h => ?_⟩
      rw [show decide (12 ≤ i') = false by simp at h ⊢; omega, Bool.false_or]
      refine wpT_or ?_
      walk_at "w"
      refine ⟨fun h => ⟨by rw [h]; rfl, rfl⟩, fun h => ?_⟩
      rw [h, Bool.false_or]
      refine wpT_or ?_
      walk_at "w"
      refine ⟨fun h => ⟨by rw [h]; rfl, rfl⟩, fun h => ?_⟩
      rw [h, Bool.false_or]
      walk_at "w"
      refine ⟨_, Sum.inl z, d_m (i := 0) rfl, rfl, ?_⟩
      walk_at "w"
      exact ⟨seen_val _ _, rfl⟩
    · refine wpS_subO (O' := []) (by simp) ?_
      walk_at "wr"
      rw [wrong_some hi h hb] at hk
      exact hk
    · walk_at "w"
      have hn : z ∉ a.take i' := fun hm => by
        rw [bad_parts hz, decide_eq_true hm] at h
        simp at h
      refine ⟨0, s, true, _, .inl z, rfl, rfl, rfl, small1000 (by simp [seenD]; omega), ?_⟩
      walk_at "w"
      refine ⟨_, _, rfl, by rw [seen_put hn, take_snoc hz], fun j hj => ?_⟩
      rcases Nat.lt_or_eq_of_le (Nat.le_of_lt_succ hj) with hj | rfl
      · exact hb j hj
      · exact h
  · intro G O hI
    obtain ⟨q2, q3, rfl, rfl, hb⟩ := hI
    rw [List.length_zipIdx] at hb
    refine wpS_subO (O' := []) (by simp) ?_
    walk_at "wr"
    rw [wrong_none hb] at hk
    exact hk
theorem fmt_small {z : Int} (h : -1000000 ≤ z ∧ z ≤ 1000000) (F : Hp) (v : V) (r : Rp K F (.int z) v) : fmtI v := by
  cases r
  refine ⟨z, rfl, ?_⟩
  have h1 : z.natAbs < 2 ^ 20 := by omega
  exact Nat.lt_of_lt_of_le (PySem.Flt.log2_lt_of (by decide) h1) (by decide)
theorem w_check_list (h : sp_check_list K ds O k x) (lo : ∀ p ∈ O, p.loc = false) : wpS K W (fun e _ O' => x e O') (t_check_list K W) (startD N_check_list.length ds) O { nx := fun _ O' => k .non O', rt := k } := by
  obtain ⟨a, ⟨rfl, rfl⟩, hs, h1, h2⟩ := h
  have hl := hs.1
  unfold t_check_list
  walk_at "start"
  walk_at "w"
  walk_at "c0"
  refine ⟨a, ⟨rfl, rfl⟩, hs, ?_⟩
  walk_at "w"
  unfold res1 at h1 h2
  cases e : wrong a with
  | none =>
    rw [e] at h1
    walk_at "w"
    refine ⟨fun h => (by cases h), fun _ => ?_⟩
    walk_at "w"
    exact h1 rfl
  | some p =>
    rw [e] at h2
    have hp := wrong_lt e
    walk_at "w"
    refine ⟨fun _ => ?_, fun h => (by cases h)⟩
    walk_at "w"
    exact ⟨fmt_small (by omega), h2 (by simp)⟩
end
section
variable {K : PySem.W.Frag} {W : WX} {ds : List D} {O : Ow} {k : Kk} {x : Xk}
theorem lc_only {G : Gm} {ex : Ek} {P : D → Ow → Prop} {i j s : Nat} {a b : List Int} (hl : a.length ≤ 16) (hi : G[i]? = some (some (L a))) (hj : ∀ z, ((wipeG G [s]).set s (some (D.int z)))[j]? = some (some (L b))) (hs : s < G.length) (p : P (L (only a b)) O) :
    wpE K W ex (tLc (iList K (tVar i)) (gName s) (tTest (tOp (rIn K true) (tVar s) (tVar j))) (tVar s) [s]) G O P := by
  refine wpE_lcA true a D.int (fun z => if z ∈ b then none else some (.int z)) (gIn_name (by simp)) gMono_name ?_
  refine wpI_list (wpE_var hi ?_)
  refine ⟨a.map D.int, seq_l, rfl, small1000 (by omega), seq_l, fun i z hz => ?_, ?_⟩
  · refine wpG_name ⟨rfl, ?_⟩
    have hv : ((wipeG G [s]).set s (some (D.int z)))[s]? = some (some (D.int z)) := List.getElem?_set_self (by simp [wipeG]; exact hs)
    refine wpT_test (wpE_op (wpE_var hv (wpE_var (hj z) (wpR_inI (.inl seq_l) ⟨_, rfl, rfl, fun h => ?_, fun h => ?_⟩))))
    · refine wpE_var hv ⟨?_, rfl⟩
      rw [if_neg]
      simpa using h
    · rw [if_pos]
      simpa using h
  · show P (.lst _) O
    rw [fm_only]
    exact p
theorem w_require_same (h : sp_require_same K ds O k x) (lo : ∀ p ∈ O, p.loc = false) : wpS K W (fun e _ O' => x e O') (t_require_same K W) (startD N_require_same.length ds) O { nx := fun _ O' => k .non O', rt := k } := by
  obtain ⟨a, b, ⟨rfl, rfl⟩, ha, hb, h1, h2⟩ := h
  have hal := ha.1
  have hbl := hb.1
  unfold t_require_same
  walk_at "start"
  walk_at "w"
  refine lc_only (by omega) rfl (fun _ => rfl) (by simp) ?_
  walk_at "w"
  refine lc_only (by omega) rfl (fun _ => rfl) (by simp) ?_
  walk_at "w"
  refine wpS_ite (!(only a b ++ only b a).isEmpty) ?_ (fun h => ?_) fun h => ?_
  · refine wpT_or ?_
    walk_at "w"
    refine ⟨_, .seq seq_l, fun h => ⟨?_, rfl⟩, fun h => ?_⟩
    · cases e : only a b with
      | nil => rw [e] at h; cases h
      | cons c l => rfl
    walk_at "w"
    refine ⟨_, .seq seq_l, ?_, rfl⟩
    cases e : only a b with
    | nil => simp
    | cons c l => rw [e] at h; cases h
  · have l1 := only_len (a := a) (b := b)
    have l2 := only_len (a := b) (b := a)
    walk_at "w"
    refine wpR_addL true lst_l lst_l (Nat.le_of_lt (small1000 (by simp; omega))) ?_
    walk_at "w"
    rw [← List.map_append]
    refine wpC_min seq_l ?_ fun m hm hy => ?_
    · cases e : only a b ++ only b a with
      | nil => rw [e] at h; cases h
      | cons c l => simp
    · have hmm : -1000000 ≤ m ∧ m ≤ 1000000 := by
        rcases List.mem_append.mp hm with hm | hm
        · exact only_sm ha m hm
        · exact only_sm hb m hm
      walk_at "w"
      exact ⟨fmt_small hmm, h2 m (min_some hm hy)⟩
  · walk_at "w"
    refine h1 (unl_nil ?_)
    simpa using h
theorem w__check_two (h : sp__check_two K ds O k x) (lo : ∀ p ∈ O, p.loc = false) : wpS K W (fun e _ O' => x e O') (t__check_two K W) (startD N__check_two.length ds) O { nx := fun _ O' => k .non O', rt := k } := by
  obtain ⟨a, b, ⟨rfl, rfl⟩, ha, hb, h1, h2⟩ := h
  unfold res2 at h1 h2
  unfold t__check_two
  walk_at "start"
  walk_at "w"
  walk_at "c0"
  refine ⟨a, ⟨rfl, rfl⟩, ha, fun e1 => ?_, fun e1 => ?_⟩
  · have e1 : wrong a = none := by
      unfold res1 at e1
      cases e : wrong a with
      | none => rfl
      | some p => rw [e] at e1; cases e1
    rw [e1] at h1 h2
    walk_at "w"
    walk_at "c0"
    refine ⟨b, ⟨rfl, rfl⟩, hb, fun e2 => ?_, fun e2 => ?_⟩
    · have e2 : wrong b = none := by
        unfold res1 at e2
        cases e : wrong b with
        | none => rfl
        | some p => rw [e] at e2; cases e2
      rw [e2] at h1 h2
      walk_at "w"
      walk_at "c0"
      refine ⟨a, b, ⟨rfl, rfl⟩, ha, hb, fun e3 => ?_, fun m e3 => ?_⟩
      · walk_at "w"
        rw [e3] at h1
        exact h1 rfl
      · rw [e3] at h2
        exact h2 (by simp)
    · unfold res1 at e2
      cases e : wrong b with
      | none => rw [e] at e2; exact absurd rfl e2
      | some p =>
        rw [e] at h2
        unfold res1
        rw [e]
        exact h2 (by simp)
  · unfold res1 at e1
    cases e : wrong a with
    | none => rw [e] at e1; exact absurd rfl e1
    | some p =>
      rw [e] at h2
      unfold res1
      rw [e]
      exact h2 (by simp)
theorem idx_put {l : List Int} {z : Int} (h : z ∉ l) : putD (idxD l) (Sum.inl z) (.int (l.length : Int)) = idxD (l ++ [z]) := by
  unfold putD
  have : (idxD l).any (fun kv => decide (kv.1 = Sum.inl z)) = false := by
    rw [List.any_eq_false]
    intro kv hkv
    obtain ⟨⟨y, i⟩, hy, rfl⟩ := List.mem_map.mp hkv
    simp only [decide_eq_true_eq]
    intro e
    exact h (by rw [← Sum.inl.inj e]; exact (List.mem_zipIdx hy).2.2 ▸ List.getElem_mem _)
  rw [this]
  unfold idxD
  rw [List.zipIdx_append, List.map_append]
  simp
theorem w_index_of (h : sp_index_of K ds O k x) (lo : ∀ p ∈ O, p.loc = false) : wpS K W (fun e _ O' => x e O') (t_index_of K W) (startD N_index_of.length ds) O { nx := fun _ O' => k .non O', rt := k } := by
  obtain ⟨a, ⟨rfl, rfl⟩, ha, hn, hk⟩ := h
  have hl := ha.1
  unfold t_index_of
  walk_at "start"
  walk_at "wr"
  refine wpE_dc true (gIn_tup2 (by simp) (by simp)) gMono_tup2 ?_
  walk_at "w"
  refine ⟨_, a.map D.int, rfl, seq_l, fun i acc O' => O' = [] ∧ acc = idxD (a.take i), ⟨rfl, rfl⟩, fun i acc O' hi hI => ⟨seq_l, ?_⟩, fun i q acc O' hq hI => ?_, fun acc O' hI => ?_⟩
  · rw [hI.2]
    exact small1000 (by simp [idxD]; omega)
  · obtain ⟨rfl, rfl⟩ := hI
    rw [enumD_map] at hq
    obtain ⟨⟨z, i'⟩, hz, rfl⟩ := map_get hq
    obtain ⟨hz, e⟩ := zip_get hz
    dsimp only at hz e
    subst e
    walk_at "w"
    refine wpT_yes ⟨fun _ => ?_, fun h => (by cases h)⟩
    walk_at "w"
    have hi : i' < a.length := (List.getElem?_eq_some_iff.mp hz).1
    have hnt : z ∉ a.take i' := fun hm => by
      obtain ⟨j, hj, e⟩ := List.mem_take_iff_getElem.mp hm
      have e2 : a[i'] = z := by
        rw [List.getElem?_eq_getElem hi] at hz
        exact Option.some.inj hz
      have := (List.getElem_inj hn).mp (e.trans e2.symm)
      omega
    refine ⟨Sum.inl z, rfl, rfl, ?_⟩
    have e := idx_put hnt
    rw [List.length_take, Nat.min_eq_left (Nat.le_of_lt hi)] at e
    rw [e, take_snoc hz]
  · obtain ⟨rfl, rfl⟩ := hI
    rw [enumD_map, List.length_map, List.length_zipIdx, List.take_length]
    exact hk
end
section
variable {K : PySem.W.Frag} {W : WX} {ds : List D} {O : Ow} {k : Kk} {x : Xk}
theorem res1_ok {a : List Int} (h : res1 a = .ok) : wrong a = none := by
  unfold res1 at h
  cases e : wrong a with
  | none => rfl
  | some p => rw [e] at h; cases h
theorem res1_no {a : List Int} (h : res1 a ≠ .ok) : ∃ p, wrong a = some p := by
  unfold res1 at h
  cases e : wrong a with
  | none => rw [e] at h; exact absurd rfl h
  | some p => exact ⟨p, rfl⟩
theorem w_swap_at (h : sp_swap_at K ds O k x) (lo : ∀ p ∈ O, p.loc = false) : wpS K W (fun e _ O' => x e O') (t_swap_at K W) (startD N_swap_at.length ds) O { nx := fun _ O' => k .non O', rt := k } := by
  obtain ⟨a, i, ⟨rfl, rfl⟩, ha, h1, h2⟩ := h
  unfold resS at h1 h2
  unfold t_swap_at
  walk_at "start"
  walk_at "w"
  walk_at "c0"
  refine ⟨a, ⟨rfl, rfl⟩, ha, fun e1 => ?_, fun e1 => ?_⟩
  · rw [res1_ok e1] at h1 h2
    dsimp only at h1 h2
    walk_at "w"
    refine wpS_ite (decide (i < 0 ∨ (a.length : Int) - 2 < i)) ?_ (fun h => ?_) fun h => ?_
    · refine wpT_or ?_
      walk_at "w"
      refine ⟨fun h => ⟨?_, rfl⟩, fun h => ?_⟩
      · exact (decide_eq_true (.inl (of_decide_eq_true h))).symm
      · walk_at "w"
        refine ⟨?_, rfl⟩
        have h := of_decide_eq_false h
        refine dec_iff ⟨.inr, fun q => q.resolve_left h⟩
    · have h := of_decide_eq_true h
      rw [if_pos h] at h2
      walk_at "w"
      exact ⟨fmt_small (by omega), h2 (by simp)⟩
    · have h := of_decide_eq_false h
      rw [if_neg h] at h1
      have i0 : 0 ≤ i := by omega
      have i1 : i + 1 < (a.length : Int) := by omega
      walk_at "w"
      refine wpC_list false seq_l ?_
      intro c hc
      walk_at "wr"
      have e : (i + 1).toNat = i.toNat + 1 := by omega
      rw [e]
      exact h1 rfl c
  · obtain ⟨p, e⟩ := res1_no e1
    rw [e] at h2
    unfold res1
    rw [e]
    exact h2 (by simp)
theorem cut_pre {ns : List Int} {n : Nat} (h : n ≤ ns.length) : cutD (ns.map D.int) none (some (n : Int)) = (ns.take n).map D.int := by
  unfold cutD
  rw [HT.sIx_nat, HT.sIx_none, List.length_map, Nat.min_eq_left h, List.drop_zero, Nat.sub_zero, List.map_take]
theorem w__law_wrong (h : sp__law_wrong K ds O k x) (lo : ∀ p ∈ O, p.loc = false) : wpS K W (fun e _ O' => x e O') (t__law_wrong K W) (startD N__law_wrong.length ds) O { nx := fun _ O' => k .non O', rt := k } := by
  obtain ⟨a, ⟨rfl, rfl⟩, ha, hk⟩ := h
  have hl := ha.1
  unfold t__law_wrong
  walk_at "start"
  refine wpS_seq ?_
  refine wpS_forA (List.range a.length) (fun i => .int (0 + (i : Int))) (fun i G O => ∃ q, G = [some (L a), q] ∧ O = [] ∧ ∀ j, j < i → bad a j = false) ?_
  walk_at "w"
  refine ⟨⟨by omega, by omega⟩, by rw [Int.toNat_natCast]; rfl, ⟨none, rfl, rfl, fun j hj => absurd hj (Nat.not_lt_zero j)⟩, fun _ _ _ _ _ => trivial, ?_, ?_⟩
  · intro i j G O hij hI
    obtain ⟨rfl, hi⟩ := range_get hij
    obtain ⟨q, rfl, rfl, hb⟩ := hI
    obtain ⟨z, hz⟩ : ∃ z, a[j]? = some z := ⟨a[j], List.getElem?_eq_getElem hi⟩
    have ez : a.getD (0 + (j : Int)).toNat 0 = z := by rw [show (0 + (j : Int)).toNat = j by omega, get_D hz]
    walk_at "w"
    refine wpS_ite (bad a j) ?_ (fun h => ?_) fun h => ?_
    · rw [bad_parts hz]
      refine wpT_or ?_
      walk_at "w"
      refine ⟨fun h => ⟨by rw [show decide (12 ≤ j) = true by simp at h ⊢; omega]; rfl, rfl⟩, fun h => ?_⟩
      rw [show decide (12 ≤ j) = false by simp at h ⊢; omega, Bool.false_or]
      refine wpT_or ?_
      walk_at "w"
      rw [ez]
      refine ⟨fun h => ⟨by rw [h]; rfl, rfl⟩, fun h => ?_⟩
      rw [h, Bool.false_or]
      refine wpT_or ?_
      walk_at "w"
      rw [ez]
      refine ⟨fun h => ⟨by rw [h]; rfl, rfl⟩, fun h => ?_⟩
      rw [h, Bool.false_or]
      walk_at "w"
      rw [ez]
      refine wpE_slL true ?_
      walk_at "w"
      refine ⟨a.map D.int, seq_l, ?_⟩
      rw [show some (0 + (j : Int)) = some (j : Int) by simp, cut_pre (by omega)]
      walk_at "w"
      refine wpR_inI (.inl seq_l) ?_
      walk_at "w"
      exact ⟨rfl, rfl⟩
    · walk_at "wr"
      rw [wrong_some hi h hb] at hk
      rw [show (0 + (j : Int)) = (j : Int) by omega]
      exact hk
    · walk_at "w"
      refine ⟨rfl, fun m hm => ?_⟩
      rcases Nat.lt_or_eq_of_le (Nat.le_of_lt_succ hm) with hm | rfl
      · exact hb m hm
      · exact h
  · intro G O hI
    obtain ⟨q, rfl, rfl, hb⟩ := hI
    rw [List.length_range] at hb
    walk_at "wr"
    rw [wrong_none hb] at hk
    exact hk
theorem w__law_unlike (h : sp__law_unlike K ds O k x) (lo : ∀ p ∈ O, p.loc = false) : wpS K W (fun e _ O' => x e O') (t__law_unlike K W) (startD N__law_unlike.length ds) O { nx := fun _ O' => k .non O', rt := k } := by
  obtain ⟨a, b, ⟨rfl, rfl⟩, ha, hb, hk⟩ := h
  have hal := ha.1
  have hbl := hb.1
  unfold t__law_unlike
  walk_at "start"
  walk_at "w"
  refine lc_only (by omega) rfl (fun _ => rfl) (by simp) ?_
  walk_at "w"
  refine lc_only (by omega) rfl (fun _ => rfl) (by simp) ?_
  have l1 := only_len (a := a) (b := b)
  have l2 := only_len (a := b) (b := a)
  walk_at "w"
  refine wpR_addL true lst_l lst_l (Nat.le_of_lt (small1000 (by simp; omega))) ?_
  walk_at "w"
  rw [← List.map_append]
  refine ⟨_, .seq seq_l, fun h => ?_, fun h => ?_⟩
  · walk_at "wr"
    refine wpR_addL true lst_l lst_l (Nat.le_of_lt (small1000 (by simp; omega))) ?_
    walk_at "w"
    rw [← List.map_append]
    refine wpC_min seq_l ?_ fun m hm hy => ?_
    · cases e : only a b ++ only b a with
      | nil => rw [e] at h; cases h
      | cons c l => simp
    · rw [show unlK a b = some m from min_some hm hy] at hk
      exact hk
  · walk_at "wr"
    rw [unl_nil (by simpa using h)] at hk
    exact hk
theorem w__law_due (h : sp__law_due K ds O k x) (lo : ∀ p ∈ O, p.loc = false) : wpS K W (fun e _ O' => x e O') (t__law_due K W) (startD N__law_due.length ds) O { nx := fun _ O' => k .non O', rt := k } := by
  obtain ⟨w, a, b, i, ⟨rfl, rfl⟩, w0, w1, ha, hb, hk⟩ := h
  unfold resW res1 resS res2 at hk
  unfold t__law_due
  walk_at "start"
  walk_at "w"
  walk_at "c0"
  refine ⟨a, ⟨rfl, rfl⟩, ha, ?_⟩
  walk_at "w"
  cases ea : wrong a with
  | some p =>
    rw [ea] at hk
    walk_at "w"
    refine ⟨fun _ => ?_, fun h => (by cases h)⟩
    walk_at "wr"
    refine ⟨by show 2 ≤ sizeLine; decide, ?_⟩
    have e2 : (if w = 0 then Rs.bad p else if w = 1 then Rs.bad p else Rs.bad p) = Rs.bad p := by split; rfl; split <;> rfl
    dsimp only at hk
    rw [e2] at hk
    exact hk
  | none =>
    rw [ea] at hk
    dsimp only at hk
    walk_at "w"
    refine ⟨fun h => (by cases h), fun _ => ?_⟩
    walk_at "w"
    refine wpS_ite (decide (w = 1) && decide (i < 0 ∨ (a.length : Int) - 2 < i)) ?_ (fun h => ?_) fun h => ?_
    · refine wpT_and ?_
      walk_at "w"
      refine ⟨fun h => ?_, fun h => ⟨by simp [h], rfl⟩⟩
      rw [h, Bool.true_and]
      refine wpT_or ?_
      walk_at "w"
      refine ⟨fun h => ⟨(decide_eq_true (.inl (of_decide_eq_true h))).symm, rfl⟩, fun h => ?_⟩
      walk_at "w"
      refine ⟨?_, rfl⟩
      have h := of_decide_eq_false h
      refine dec_iff ⟨.inr, fun q => q.resolve_left h⟩
    · obtain ⟨h1, h2⟩ := Bool.and_eq_true_iff.mp h
      have h1 := of_decide_eq_true h1
      have h2 := of_decide_eq_true h2
      subst h1
      rw [if_neg (by decide), if_pos rfl, if_pos h2] at hk
      walk_at "wr"
      exact ⟨by show 2 ≤ sizeLine; decide, hk⟩
    · have hS : w = 1 → ¬ (i < 0 ∨ (a.length : Int) - 2 < i) := fun e q => by
        rw [decide_eq_true e, decide_eq_true q] at h
        cases h
      walk_at "w"
      refine ⟨fun h2 => ?_, fun h2 => ?_⟩
      · have h2 := of_decide_eq_true h2
        walk_at "wr"
        refine ⟨by show 2 ≤ sizeLine; decide, ?_⟩
        have hw : w = 0 ∨ w = 1 := by omega
        rcases hw with rfl | rfl
        · rw [if_pos rfl] at hk
          exact hk
        · rw [if_neg (by decide), if_pos rfl, if_neg (hS rfl)] at hk
          exact hk
      · have h2 := of_decide_eq_false h2
        rw [if_neg (by omega), if_neg (by omega)] at hk
        walk_at "w"
        walk_at "c0"
        refine ⟨b, ⟨rfl, rfl⟩, hb, ?_⟩
        walk_at "w"
        cases eb : wrong b with
        | some p =>
          rw [eb] at hk
          walk_at "w"
          refine ⟨fun _ => ?_, fun h => (by cases h)⟩
          walk_at "wr"
          exact ⟨by show 2 ≤ sizeLine; decide, hk⟩
        | none =>
          rw [eb] at hk
          walk_at "w"
          refine ⟨fun h => (by cases h), fun _ => ?_⟩
          walk_at "w"
          walk_at "c0"
          refine ⟨a, b, ⟨rfl, rfl⟩, ha, hb, ?_⟩
          walk_at "w"
          cases eu : unlK a b with
          | some m =>
            rw [eu] at hk
            walk_at "w"
            refine ⟨fun _ => ?_, fun h => (by cases h)⟩
            walk_at "wr"
            exact ⟨by show 2 ≤ sizeLine; decide, hk⟩
          | none =>
            rw [eu] at hk
            walk_at "w"
            refine ⟨fun h => (by cases h), fun _ => ?_⟩
            walk_at "wr"
            exact ⟨by show 2 ≤ sizeLine; decide, hk⟩
theorem w__law_tuples (h : sp__law_tuples K ds O k x) (lo : ∀ p ∈ O, p.loc = false) : wpS K W (fun e _ O' => x e O') (t__law_tuples K W) (startD N__law_tuples.length ds) O { nx := fun _ O' => k .non O', rt := k } := by
  obtain ⟨ps, ⟨rfl, rfl⟩, hl, hk⟩ := h
  unfold t__law_tuples
  walk_at "start"
  refine wpS_seq ?_
  refine wpS_ite false ?_ (fun h => (by cases h)) fun _ => ?_
  · refine wpT_or ?_
    walk_at "w"
    refine wpC_isi (.lst _) (b := true) (by decide +kernel) ?_
    walk_at "w"
    refine ⟨fun h => (by cases h), fun _ => ?_⟩
    walk_at "w"
    exact ⟨by simp, rfl⟩
  · walk_at "wr"
    refine wpE_lcA true (List.range ps.length) (fun i => .int (0 + (i : Int))) (fun _ => some (.bl true)) (gIn_name (by decide)) gMono_name ?_
    walk_at "w"
    rw [List.length_map]
    refine ⟨⟨by omega, by omega⟩, by rw [Int.toNat_natCast]; rfl, by rw [List.length_range]; exact small1000 hl, trivial, fun i j hij => ?_, ?_⟩
    · obtain ⟨rfl, hi⟩ := range_get hij
      walk_at "w"
      refine ⟨rfl, wpT_yes ⟨rfl, fun _ => ?_, fun h => (by cases h)⟩⟩
      walk_at "w"
      have hx : atI (ps.map PyD.prD) (0 + (j : Int)) = some (PyD.prD ps[j]) := by
        refine atI_nn (by omega) ?_
        rw [show (0 + (j : Int)).toNat = j by omega, List.getElem?_map, List.getElem?_eq_getElem hi] <;> rfl
      refine wpR_ixA (.inl seq_l) hx ?_
      walk_at "w"
      refine wpR_ixA (.inl seq_l) hx ?_
      walk_at "w"
      exact ⟨ps[j], ⟨rfl, rfl⟩, rfl, rfl⟩
    · walk_at "w"
      refine wpC_allT seq_l ?_
      exact hk
end
/-! ### turned pairs, counted -/
def invN : List Nat → Nat
  | [] => 0
  | x :: xs => (xs.filter fun y => decide (y < x)).length + invN xs
theorem invN_le : ∀ l : List Nat, invN l ≤ l.length * l.length
  | [] => Nat.le_refl _
  | x :: xs => by
    have h1 := invN_le xs
    have h2 : (xs.filter fun y => decide (y < x)).length ≤ xs.length := List.length_filter_le _ _
    show (xs.filter fun y => decide (y < x)).length + invN xs ≤ (xs.length + 1) * (xs.length + 1)
    have e : (xs.length + 1) * (xs.length + 1) = xs.length * xs.length + xs.length + xs.length + 1 := by
      rw [Nat.add_mul, Nat.mul_add]; omega
    omega
theorem exch_cons {x : Int} {o : List Int} {i : Nat} : exch (x :: o) (i + 1) = x :: exch o i := by
  unfold exch
  rfl
theorem exch_zero {x y : Int} {o : List Int} : exch (x :: y :: o) 0 = y :: x :: o := rfl
theorem exch_perm : ∀ (o : List Int) (i : Nat), i + 1 < o.length → (exch o i).Perm o
  | [], _, h => by simp at h
  | [_], _, h => by simp at h
  | x :: y :: o, 0, _ => List.Perm.swap x y o
  | x :: y :: o, i + 1, h => by
    rw [exch_cons]
    exact (exch_perm (y :: o) i (by simpa using h)).cons x
theorem exch_len {o : List Int} {i : Nat} : (exch o i).length = o.length := by simp [exch]
theorem exch_low {o : List Int} {i j : Nat} (h : j < i) : (exch o i).getD j 0 = o.getD j 0 := by
  unfold exch
  rw [List.getD_eq_getElem?_getD, List.getElem?_set_ne (by omega), List.getElem?_set_ne (by omega), List.getD_eq_getElem?_getD]
theorem inv_exch (f : Int → Nat) : ∀ (o : List Int) (i : Nat), i + 1 < o.length → f (o.getD (i + 1) 0) < f (o.getD i 0) → invN (o.map f) = 1 + invN ((exch o i).map f)
  | [], _, h, _ => by simp at h
  | [_], _, h, _ => by simp at h
  | x :: y :: o, 0, _, h => by
    rw [exch_zero]
    have h : f y < f x := h
    simp only [List.map_cons, invN, List.filter_cons]
    rw [decide_eq_true h, decide_eq_false (show ¬ f x < f y by omega)]
    simp
    omega
  | x :: y :: o, i + 1, h, ht => by
    rw [exch_cons]
    have ih := inv_exch f (y :: o) i (by simpa using h) ht
    rw [List.map_cons, List.map_cons]
    have hp : ((exch (y :: o) i).map f).Perm ((y :: o).map f) := (exch_perm (y :: o) i (by simpa using h)).map f
    have hq := (hp.filter fun z => decide (z < f x)).length_eq
    show (List.filter _ ((y :: o).map f)).length + invN ((y :: o).map f) = 1 + ((List.filter _ ((exch (y :: o) i).map f)).length + invN ((exch (y :: o) i).map f))
    rw [hq, ih]
    omega
theorem sorted_inv (f : Int → Nat) : ∀ o : List Int, o.Pairwise (fun x y => f x ≤ f y) → invN (o.map f) = 0
  | [], _ => rfl
  | x :: o, h => by
    obtain ⟨h1, h2⟩ := List.pairwise_cons.mp h
    rw [List.map_cons]
    show (List.filter _ (o.map f)).length + invN (o.map f) = 0
    rw [sorted_inv f o h2, List.filter_eq_nil_iff.mpr]
    · rfl
    · intro z hz
      obtain ⟨y, hy, rfl⟩ := List.mem_map.mp hz
      have := h1 y hy
      simp
      omega
theorem chain_sorted (f : Int → Nat) : ∀ o : List Int, (∀ j, j + 1 < o.length → ¬ f (o.getD (j + 1) 0) < f (o.getD j 0)) → o.Pairwise (fun x y => f x ≤ f y)
  | [], _ => .nil
  | [x], _ => List.pairwise_singleton _ _
  | x :: y :: o, h => by
    have ih := chain_sorted f (y :: o) fun j hj => h (j + 1) (by simp at hj ⊢; omega)
    have h0 : ¬ f y < f x := h 0 (by simp)
    refine List.pairwise_cons.mpr ⟨fun z hz => ?_, ih⟩
    rcases List.mem_cons.mp hz with rfl | hz
    · omega
    · have := (List.pairwise_cons.mp ih).1 z hz
      omega
/-! ### by the places in b -/
theorem idx_ne {z y : Int} {l : List Int} (h : z ≠ y) : (z :: l).idxOf y = l.idxOf y + 1 := by
  rw [List.idxOf_cons, show (z == y) = false by simpa using h] <;> rfl
theorem idx_inj {b : List Int} {x y : Int} (hx : x ∈ b) (hy : y ∈ b) (h : b.idxOf x = b.idxOf y) : x = y := by
  have h1 := List.idxOf_lt_length_iff.mpr hx
  have h2 := List.idxOf_lt_length_iff.mpr hy
  rw [← List.getElem_idxOf h1, ← List.getElem_idxOf h2]
  simp only [h]
theorem self_sorted {b : List Int} (hb : b.Nodup) : b.Pairwise fun x y => b.idxOf x ≤ b.idxOf y := by
  rw [List.pairwise_iff_getElem]
  intro i j hi hj hij
  rw [hb.idxOf_getElem i hi, hb.idxOf_getElem j hj]
  exact Nat.le_of_lt hij
theorem no_turn {b o : List Int} (hb : b.Nodup) (hp : o.Perm b) (h : ∀ j, j + 1 < o.length → ¬ b.idxOf (o.getD (j + 1) 0) < b.idxOf (o.getD j 0)) : o = b :=
  List.Perm.eq_of_pairwise (le := fun x y => b.idxOf x ≤ b.idxOf y) (fun x y hx hy h1 h2 => idx_inj (hp.mem_iff.mp hx) hy (Nat.le_antisymm h1 h2)) (chain_sorted _ o h) (self_sorted hb) hp
theorem gr_len {b : List Int} (hb : b.Nodup) : ∀ {o sw : List Int}, Gr b o sw → sw.length = invN (o.map b.idxOf)
  | _, _, .done => by rw [sorted_inv _ _ (self_sorted hb)]; rfl
  | _, _, .step ht r => by
    rw [List.length_cons, gr_len hb r, inv_exch _ _ _ ht.1 ht.2.1]
    omega
/-! ### the pairs -/
def prow (b : List Int) (x : Int) (l : List Int) : List (Int × Int) := (l.filter fun y => decide (b.idxOf y < b.idxOf x)).map fun y => (x, y)
def PPr (b : List Int) : List Int → List (Int × Int)
  | [] => []
  | x :: xs => prow b x xs ++ PPr b xs
theorem ppr_len (b : List Int) : ∀ a : List Int, (PPr b a).length = invN (a.map b.idxOf)
  | [] => rfl
  | x :: a => by
    show (prow b x a ++ PPr b a).length = (List.filter _ (a.map b.idxOf)).length + invN (a.map b.idxOf)
    rw [List.length_append, ppr_len b a]
    unfold prow
    rw [List.length_map, List.filter_map, List.length_map]
    rfl
theorem ppr_mem (b : List Int) : ∀ (a : List Int), a.Nodup → ∀ x y, (x, y) ∈ PPr b a ↔ (x ∈ a ∧ y ∈ a ∧ a.idxOf x < a.idxOf y ∧ b.idxOf y < b.idxOf x)
  | [], _, x, y => by simp [PPr]
  | z :: a, h, x, y => by
    obtain ⟨hz, ha⟩ := List.nodup_cons.mp h
    have ih := ppr_mem b a ha x y
    show (x, y) ∈ prow b z a ++ PPr b a ↔ _
    rw [List.mem_append, ih]
    unfold prow
    rw [List.mem_map]
    constructor
    · rintro (⟨w, hw, e⟩ | ⟨h1, h2, h3, h4⟩)
      · obtain ⟨hw1, hw2⟩ := List.mem_filter.mp hw
        simp only [Prod.mk.injEq] at e
        obtain ⟨rfl, rfl⟩ := e
        have hne : w ≠ z := fun e => hz (e ▸ hw1)
        refine ⟨List.mem_cons_self, List.mem_cons_of_mem _ hw1, ?_, by simpa using hw2⟩
        rw [List.idxOf_cons_self, idx_ne (Ne.symm hne)]
        exact Nat.succ_pos _
      · have n1 : x ≠ z := fun e => hz (e ▸ h1)
        have n2 : y ≠ z := fun e => hz (e ▸ h2)
        refine ⟨List.mem_cons_of_mem _ h1, List.mem_cons_of_mem _ h2, ?_, h4⟩
        rw [idx_ne (Ne.symm n1), idx_ne (Ne.symm n2)]
        exact Nat.succ_lt_succ h3
    · rintro ⟨h1, h2, h3, h4⟩
      by_cases e1 : x = z
      · subst e1
        rw [List.idxOf_cons_self] at h3
        have n2 : y ≠ x := fun e => by
          rw [e, List.idxOf_cons_self] at h3
          exact Nat.lt_irrefl _ h3
        have hy : y ∈ a := (List.mem_cons.mp h2).resolve_left n2
        exact .inl ⟨y, List.mem_filter.mpr ⟨hy, by simpa using h4⟩, rfl⟩
      · by_cases e2 : y = z
        · subst e2
          rw [List.idxOf_cons_self] at h3
          exact absurd h3 (Nat.not_lt_zero _)
        · rw [idx_ne (Ne.symm e1), idx_ne (Ne.symm e2)] at h3
          exact .inr ⟨(List.mem_cons.mp h1).resolve_left e1, (List.mem_cons.mp h2).resolve_left e2, Nat.lt_of_succ_lt_succ h3, h4⟩
theorem prow_nodup {b l : List Int} {x : Int} (h : l.Nodup) : (prow b x l).Nodup := by
  unfold prow
  rw [List.nodup_iff_pairwise_ne, List.pairwise_map]
  refine List.Pairwise.imp ?_ (List.nodup_iff_pairwise_ne.mp (h.filter _))
  intro y z hyz e
  exact hyz (Prod.mk.inj e).2
theorem ppr_nodup (b : List Int) : ∀ a : List Int, a.Nodup → (PPr b a).Nodup
  | [], _ => List.nodup_nil
  | x :: a, h => by
    obtain ⟨hx, ha⟩ := List.nodup_cons.mp h
    show (prow b x a ++ PPr b a).Nodup
    rw [List.nodup_append]
    refine ⟨prow_nodup ha, ppr_nodup b a ha, fun p hp q hq e => ?_⟩
    subst e
    obtain ⟨u, v⟩ := p
    obtain ⟨w, _, e⟩ := List.mem_map.mp hp
    have e1 : x = u := (Prod.mk.inj e).1
    subst e1
    exact hx ((ppr_mem b a ha _ _).mp hq).1
/-! ### ascending -/
theorem srt_perm (a : List Int) : (srt a).Perm a := List.mergeSort_perm _ _
theorem srt_sorted (a : List Int) : (srt a).Pairwise (· ≤ ·) := by
  have h := List.pairwise_mergeSort (le := fun x y : Int => decide (x ≤ y)) (by simp; intros; omega) (by simp; intros; omega) a
  exact h.imp fun h => by simpa using h
theorem srt_uniq {a ms : List Int} (h1 : ms.Perm a) (h2 : ms.Pairwise (· ≤ ·)) : ms = srt a :=
  List.Perm.eq_of_pairwise (le := (· ≤ ·)) (fun x y _ _ h3 h4 => Int.le_antisymm h3 h4) h2 (srt_sorted a) (h1.trans (srt_perm a).symm)
theorem srt_lt {a : List Int} (h : a.Nodup) : (srt a).Pairwise (· < ·) := by
  have h1 := srt_sorted a
  have h2 := List.nodup_iff_pairwise_ne.mp ((srt_perm a).nodup_iff.mpr h)
  exact (h1.and h2).imp fun ⟨p, q⟩ => by omega
theorem diffs_mem {a b : List Int} {x y : Int} : (x, y) ∈ diffs a b ↔ (x ∈ a ∧ y ∈ a ∧ a.idxOf x < a.idxOf y ∧ b.idxOf y < b.idxOf x) := by
  unfold diffs
  simp only [List.mem_flatMap, List.mem_map, List.mem_filter, Prod.mk.injEq, Bool.and_eq_true, decide_eq_true_eq, (srt_perm a).mem_iff]
  constructor
  · rintro ⟨u, hu, v, ⟨hv, h1, h2⟩, rfl, rfl⟩
    exact ⟨hu, hv, h1, h2⟩
  · rintro ⟨h1, h2, h3, h4⟩
    exact ⟨x, h1, y, ⟨h2, h3, h4⟩, rfl, rfl⟩
theorem diffs_lt {a b : List Int} (h : a.Nodup) : (diffs a b).Pairwise fun p q => p.1 < q.1 ∨ p.1 = q.1 ∧ p.2 < q.2 := by
  unfold diffs
  rw [List.pairwise_flatMap]
  refine ⟨fun x hx => ?_, (srt_lt h).imp fun hxy p hp q hq => ?_⟩
  · rw [List.pairwise_map]
    exact ((srt_lt h).filter _).imp fun h => .inr ⟨rfl, h⟩
  · obtain ⟨u, _, rfl⟩ := List.mem_map.mp hp
    obtain ⟨v, _, rfl⟩ := List.mem_map.mp hq
    exact .inl hxy
theorem diffs_nodup {a b : List Int} (h : a.Nodup) : (diffs a b).Nodup := by
  rw [List.nodup_iff_pairwise_ne]
  exact (diffs_lt h).imp fun h e => by
    subst e
    omega
theorem diffs_perm {a b : List Int} (h : a.Nodup) : (diffs a b).Perm (PPr b a) := (List.perm_ext_iff_of_nodup (diffs_nodup h) (ppr_nodup b a h)).mpr fun ⟨x, y⟩ => by rw [diffs_mem, ppr_mem b a h]
theorem diffs_uniq {a b : List Int} (h : a.Nodup) {ms : List (Int × Int)} (h1 : ms.Perm (PPr b a)) (h2 : ms.Pairwise lexI) : ms = diffs a b :=
  List.Perm.eq_of_pairwise (le := lexI) (fun x y _ _ h3 h4 => by
    obtain ⟨x1, x2⟩ := x
    obtain ⟨y1, y2⟩ := y
    unfold lexI at h3 h4
    simp only [Prod.mk.injEq]
    dsimp only at h3 h4
    omega) h2 ((diffs_lt h).imp fun h => by unfold lexI; omega) (h1.trans (diffs_perm h).symm)
theorem gr_diffs {a b sw : List Int} (ha : a.Nodup) (hp : a.Perm b) (h : Gr b a sw) : sw.length = (diffs a b).length := by
  rw [gr_len (hp.nodup_iff.mp ha) h, (diffs_perm ha).length_eq, ppr_len]
theorem idx_val {b : List Int} (hb : b.Nodup) {y : Int} (hy : y ∈ b) : valD (idxD b) (Sum.inl y) = some (.int (b.idxOf y : Nat)) := by
  have go : ∀ (l : List Int) (n : Nat), y ∈ l → (((l.zipIdx n).map fun p => ((Sum.inl p.1 : Key), D.int (p.2 : Int))).find? fun kv => decide (kv.1 = Sum.inl y)).map (·.2) = some (.int ((n + l.idxOf y : Nat) : Int)) := by
    intro l
    induction l with
    | nil => intro n h; cases h
    | cons z l ih =>
      intro n h
      rw [List.zipIdx_cons, List.map_cons, List.find?_cons]
      by_cases e : z = y
      · subst e
        simp
      · have e1 : decide ((Sum.inl z : Key) = Sum.inl y) = false := decide_eq_false fun q => e (Sum.inl.inj q)
        rw [e1]
        dsimp only
        rw [ih (n + 1) ((List.mem_cons.mp h).resolve_left fun q => e q.symm), idx_ne e]
        congr 2
        omega
  have h := go b 0 hy
  unfold valD idxD
  rw [h, Nat.zero_add]
section
variable {K : PySem.W.Frag} {W : WX} {ds : List D} {O : Ow} {k : Kk} {x : Xk}
theorem res2_ok {a b : List Int} (h : res2 a b = .ok) : wrong a = none ∧ wrong b = none ∧ unlK a b = none := by
  unfold res2 at h
  cases e : wrong a with
  | some p => rw [e] at h; cases h
  | none =>
    rw [e] at h
    cases e2 : wrong b with
    | some p => rw [e2] at h; cases h
    | none =>
      rw [e2] at h
      cases e3 : unlK a b with
      | some p => rw [e3] at h; cases h
      | none => exact ⟨rfl, rfl, rfl⟩
theorem cut_from {ns : List Int} {n : Nat} (h : n ≤ ns.length) : cutD (ns.map D.int) (some (n : Int)) none = (ns.drop n).map D.int := by
  unfold cutD
  rw [HT.sIx_nat, HT.sIx_none, List.length_map, Nat.min_eq_left h, List.map_drop, List.take_of_length_le]
  rw [List.length_drop, List.length_map]
  exact Nat.le_refl _
theorem drop_at {a : List Int} {i : Nat} {z : Int} (h : a[i]? = some z) : a.drop i = z :: a.drop (i + 1) := by
  have hi : i < a.length := (List.getElem?_eq_some_iff.mp h).1
  rw [List.drop_eq_getElem_cons hi]
  rw [List.getElem?_eq_getElem hi] at h
  rw [Option.some.inj h]
theorem w_differing_pairs (h : sp_differing_pairs K ds O k x) (lo : ∀ p ∈ O, p.loc = false) : wpS K W (fun e _ O' => x e O') (t_differing_pairs K W) (startD N_differing_pairs.length ds) O { nx := fun _ O' => k .non O', rt := k } := by
  obtain ⟨a, b, ⟨rfl, rfl⟩, ha, hb, h1, h2⟩ := h
  unfold t_differing_pairs
  walk_at "start"
  walk_at "w"
  walk_at "c0"
  refine ⟨a, b, ⟨rfl, rfl⟩, ha, hb, fun e1 => ?_, fun e1 => ?_⟩
  · obtain ⟨na, nb, nu⟩ := res2_ok e1
    have hna := wrong_nodup na
    have hnb := wrong_nodup nb
    have hp := same_perm na nb nu
    have hal := wrong_len na
    have hbl := wrong_len nb
    walk_at "w"
    walk_at "c0"
    refine ⟨b, ⟨rfl, rfl⟩, hb, hnb, ?_⟩
    walk_at "wr"
    refine wpE_lc2 true (gIn_tup2 (by simp) (by simp)) gMono_tup2 (gIn_name (by simp)) gMono_name ?_
    walk_at "w"
    refine ⟨_, a.map D.int, rfl, seq_l, fun i acc O' => O' = [] ∧ ∃ ps, acc = ps.map PyD.prD ∧ ps ++ PPr b (a.drop i) = PPr b a, ⟨rfl, [], rfl, rfl⟩, fun _ _ _ _ _ => seq_l, fun i q acc O' hq hI => ?_, fun acc O' hI => ?_⟩
    · obtain ⟨rfl, ps, rfl, hps⟩ := hI
      rw [enumD_map] at hq
      obtain ⟨⟨z, i'⟩, hz, rfl⟩ := map_get hq
      obtain ⟨hz, e⟩ := zip_get hz
      dsimp only at hz e
      subst e
      have hi : i' < a.length := (List.getElem?_eq_some_iff.mp hz).1
      have hzb : z ∈ b := hp.mem_iff.mp (List.mem_of_getElem? hz)
      rw [drop_at hz] at hps
      walk_at "w"
      refine wpT_yes ⟨fun h => (by cases h), fun _ => ?_⟩
      walk_at "w"
      refine wpE_slL true ?_
      walk_at "w"
      refine ⟨a.map D.int, seq_l, ?_⟩
      rw [show ((i' : Int) + 1) = ((i' + 1 : Nat) : Int) by omega, cut_from (by omega)]
      walk_at "w"
      refine ⟨(a.drop (i' + 1)).map D.int, seq_l, fun j acc O' => O' = [] ∧ ∃ ps, acc = ps.map PyD.prD ∧ ps ++ (prow b z ((a.drop (i' + 1)).drop j) ++ PPr b (a.drop (i' + 1))) = PPr b a ∧ ps.length ≤ (PPr b a).length, ⟨rfl, ps, rfl, ?_, ?_⟩, fun j acc O' hj hJ => ⟨seq_l, ?_⟩, fun j y acc O' hy hJ => ?_, fun acc O' hJ => ?_⟩
      · rw [List.drop_zero]
        exact hps
      · rw [← hps, List.length_append]
        omega
      · obtain ⟨_, ps, rfl, _, hl⟩ := hJ
        rw [List.length_map]
        refine small1000 (Nat.le_trans hl ?_)
        rw [ppr_len]
        refine Nat.le_trans (invN_le _) ?_
        rw [List.length_map]
        exact Nat.le_trans (Nat.mul_le_mul hal hal) (by decide)
      · obtain ⟨rfl, ps, rfl, hps, hl⟩ := hJ
        obtain ⟨y, hy', rfl⟩ := map_get hy
        have hyb : y ∈ b := hp.mem_iff.mp (List.mem_of_mem_drop (List.mem_of_getElem? hy'))
        rw [drop_at hy'] at hps
        walk_at "w"
        refine ⟨_, Sum.inl y, _, d_l, rfl, idx_val hnb hyb, ?_⟩
        walk_at "w"
        refine ⟨_, Sum.inl z, _, d_l, rfl, idx_val hnb hzb, ?_⟩
        walk_at "w"
        have er : ∀ l, prow b z (y :: l) = if b.idxOf y < b.idxOf z then (z, y) :: prow b z l else prow b z l := fun l => by
          unfold prow
          rw [List.filter_cons]
          by_cases c : b.idxOf y < b.idxOf z
          · rw [if_pos c, decide_eq_true c] <;> rfl
          · rw [if_neg c, decide_eq_false c] <;> rfl
        rw [er] at hps
        refine ⟨fun h => ?_, fun h => ?_⟩
        · have h : b.idxOf y < b.idxOf z := by simpa using h
          rw [if_pos h] at hps
          walk_at "w"
          refine ⟨by show 2 ≤ sizeLine; decide, ?_⟩
          refine ⟨rfl, ps ++ [(z, y)], by rw [List.map_append] <;> rfl, ?_, ?_⟩
          · rw [List.append_assoc]
            exact hps
          · rw [← hps]
            simp
        · have h : ¬ b.idxOf y < b.idxOf z := by simpa using h
          rw [if_neg h] at hps
          exact ⟨rfl, ps, rfl, hps, hl⟩
      · obtain ⟨rfl, ps, rfl, hps, hl⟩ := hJ
        rw [List.length_map, List.drop_length] at hps
        exact ⟨rfl, ps, rfl, hps⟩
    · obtain ⟨rfl, ps, rfl, hps⟩ := hI
      rw [enumD_map, List.length_map, List.length_zipIdx, List.drop_length] at hps
      have hps : ps = PPr b a := by
        rw [← hps]
        show ps = ps ++ []
        rw [List.append_nil]
      subst hps
      walk_at "w"
      refine wpC_sortAP true seq_l fun ms hm hs => ?_
      rw [diffs_uniq hna hm hs]
      exact h1 e1
  · exact h2 e1
theorem w__law_differing (h : sp__law_differing K ds O k x) (lo : ∀ p ∈ O, p.loc = false) : wpS K W (fun e _ O' => x e O') (t__law_differing K W) (startD N__law_differing.length ds) O { nx := fun _ O' => k .non O', rt := k } := by
  obtain ⟨a, b, ⟨rfl, rfl⟩, hl, hp, hk⟩ := h
  unfold t__law_differing
  have hls : (srt a).length ≤ 16 := by rw [(srt_perm a).length_eq]; exact hl
  walk_at "start"
  walk_at "w"
  refine wpE_lst false ?_
  walk_at "w"
  refine ⟨by simp, ?_⟩
  intro c hc
  walk_at "w"
  obtain ⟨row, hrow⟩ : ∃ row : Int → Int → Bool, row = fun x y => decide (a.idxOf x < a.idxOf y) && decide (b.idxOf y < b.idxOf x) := ⟨_, rfl⟩
  have hd : diffs a b = (srt a).flatMap fun x => ((srt a).filter (row x)).map fun y => (x, y) := by rw [hrow] <;> rfl
  refine wpS_seq ?_
  refine wpS_forE (α := Int) ?_
  walk_at "w"
  refine wpC_sortAI true seq_l fun ms hm hs => ?_
  obtain rfl := srt_uniq hm hs
  walk_at "w"
  refine ⟨(srt a).map D.int, seq_l, srt a, D.int, fun i G O => ∃ q3 q4 ps, G = [some (L a), some (L b), some (.mut c), q3, q4] ∧ O = [⟨c, true, prs ps⟩] ∧ ps = ((srt a).take i).flatMap (fun x => ((srt a).filter (row x)).map fun y => (x, y)) ∧ ps.length ≤ i * 16, rfl, ⟨none, none, [], rfl, rfl, rfl, by simp⟩, fun _ _ _ _ _ => seq_l, ?_, ?_⟩
  · intro i u G O hu hI
    obtain ⟨q3, q4, ps, rfl, rfl, hps, hpl⟩ := hI
    have hi : i < (srt a).length := (List.getElem?_eq_some_iff.mp hu).1
    have hua : u ∈ a := (srt_perm a).mem_iff.mp (List.mem_of_getElem? hu)
    walk_at "w"
    refine wpS_forE (α := Int) ?_
    walk_at "w"
    refine wpC_sortAI true seq_l fun ms hm hs => ?_
    obtain rfl := srt_uniq hm hs
    walk_at "w"
    refine ⟨(srt a).map D.int, seq_l, srt a, D.int, fun j G O => ∃ q4 qs, G = [some (L a), some (L b), some (.mut c), some (.int u), q4] ∧ O = [⟨c, true, prs (ps ++ qs)⟩] ∧ qs = (((srt a).take j).filter (row u)).map (fun y => (u, y)) ∧ qs.length ≤ j, rfl, ⟨q4, [], rfl, by rw [List.append_nil], rfl, by simp⟩, fun _ _ _ _ _ => seq_l, ?_, ?_⟩
    · intro j v G O hv hJ
      obtain ⟨q4, qs, rfl, rfl, hqs, hql⟩ := hJ
      have hj : j < (srt a).length := (List.getElem?_eq_some_iff.mp hv).1
      have hva : v ∈ a := (srt_perm a).mem_iff.mp (List.mem_of_getElem? hv)
      have es : (((srt a).take (j + 1)).filter (row u)).map (fun y => (u, y)) = qs ++ (if row u v = true then [(u, v)] else []) := by
        rw [take_snoc hv, List.filter_append, List.map_append, ← hqs, List.filter_cons]
        cases row u v <;> rfl
      walk_at "w"
      refine wpS_ite (row u v) ?_ (fun h => ?_) fun h => ?_
      · rw [hrow]
        refine wpT_and ?_
        walk_at "w"
        refine ⟨⟨_, seq_l⟩, ?_⟩
        walk_at "w"
        refine wpM_indexI seq_l hua ?_
        walk_at "w"
        refine ⟨⟨_, seq_l⟩, ?_⟩
        walk_at "w"
        refine wpM_indexI seq_l hva ?_
        walk_at "w"
        refine ⟨fun h => ?_, fun h => ⟨?_, rfl⟩⟩
        · have h : a.idxOf u < a.idxOf v := by simpa using h
          rw [decide_eq_true h, Bool.true_and]
          walk_at "w"
          refine ⟨⟨_, seq_l⟩, ?_⟩
          walk_at "w"
          refine wpM_indexI seq_l (hp.mem_iff.mp hva) ?_
          walk_at "w"
          refine ⟨⟨_, seq_l⟩, ?_⟩
          walk_at "w"
          refine wpM_indexI seq_l (hp.mem_iff.mp hua) ?_
          walk_at "w"
          exact ⟨dec_iff (by omega), rfl⟩
        · have h : ¬ a.idxOf u < a.idxOf v := by simpa using h
          rw [decide_eq_false h, Bool.false_and]
      · rw [if_pos h] at es
        walk_at "w"
        refine ⟨⟨_, seq_m (i := 0) rfl⟩, ?_⟩
        walk_at "w"
        refine ⟨by show 2 ≤ sizeLine; decide, ?_⟩
        walk_at "w"
        refine wpM_append (j := 0) rfl (small1000 (by rw [List.length_map, List.length_append]; omega)) ?_
        walk_at "w"
        refine ⟨_, qs ++ [(u, v)], rfl, ?_, es.symm, by simp; omega⟩
        rw [← List.append_assoc]
        show [Ob.mk c true (.lst (List.map PyD.prD (ps ++ qs) ++ [PyD.prD (u, v)]))] = [Ob.mk c true (.lst (List.map PyD.prD (ps ++ qs ++ [(u, v)])))]
        rw [List.map_append (l₁ := ps ++ qs)]
        rfl
      · rw [if_neg (by rw [h]; decide), List.append_nil] at es
        walk_at "w"
        exact ⟨_, qs, rfl, rfl, es.symm, by omega⟩
    · intro G O hJ
      obtain ⟨q4, qs, rfl, rfl, hqs, hql⟩ := hJ
      rw [List.take_length] at hqs
      refine ⟨_, _, ps ++ qs, rfl, rfl, ?_, by rw [List.length_append]; omega⟩
      rw [take_snoc hu, List.flatMap_append, ← hps, hqs]
      simp
  · intro G O hI
    obtain ⟨q3, q4, ps, rfl, rfl, hps, hpl⟩ := hI
    rw [List.take_length, ← hd] at hps
    subst hps
    refine wpS_frz (i := 2) (j := 0) rfl rfl ?_
    walk_at "wr"
    exact hk
end
section
variable {K : PySem.W.Frag} {W : WX} {ds : List D} {O : Ow} {k : Kk} {x : Xk}
theorem getD_mem {o b : List Int} (hp : o.Perm b) {i : Nat} (h : i < o.length) : o.getD i 0 ∈ b := hp.mem_iff.mp (by
  rw [List.getD_eq_getElem?_getD, List.getElem?_eq_getElem h]
  exact List.getElem_mem h)
theorem w_straight_swaps (h : sp_straight_swaps K ds O k x) (lo : ∀ p ∈ O, p.loc = false) : wpS K W (fun e _ O' => x e O') (t_straight_swaps K W) (startD N_straight_swaps.length ds) O { nx := fun _ O' => k .non O', rt := k } := by
  obtain ⟨a, b, ⟨rfl, rfl⟩, ha, hb, h1, h2⟩ := h
  unfold t_straight_swaps
  walk_at "start"
  walk_at "w"
  walk_at "c0"
  refine ⟨a, b, ⟨rfl, rfl⟩, ha, hb, fun e1 => ?_, fun e1 => h2 e1⟩
  obtain ⟨na, nb, nu⟩ := res2_ok e1
  have hna := wrong_nodup na
  have hnb := wrong_nodup nb
  have hp := same_perm na nb nu
  have hal := wrong_len na
  have hk := h1 e1
  have hI : invN (a.map b.idxOf) ≤ 144 := Nat.le_trans (invN_le _) (by
    rw [List.length_map]
    exact Nat.le_trans (Nat.mul_le_mul hal hal) (by decide))
  walk_at "w"
  walk_at "c0"
  refine ⟨b, ⟨rfl, rfl⟩, hb, hnb, ?_⟩
  walk_at "w"
  refine wpC_list false seq_l ?_
  intro oc hoc
  walk_at "w"
  refine wpE_lst false ?_
  walk_at "w"
  refine ⟨by simp, ?_⟩
  intro sc hsc
  walk_at "w"
  refine wpS_seq ?_
  refine wpS_while (fun m G O => ∃ (o sw : List Int) (i : Nat) (q6 q7 : Option D), G = [some (L a), some (L b), some (.dK (idxD b)), some (.mut oc), some (.mut sc), some (.int (i : Int)), q6, q7] ∧ O = [⟨sc, true, L sw⟩, ⟨oc, true, L o⟩] ∧ o.Perm b ∧ (∀ r, Gr b o r → Gr b a (sw ++ r)) ∧
    (∀ j, j < i → j + 1 < o.length → ¬ b.idxOf (o.getD (j + 1) 0) < b.idxOf (o.getD j 0)) ∧ sw.length + invN (o.map b.idxOf) = invN (a.map b.idxOf) ∧ i ≤ o.length ∧ m = 2 * invN (o.map b.idxOf) + (o.length - i)) (m := 2 * invN (a.map b.idxOf) + a.length) ?_ ?_
  · exact ⟨a, [], 0, none, none, rfl, rfl, hp, fun r h => h, fun j hj => absurd hj (Nat.not_lt_zero j), by simp, Nat.zero_le _, by simp⟩
  · intro m G O hI2
    obtain ⟨o, sw, i, q6, q7, rfl, rfl, ho, hr, hno, hsum, hil, rfl⟩ := hI2
    have hol : o.length = a.length := ho.length_eq.trans hp.length_eq.symm
    walk_at "w"
    refine ⟨fun h => ?_, fun h => ?_⟩
    · have h : i + 1 < o.length := by have := of_decide_eq_true h; omega
      have ei : (i : Int).toNat = i := by omega
      have ej : ((i : Int) + 1).toNat = i + 1 := by omega
      walk_at "w"
      rw [ei, ej]
      refine ⟨_, Sum.inl _, _, d_l, rfl, idx_val hnb (getD_mem ho (by omega)), ?_⟩
      walk_at "w"
      refine ⟨_, Sum.inl _, _, d_l, rfl, idx_val hnb (getD_mem ho h), ?_⟩
      walk_at "w"
      refine ⟨fun ht => ?_, fun ht => ?_⟩
      · have ht : b.idxOf (o.getD (i + 1) 0) < b.idxOf (o.getD i 0) := by have := of_decide_eq_true ht; omega
        have hinv := inv_exch b.idxOf o i h ht
        walk_at "w"
        refine ⟨⟨_, seq_m (i := 0) rfl⟩, ?_⟩
        walk_at "w"
        refine wpM_appendI (j := 0) rfl (by omega) ?_
        walk_at "w"
        rw [ei, ej]
        have hi0 : (if (0 : Int) > (i : Int) - 1 then (0 : Int) else (i : Int) - 1) = ((i - 1 : Nat) : Int) := by split <;> omega
        rw [hi0]
        refine ⟨2 * invN ((exch o i).map b.idxOf) + ((exch o i).length - (i - 1)), by rw [exch_len]; omega, exch o i, sw ++ [(i : Int)], i - 1, _, _, rfl, rfl, (exch_perm o i h).trans ho, fun r hg => ?_, fun j hj hj2 => ?_, by rw [List.length_append]; simp; omega, by rw [exch_len]; omega, rfl⟩
        · rw [List.append_assoc]
          exact hr _ (.step ⟨h, ht, fun j hj => hno j hj (by omega)⟩ hg)
        · rw [exch_low (by omega), exch_low (by omega)]
          exact hno j (by omega) (by omega)
      · have ht : ¬ b.idxOf (o.getD (i + 1) 0) < b.idxOf (o.getD i 0) := by have := of_decide_eq_false ht; omega
        walk_at "w"
        refine ⟨2 * invN (o.map b.idxOf) + (o.length - (i + 1)), by omega, o, sw, i + 1, _, _, rfl, rfl, ho, hr, fun j hj hj2 => ?_, hsum, by omega, rfl⟩
        rcases Nat.lt_or_eq_of_le (Nat.le_of_lt_succ hj) with hj | rfl
        · exact hno j hj hj2
        · exact ht
    · have h : ¬ i + 1 < o.length := by have := of_decide_eq_false h; omega
      have e : o = b := no_turn hnb ho fun j hj => hno j (by omega) hj
      subst e
      have hg := hr [] .done
      rw [List.append_nil] at hg
      refine wpS_frz (i := 4) (j := 0) rfl rfl ?_
      refine wpS_subO (O' := []) (by simp) ?_
      walk_at "wr"
      exact hk sw hg
theorem against_head {b o : List Int} {i : Nat} (h : turnAt b o i) : ∃ l, ((List.range (o.length - 1)).filter fun k => decide (b.idxOf (o.getD (k + 1) 0) < b.idxOf (o.getD k 0))) = i :: l := by
  obtain ⟨h1, h2, h3⟩ := h
  obtain ⟨m, hm⟩ : ∃ m, o.length - 1 = i + (m + 1) := ⟨o.length - 1 - i - 1, by omega⟩
  rw [hm, List.range_add, List.range_succ_eq_map, List.map_cons, List.filter_append, List.filter_eq_nil_iff.mpr, List.nil_append, List.filter_cons, if_pos (by simpa using h2)]
  · exact ⟨_, rfl⟩
  · intro j hj
    have := h3 j (List.mem_range.mp hj)
    simpa using this
theorem w__law_straight (h : sp__law_straight K ds O k x) (lo : ∀ p ∈ O, p.loc = false) : wpS K W (fun e _ O' => x e O') (t__law_straight K W) (startD N__law_straight.length ds) O { nx := fun _ O' => k .non O', rt := k } := by
  obtain ⟨a, b, sw, ⟨rfl, rfl⟩, hal, hna, hp, hg, hk⟩ := h
  have hnb := hp.nodup_iff.mp hna
  have hlen := gr_diffs hna hp hg
  have hsl : sw.length ≤ 256 := by
    rw [gr_len hnb hg]
    refine Nat.le_trans (invN_le _) ?_
    rw [List.length_map]
    exact Nat.le_trans (Nat.mul_le_mul hal hal) (by decide)
  unfold t__law_straight
  walk_at "start"
  refine wpS_seq ?_
  refine wpS_ite false ?_ (fun h => (by cases h)) fun _ => ?_
  · refine wpT_or ?_
    walk_at "w"
    refine wpC_isi (.lst _) (b := true) (by decide +kernel) ?_
    walk_at "w"
    refine ⟨fun h => (by cases h), fun _ => ?_⟩
    walk_at "w"
    refine wpE_lcA true sw D.int (fun _ => some (.bl true)) (gIn_name (by decide)) gMono_name ?_
    walk_at "w"
    refine ⟨sw.map D.int, seq_l, rfl, small1000 (by omega), seq_l, fun i z hz => ?_, ?_⟩
    · walk_at "w"
      refine ⟨rfl, wpT_yes ⟨rfl, fun _ => ?_, fun h => (by cases h)⟩⟩
      walk_at "w"
      exact ⟨_, ⟨rfl, rfl⟩, rfl, rfl⟩
    · walk_at "w"
      refine wpC_allT seq_l ?_
      walk_at "w"
      exact ⟨rfl, rfl⟩
  walk_at "w"
  walk_at "c0"
  refine ⟨a, b, ⟨rfl, rfl⟩, hal, hp, ?_⟩
  walk_at "w"
  refine ⟨fun h => ?_, fun _ => ?_⟩
  · exfalso
    rw [hlen] at h
    simp at h
  walk_at "w"
  refine wpC_list true seq_l ?_
  walk_at "w"
  refine wpS_seq ?_
  refine wpS_forE (α := Int) ?_
  walk_at "w"
  refine ⟨sw.map D.int, seq_l, sw, D.int, fun i G O => ∃ o q4 q5 q6, G = [some (L a), some (L b), some (L sw), some (L o), q4, q5, q6] ∧ O = [] ∧ o.Perm b ∧ Gr b o (sw.drop i), rfl, ⟨a, none, none, none, rfl, rfl, hp, hg⟩, fun _ _ _ _ _ => seq_l, ?_, ?_⟩
  · intro i z G O hz hI
    obtain ⟨o, q4, q5, q6, rfl, rfl, ho, hgo⟩ := hI
    rw [drop_at hz] at hgo
    generalize hr : sw.drop (i + 1) = r at hgo
    have hol : o.length = b.length := ho.length_eq
    have hbl : b.length = a.length := hp.length_eq.symm
    cases hgo with
    | @step _ n _ ht hgr =>
    have hn := ht.1
    obtain ⟨l, hl⟩ := against_head ht
    walk_at "w"
    refine wpE_lcA true (List.range (o.length - 1)) (fun i => .int (0 + (i : Int))) (fun j => if b.idxOf (o.getD (j + 1) 0) < b.idxOf (o.getD j 0) then some (.int (0 + (j : Int))) else none) (gIn_name (by decide)) gMono_name ?_
    walk_at "w"
    refine ⟨⟨by omega, by omega⟩, by rw [show ((o.length : Int) - 1).toNat = o.length - 1 by omega]; rfl, small1000 (by simp; omega), trivial, fun i j hij => ?_, ?_⟩
    · obtain ⟨rfl, hi⟩ := range_get hij
      have e1 : (0 + (j : Int)).toNat = j := by omega
      have e2 : (0 + (j : Int) + 1).toNat = j + 1 := by omega
      walk_at "w"
      refine ⟨rfl, ?_⟩
      walk_at "w"
      refine ⟨⟨_, seq_l⟩, ?_⟩
      walk_at "w"
      rw [e2]
      refine wpM_indexI seq_l (getD_mem ho (by omega)) ?_
      walk_at "w"
      refine ⟨⟨_, seq_l⟩, ?_⟩
      walk_at "w"
      rw [e1]
      refine wpM_indexI seq_l (getD_mem ho (by omega)) ?_
      walk_at "w"
      refine ⟨rfl, fun h => ?_, fun h => ?_⟩
      · walk_at "w"
        exact ⟨if_pos (by have := of_decide_eq_true h; omega), rfl⟩
      · exact if_neg (by have := of_decide_eq_false h; omega)
    · have ef : (List.range (o.length - 1)).filterMap (fun j => if b.idxOf (o.getD (j + 1) 0) < b.idxOf (o.getD j 0) then some (D.int (0 + (j : Int))) else none) = (((n : Int) :: l.map fun (j : Nat) => (j : Int)).map D.int) := by
        have : ∀ m : List Nat, m.filterMap (fun j => if b.idxOf (o.getD (j + 1) 0) < b.idxOf (o.getD j 0) then some (D.int (0 + (j : Int))) else none) = (m.filter fun k => decide (b.idxOf (o.getD (k + 1) 0) < b.idxOf (o.getD k 0))).map fun (j : Nat) => D.int (j : Int) := by
          intro m
          induction m with
          | nil => rfl
          | cons c m ih =>
            rw [List.filterMap_cons, List.filter_cons]
            by_cases hc : b.idxOf (o.getD (c + 1) 0) < b.idxOf (o.getD c 0)
            · rw [if_pos hc, if_pos (decide_eq_true hc), List.map_cons, ← ih]
              dsimp only
              rw [Int.zero_add]
            · rw [if_neg hc, if_neg (by simpa using hc), ← ih]
        rw [this, hl]
        simp
      rw [ef]
      walk_at "w"
      refine wpS_ite false ?_ (fun h => (by cases h)) fun _ => ?_
      · refine wpT_or ?_
        walk_at "w"
        refine ⟨_, .seq seq_l, fun h => (by cases h), fun _ => ?_⟩
        walk_at "w"
        refine wpR_ixI seq_l (by omega) (by simp) ?_
        walk_at "w"
        exact ⟨by simp, rfl⟩
      · walk_at "w"
        walk_at "c0"
        refine ⟨o, (n : Int), ⟨rfl, rfl⟩, by omega, by omega, ?_⟩
        walk_at "w"
        exact ⟨_, _, _, _, rfl, rfl, by rw [Int.toNat_natCast]; exact (exch_perm o n hn).trans ho, by rw [hr, Int.toNat_natCast]; exact hgr⟩
  · intro G O hI
    obtain ⟨o, q4, q5, q6, rfl, rfl, ho, hgo⟩ := hI
    rw [List.drop_length] at hgo
    cases hgo
    walk_at "wr"
    refine wpR_eqLd view_self view_self ?_
    simpa using hk
end
section
variable {Pg : Program} {mg : Str → Option Value} {K : PySem.W.Frag} {W : WX} {ds : List D} {O : Ow} {k : Kk} {x : Xk}
theorem ask_bad (T : TX Pg K mg) {ex : Ek} {E : EnD} {g0 g1 g2 g3 q4 q5 q6 : Option D} {p : Nat} (hk : E.rt (.tup [.str "list", .int (p : Int), .bl true]) []) :
    exCls K W ex E (tl__law_ask_0 K) (exOf K (.bad p)) [g0, g1, g2, g3, q4, q5, q6] [] := by
  refine ⟨true, T.exm_InvalidList_InvalidList, fun _ a d => ?_, fun h => (by cases h)⟩
  show wpS K W ex _ [g0, g1, g2, g3, some (.exc a (He.ga K "InvalidList") d [("place", .int (p : Int))]), q5, q6] [] _
  walk_at "w"
  refine wpC_isX rfl T.x_InvalidList.ex T.kit_InvalidList_DriftError ?_
  walk_at "w"
  refine ⟨fun _ => ?_, fun h => (by cases h)⟩
  walk_at "w"
  refine wpC_isXt rfl T.x_InvalidList.ex T.kit_InvalidList_ValueError ?_
  walk_at "w"
  refine ⟨fun _ => ?_, fun h => (by cases h)⟩
  walk_at "w"
  refine wpC_isX rfl T.x_InvalidList.ex T.kit_InvalidList_UnlikeKeys ?_
  walk_at "w"
  refine ⟨fun _ => ?_, fun h => (by cases h)⟩
  walk_at "w"
  refine wpC_isX rfl T.x_InvalidList.ex T.kit_InvalidList_InvalidSwap ?_
  walk_at "wr"
  refine wpE_xfA rfl rfl rfl ?_
  walk_at "w"
  exact ⟨by show 3 ≤ sizeLine; decide, hk⟩
theorem ask_unl (T : TX Pg K mg) {ex : Ek} {E : EnD} {g0 g1 g2 g3 q4 q5 q6 : Option D} {m : Int} (hk : E.rt (.tup [.str "unlike", .int m, .bl true]) []) :
    exCls K W ex E (tl__law_ask_0 K) (exOf K (.unl m)) [g0, g1, g2, g3, q4, q5, q6] [] := by
  refine ⟨false, T.exm_UnlikeKeys_InvalidList, fun h => (by cases h), fun _ => ⟨true, T.exm_UnlikeKeys_UnlikeKeys, fun _ a d => ?_, fun h => (by cases h)⟩⟩
  show wpS K W ex _ [g0, g1, g2, g3, some (.exc a (He.ga K "UnlikeKeys") d [("key", .int m)]), q5, q6] [] _
  walk_at "w"
  refine wpC_isX rfl T.x_UnlikeKeys.ex T.kit_UnlikeKeys_DriftError ?_
  walk_at "w"
  refine ⟨fun _ => ?_, fun h => (by cases h)⟩
  walk_at "w"
  refine wpC_isXt rfl T.x_UnlikeKeys.ex T.kit_UnlikeKeys_ValueError ?_
  walk_at "wr"
  refine wpE_xfA rfl rfl rfl ?_
  walk_at "w"
  refine ⟨fun _ => ?_, fun h => (by cases h)⟩
  walk_at "w"
  refine wpC_isX rfl T.x_UnlikeKeys.ex T.kit_UnlikeKeys_InvalidSwap ?_
  walk_at "w"
  exact ⟨by show 3 ≤ sizeLine; decide, hk⟩
theorem ask_swp (T : TX Pg K mg) {ex : Ek} {E : EnD} {g0 g1 g2 g3 q4 q5 q6 : Option D} (hk : E.rt (.tup [.str "swap", .int 0, .bl true]) []) :
    exCls K W ex E (tl__law_ask_0 K) (exOf K .swp) [g0, g1, g2, g3, q4, q5, q6] [] := by
  refine ⟨false, T.exm_InvalidSwap_InvalidList, fun h => (by cases h), fun _ => ⟨false, T.exm_InvalidSwap_UnlikeKeys, fun h => (by cases h), fun _ => ⟨true, T.exm_InvalidSwap_InvalidSwap, fun _ a d => ?_, fun h => (by cases h)⟩⟩⟩
  show wpS K W ex _ [g0, g1, g2, g3, some (.exc a (He.ga K "InvalidSwap") d [("step", .int 0)]), q5, q6] [] _
  walk_at "wr"
  refine wpE_xfA rfl rfl rfl ?_
  walk_at "w"
  refine wpC_isX rfl T.x_InvalidSwap.ex T.kit_InvalidSwap_DriftError ?_
  walk_at "w"
  refine ⟨fun _ => ?_, fun h => (by cases h)⟩
  walk_at "w"
  refine wpC_isXt rfl T.x_InvalidSwap.ex T.kit_InvalidSwap_ValueError ?_
  walk_at "w"
  exact ⟨by show 3 ≤ sizeLine; decide, hk⟩
theorem ask_ex (T : TX Pg K mg) {ex : Ek} {E : EnD} {g0 g1 g2 g3 q4 q5 q6 : Option D} {r : Rs} (hr : r ≠ .ok) (hk : E.rt (.tup [.str (nmOf r), vlOf r, .bl true]) []) :
    exCls K W ex E (tl__law_ask_0 K) (exOf K r) [g0, g1, g2, g3, q4, q5, q6] [] := by
  cases r with
  | ok => exact absurd rfl hr
  | bad p => exact ask_bad T hk
  | unl m => exact ask_unl T hk
  | swp => exact ask_swp T hk
theorem w__law_ask (T : TX Pg K mg) (h : sp__law_ask K ds O k x) (lo : ∀ p ∈ O, p.loc = false) : wpS K W (fun e _ O' => x e O') (t__law_ask K W) (startD N__law_ask.length ds) O { nx := fun _ O' => k .non O', rt := k } := by
  obtain ⟨w, a, b, i, ⟨rfl, rfl⟩, w0, w1, ha, hb, h1, h2⟩ := h
  unfold t__law_ask
  walk_at "start"
  refine wpS_seq ?_
  refine wpS_try fun W' => ?_
  walk_at "w"
  refine ⟨fun hw => ?_, fun hw => ?_⟩
  · obtain rfl := of_decide_eq_true hw
    walk_at "w"
    walk_at "c0"
    refine ⟨a, ⟨rfl, rfl⟩, ha, fun e => ?_, fun e => ask_ex T e (h1 e)⟩
    walk_at "wr"
    exact ⟨by show 3 ≤ sizeLine; decide, (h2 e).1 rfl⟩
  have w2 := of_decide_eq_false hw
  walk_at "w"
  refine ⟨fun hw => ?_, fun hw => ?_⟩
  · obtain rfl := of_decide_eq_true hw
    walk_at "w"
    walk_at "c0"
    refine ⟨a, i, ⟨rfl, rfl⟩, ha, fun e c => ?_, fun e => ask_ex T e (h1 e)⟩
    walk_at "wr"
    exact ⟨by show 3 ≤ sizeLine; decide, (h2 e).2.1 rfl c⟩
  have w3 := of_decide_eq_false hw
  have er : resW w a b i = res2 a b := by
    unfold resW
    rw [if_neg w2, if_neg w3]
  rw [er] at h1 h2
  walk_at "w"
  refine ⟨fun hw => ?_, fun hw => ?_⟩
  · obtain rfl := of_decide_eq_true hw
    walk_at "w"
    walk_at "c0"
    refine ⟨a, b, ⟨rfl, rfl⟩, ha, hb, fun e => ?_, fun e => ask_ex T e (h1 e)⟩
    walk_at "wr"
    exact ⟨by show 3 ≤ sizeLine; decide, (h2 e).2.2.1 rfl⟩
  · have w4 := of_decide_eq_false hw
    obtain rfl : w = 3 := by omega
    walk_at "w"
    walk_at "c0"
    refine ⟨a, b, ⟨rfl, rfl⟩, ha, hb, fun e sw hg => ?_, fun e => ask_ex T e (h1 e)⟩
    walk_at "wr"
    exact ⟨by show 3 ≤ sizeLine; decide, (h2 e).2.2.2 rfl sw hg⟩
end
section
variable {K : PySem.W.Frag} {W : WX} {ds : List D} {O : Ow} {k : Kk} {x : Xk}
theorem nm_told {r : Rs} (h : r ≠ .ok) : nmOf r ≠ "told" := by
  cases r with
  | ok => exact absurd rfl h
  | bad p => show ("list" : Str) ≠ "told"; decide
  | unl m => show ("unlike" : Str) ≠ "told"; decide
  | swp => decide
theorem vl_int {r : Rs} (h : r ≠ .ok) : ∃ z, vlOf r = .int z := by
  cases r with
  | ok => exact absurd rfl h
  | bad p => exact ⟨_, rfl⟩
  | unl m => exact ⟨_, rfl⟩
  | swp => exact ⟨_, rfl⟩
theorem resW_01 {w : Int} {a b : List Int} {i : Int} (h : w = 1) (e : resW w a b i = .ok) : 0 ≤ i ∧ i + 1 < (a.length : Int) := by
  subst h
  unfold resW resS at e
  rw [if_neg (by decide), if_pos rfl] at e
  cases ew : wrong a with
  | some p => rw [ew] at e; cases e
  | none =>
    rw [ew] at e
    dsimp only at e
    by_cases c : i < 0 ∨ (a.length : Int) - 2 < i
    · rw [if_pos c] at e; cases e
    · omega
theorem resW_2 {w : Int} {a b : List Int} {i : Int} (h0 : w ≠ 0) (h1 : w ≠ 1) (e : resW w a b i = .ok) : a.Nodup ∧ a.Perm b := by
  unfold resW at e
  rw [if_neg h0, if_neg h1] at e
  obtain ⟨na, nb, nu⟩ := res2_ok e
  exact ⟨wrong_nodup na, same_perm na nb nu⟩
/-- the first test: nothing to be said against -/
theorem asked_test {ex : Ek} {O : Ow} {a b : List Int} {g0 g3 q7 : Option D} {nm : Str} {v v' : D} {PT : Bool → Ow → Prop} (p : PT false O) :
    wpT K W ex (tOr (tTest (tOp (rNeA K) (tOp (rIxLT K) (tVar 5) (tC (.int 0))) (tOp (rIxLT K) (tVar 6) (tC (.int 0))))) (tOr (tNot (tTru K (tOp (rIxLT K) (tVar 5) (tC (.int 2))))) (tOr (tTest (tOp (rNeA K) (tOp (rIxLT K) (tVar 4) (tC (.int 0))) (tVar 1))) (tTest (tOp (rNeA K) (tOp (rIxLT K) (tVar 4) (tC (.int 1))) (tVar 2))))))
      [g0, some (L a), some (L b), g3, some (.lst [L a, L b]), some (.tup [.str nm, v, .bl true]), some (.tup [.str nm, v']), q7] O PT := by
  refine wpT_or ?_
  walk_at "w"
  refine ⟨fun h => ?_, fun _ => ?_⟩
  · simp at h
  refine wpT_or ?_
  walk_at "w"
  refine ⟨fun h => (by cases h), fun _ => ?_⟩
  refine wpT_or ?_
  walk_at "w"
  refine wpR_neLd view_self view_self ?_
  walk_at "w"
  refine ⟨fun h => ?_, fun _ => ?_⟩
  · simp at h
  walk_at "w"
  refine wpR_neLd view_self view_self ?_
  walk_at "w"
  simpa using p
theorem w__law_asked (h : sp__law_asked K ds O k x) (lo : ∀ p ∈ O, p.loc = false) : wpS K W (fun e _ O' => x e O') (t__law_asked K W) (startD N__law_asked.length ds) O { nx := fun _ O' => k .non O', rt := k } := by
  obtain ⟨w, a, b, i, ⟨rfl, rfl⟩, w0, w1, ha, hb, hk⟩ := h
  have hal := ha.1
  have hbl := hb.1
  unfold t__law_asked
  walk_at "start"
  walk_at "w"
  refine wpE_lst true ?_
  walk_at "w"
  refine wpC_list true seq_l ?_
  walk_at "w"
  refine wpC_list true seq_l ?_
  walk_at "w"
  refine ⟨by show 2 ≤ sizeLine; decide, ?_⟩
  walk_at "w"
  walk_at "c0"
  refine ⟨w, a, b, i, ⟨rfl, rfl⟩, w0, w1, ha, hb, fun hr => ?_, fun hr => ⟨fun hw => ?_, fun hw c => ?_, fun hw => ?_, fun hw sw hg => ?_⟩⟩
  · -- refused
    walk_at "w"
    walk_at "c0"
    refine ⟨w, a, b, i, ⟨rfl, rfl⟩, w0, w1, ha, hb, ?_⟩
    walk_at "w"
    refine wpS_if (asked_test ⟨fun h => (by cases h), fun _ => ?_⟩)
    have ht := nm_told hr
    obtain ⟨z, hz⟩ := vl_int hr
    rw [hz]
    walk_at "w"
    refine ⟨fun _ => ?_, fun h => ?_⟩
    · walk_at "wr"
      walk_at "c0"
      refine ⟨z, ⟨rfl, rfl⟩, ?_⟩
      walk_at "w"
      refine ⟨fun _ => ?_, fun h => (by cases h)⟩
      walk_at "w"
      simpa using hk
    · exfalso
      simp at h
      exact ht h
  · -- check_list
    subst hw
    walk_at "w"
    walk_at "c0"
    refine ⟨0, a, b, i, ⟨rfl, rfl⟩, w0, w1, ha, hb, ?_⟩
    rw [hr]
    walk_at "w"
    refine wpS_if (asked_test ⟨fun h => (by cases h), fun _ => ?_⟩)
    walk_at "w"
    refine ⟨fun h => absurd h (by decide), fun _ => ?_⟩
    walk_at "w"
    refine ⟨fun _ => ?_, fun h => absurd h (by decide)⟩
    walk_at "wr"
    exact hk
  · -- swap_at
    obtain ⟨i0, i1⟩ := resW_01 hw hr
    subst hw
    walk_at "w"
    walk_at "c0"
    refine ⟨1, a, b, i, ⟨rfl, rfl⟩, w0, w1, ha, hb, ?_⟩
    rw [hr]
    walk_at "w"
    refine wpS_if (asked_test ⟨fun h => (by cases h), fun _ => ?_⟩)
    walk_at "w"
    refine ⟨fun h => absurd h (by decide), fun _ => ?_⟩
    walk_at "w"
    refine ⟨fun h => absurd h (by decide), fun _ => ?_⟩
    walk_at "w"
    refine wpS_seq ?_
    walk_at "w"
    refine ⟨fun _ => ?_, fun h => absurd h (by decide)⟩
    walk_at "w"
    walk_at "c1"
    walk_at "c0"
    refine ⟨a, i, ⟨rfl, rfl⟩, i0, i1, ?_⟩
    walk_at "w"
    refine ⟨0, _, _, _, rfl, ⟨_, _, ⟨rfl, rfl⟩, by rw [exch_len]; omega, ⟨[], _, rfl, ?_⟩⟩⟩
    walk_at "w"
    refine ⟨fun h => (by cases h), fun _ => ?_⟩
    walk_at "w"
    refine ⟨⟨_, seq_m (i := 0) rfl⟩, ?_⟩
    walk_at "w"
    refine wpM_appendI (j := 0) rfl (by rw [exch_len]; omega) ?_
    refine wpS_subO (O' := []) (by simp) ?_
    walk_at "wr"
    refine wpR_eqLd view_self view_self ?_
    simpa using hk
  · -- differing_pairs
    subst hw
    obtain ⟨hna, hp⟩ := resW_2 (by decide) (by decide) hr
    walk_at "w"
    walk_at "c0"
    refine ⟨2, a, b, i, ⟨rfl, rfl⟩, w0, w1, ha, hb, ?_⟩
    rw [hr]
    walk_at "w"
    refine wpS_if (asked_test ⟨fun h => (by cases h), fun _ => ?_⟩)
    walk_at "w"
    refine ⟨fun h => absurd h (by decide), fun _ => ?_⟩
    walk_at "w"
    refine ⟨fun h => absurd h (by decide), fun _ => ?_⟩
    walk_at "w"
    refine wpS_seq ?_
    walk_at "w"
    refine ⟨fun h => absurd h (by decide), fun _ => ?_⟩
    walk_at "w"
    refine ⟨fun _ => ?_, fun h => absurd h (by decide)⟩
    walk_at "wr"
    walk_at "c0"
    walk_at "c0"
    refine ⟨a, b, ⟨rfl, rfl⟩, by omega, hp, ?_⟩
    walk_at "w"
    refine ⟨diffs a b, ⟨rfl, rfl⟩, ?_, hk⟩
    rw [(diffs_perm hna).length_eq, ppr_len]
    refine Nat.le_trans (invN_le _) ?_
    rw [List.length_map]
    exact Nat.le_trans (Nat.mul_le_mul hal hal) (by decide)
  · -- straight_swaps
    subst hw
    obtain ⟨hna, hp⟩ := resW_2 (by decide) (by decide) hr
    walk_at "w"
    walk_at "c0"
    refine ⟨3, a, b, i, ⟨rfl, rfl⟩, w0, w1, ha, hb, ?_⟩
    rw [hr]
    walk_at "w"
    refine wpS_if (asked_test ⟨fun h => (by cases h), fun _ => ?_⟩)
    walk_at "w"
    refine ⟨fun h => absurd h (by decide), fun _ => ?_⟩
    walk_at "w"
    refine ⟨fun h => absurd h (by decide), fun _ => ?_⟩
    walk_at "w"
    refine wpS_seq ?_
    walk_at "w"
    refine ⟨fun h => absurd h (by decide), fun _ => ?_⟩
    walk_at "w"
    refine ⟨fun h => absurd h (by decide), fun _ => ?_⟩
    walk_at "wr"
    walk_at "c0"
    exact ⟨a, b, sw, ⟨rfl, rfl⟩, by omega, hna, hp, hg, hk⟩
end
section
variable {K : PySem.W.Frag} {W : WX} {ds : List D} {O : Ow} {k : Kk} {x : Xk}
theorem w_law (h : sp_law K ds O k x) (lo : ∀ p ∈ O, p.loc = false) : wpS K W (fun e _ O' => x e O') (t_law K W) (startD N_law.length ds) O { nx := fun _ O' => k .non O', rt := k } := by
  obtain ⟨ns, ⟨rfl, rfl⟩, hl, hk⟩ := h
  unfold t_law
  walk_at "start"
  walk_at "w"
  walk_at "c0"
  refine ⟨ns, ⟨rfl, rfl⟩, hl, fun c d hB => ?_⟩
  walk_at "w"
  walk_at "c1"
  refine ⟨0, _, _, _, rfl, ⟨_, _, _, ⟨rfl, rfl⟩, hB, by omega, by omega, fun n d n0 n1 hB => ⟨[], _, rfl, ?_⟩⟩⟩
  walk_at "w"
  refine wpS_mid (fun G O => ∃ (n : Int) (d : D), G = [some (.kl (ns.map D.int)), some (.mut c), some (.int n), none, none, none, none, none, none, none] ∧ O = [⟨c, true, d⟩] ∧ Bx d ∧ 0 ≤ n ∧ n ≤ 12) ?_ ?_
  · walk_at "w"
    walk_at "c1"
    refine ⟨0, _, _, _, rfl, ⟨_, _, _, ⟨rfl, rfl⟩, hB, by omega, by omega, fun u d u0 u1 hB => ⟨[], _, rfl, ?_⟩⟩⟩
    walk_at "w"
    refine ⟨fun h => ?_, fun h => ?_⟩
    · walk_at "w"
      walk_at "c1"
      refine ⟨0, _, _, _, rfl, ⟨_, _, _, ⟨rfl, rfl⟩, hB, by omega, by omega, fun u d u0 u1 hB => ⟨[], _, rfl, ?_⟩⟩⟩
      walk_at "w"
      exact ⟨_, _, rfl, rfl, hB, u0, by omega⟩
    · walk_at "w"
      exact ⟨_, _, rfl, rfl, hB, n0, by omega⟩
  intro G O h
  obtain ⟨n, d, rfl, rfl, hB, n0, n1⟩ := h
  walk_at "w"
  walk_at "c1"
  walk_at "c1"
  refine ⟨0, _, _, _, rfl, ⟨_, _, _, ⟨rfl, rfl⟩, hB, n0, n1, fun ks d hB hkl hkn hkb => ⟨[], _, rfl, ?_⟩⟩⟩
  walk_at "w"
  refine ⟨0, _, _, _, rfl, ⟨_, _, _, ⟨rfl, rfl⟩, hB, by omega, hkn, hkb, fun fs d hB hfl hfb => ⟨[], _, rfl, ?_⟩⟩⟩
  have hf : Sm fs := ⟨by omega, fun z hz => by have := hfb z hz; omega⟩
  walk_at "w"
  walk_at "c1"
  refine ⟨0, _, _, _, rfl, ⟨_, _, _, ⟨rfl, rfl⟩, hB, hf, fun ss d hB hs => ⟨[], _, rfl, ?_⟩⟩⟩
  walk_at "w"
  walk_at "c1"
  refine ⟨0, _, _, _, rfl, ⟨_, _, _, ⟨rfl, rfl⟩, hB, hf, fun nr d hB hn => ⟨[], _, rfl, ?_⟩⟩⟩
  walk_at "w"
  walk_at "c1"
  refine ⟨0, _, _, _, rfl, ⟨_, _, _, ⟨rfl, rfl⟩, hB, hs, fun fr d hB hr => ⟨[], _, rfl, ?_⟩⟩⟩
  walk_at "w"
  walk_at "c1"
  refine ⟨0, _, _, _, rfl, ⟨_, _, _, ⟨rfl, rfl⟩, hB, by omega, by omega, fun ix d ix0 ix1 hB => ⟨[], _, rfl, ?_⟩⟩⟩
  walk_at "w"
  refine wpS_seq ?_
  refine wpS_forA (List.range 4) (fun i => .int (0 + (i : Int))) (fun i G O => ∃ q8, G = [some (.kl (ns.map D.int)), some (.mut c), some (.int n), some (L fs), some (L ss), some (L nr), some (L fr), some (.int (ix - 20)), q8, none] ∧ O = [⟨c, true, d⟩]) ?_
  walk_at "w"
  refine ⟨⟨by omega, by omega⟩, rfl, ⟨none, rfl, rfl⟩, fun _ _ _ _ _ => trivial, ?_, ?_⟩
  · intro i j G O hij hI
    obtain ⟨rfl, hi⟩ := range_get hij
    obtain ⟨q8, rfl, rfl⟩ := hI
    walk_at "w"
    refine wpS_ite false ?_ (fun h => (by cases h)) fun _ => ?_
    · refine wpT_or ?_
      walk_at "w"
      walk_at "c0"
      refine ⟨_, fs, ss, ix - 20, ⟨rfl, rfl⟩, by omega, by omega, hf, hs, ?_⟩
      walk_at "w"
      refine ⟨fun h => (by cases h), fun _ => ?_⟩
      walk_at "w"
      walk_at "c0"
      refine ⟨_, ss, fs, ix - 20, ⟨rfl, rfl⟩, by omega, by omega, hs, hf, ?_⟩
      walk_at "w"
      exact ⟨rfl, rfl⟩
    walk_at "w"
    refine wpS_ite false ?_ (fun h => (by cases h)) fun _ => ?_
    · refine wpT_or ?_
      walk_at "w"
      walk_at "c0"
      refine ⟨_, nr, ss, ix - 20, ⟨rfl, rfl⟩, by omega, by omega, hn, hs, ?_⟩
      walk_at "w"
      refine ⟨fun h => (by cases h), fun _ => ?_⟩
      walk_at "w"
      walk_at "c0"
      refine ⟨_, fs, fr, ix - 20, ⟨rfl, rfl⟩, by omega, by omega, hf, hr, ?_⟩
      walk_at "w"
      exact ⟨rfl, rfl⟩
    walk_at "w"
    refine wpS_ite false ?_ (fun h => (by cases h)) fun _ => ?_
    · refine wpT_or ?_
      walk_at "w"
      walk_at "c0"
      refine ⟨_, nr, fr, ix - 20, ⟨rfl, rfl⟩, by omega, by omega, hn, hr, ?_⟩
      walk_at "w"
      refine ⟨fun h => (by cases h), fun _ => ?_⟩
      walk_at "w"
      walk_at "c0"
      refine ⟨_, fr, nr, ix - 20, ⟨rfl, rfl⟩, by omega, by omega, hr, hn, ?_⟩
      walk_at "w"
      exact ⟨rfl, rfl⟩
    walk_at "w"
  intro G O hI
  obtain ⟨q8, rfl, rfl⟩ := hI
  refine wpS_seq ?_
  refine wpS_forA (List.range (n + 3).toNat) (fun i => .int (0 + (i : Int))) (fun i G O => ∃ q9, G = [some (.kl (ns.map D.int)), some (.mut c), some (.int n), some (L fs), some (L ss), some (L nr), some (L fr), some (.int (ix - 20)), q8, q9] ∧ O = [⟨c, true, d⟩]) ?_
  walk_at "w"
  refine ⟨⟨by omega, by omega⟩, rfl, ⟨none, rfl, rfl⟩, fun _ _ _ _ _ => trivial, ?_, ?_⟩
  · intro i j G O hij hI
    obtain ⟨rfl, hi⟩ := range_get hij
    obtain ⟨q9, rfl, rfl⟩ := hI
    walk_at "w"
    walk_at "c0"
    refine ⟨1, fs, ss, _, ⟨rfl, rfl⟩, by omega, by omega, hf, hs, ?_⟩
    walk_at "w"
    refine ⟨fun h => (by cases h), fun _ => ?_⟩
    walk_at "w"
  intro G O hI
  obtain ⟨q9, rfl, rfl⟩ := hI
  walk_at "wr"
  walk_at "c0"
  refine ⟨2, fs, fs, 0, ⟨rfl, rfl⟩, by omega, by omega, hf, hf, ?_⟩
  walk_at "w"
  refine ⟨fun _ => ?_, fun h => (by cases h)⟩
  refine wpE_subO (O' := []) (by simp) ?_
  walk_at "c0"
  refine ⟨3, ss, ss, 0, ⟨rfl, rfl⟩, by omega, by omega, hs, hs, ?_⟩
  walk_at "w"
  exact hk
end
end K06
namespace K06
open PySem PySem.Spec L2 PyD
theorem law_ok {K : PySem.W.Frag} {ns : List Int} (hn : ns.length ≤ 63) (hb : ∀ z ∈ ns, Builtin.Int.intBits z ≤ 1048576) : sp_law K [.kl (ns.map D.int)] [] (fun d _ => d = .bl true) (fun _ _ => False) := ⟨ns, ⟨rfl, rfl⟩, hn, rfl⟩
end K06
namespace K06
open PySem PySem.Spec L2 PyD PyT PyE PyH PyProof.Rows
theorem okL {P : Program} {w : World} {K : PySem.W.Frag} {mg : Str → Option Value} {base : Heap} (T : TX P K mg) {fd : FuncData} (F : FunD K "law" "law" (defArgs s_law) (defBody s_law) (defScope s_law) [] [] (He.ga K "law") fd) :
    FnOk P w K mg base (L2.CX P w) 7 (He.ga K "law") fd ["_law_script"] (toSp K (sp_law K)) := by
  have F_first_wrong_place : FE P w K mg base 1 "first_wrong_place" ["order"] [] (toSp K (sp_first_wrong_place K)) := ok_first_wrong_place T (fun ds O k x h => by first | (obtain ⟨_, ⟨rfl, rfl⟩, _⟩ := h; rfl) | (obtain ⟨_, _, ⟨rfl, rfl⟩, _⟩ := h; rfl) | (obtain ⟨_, _, _, ⟨rfl, rfl⟩, _⟩ := h; rfl) | (obtain ⟨_, _, _, _, ⟨rfl, rfl⟩, _⟩ := h; rfl) | (obtain ⟨_, _, _, _, _, ⟨rfl, rfl⟩, _⟩ := h; rfl) | (obtain ⟨_, _, _, _, _, _, ⟨rfl, rfl⟩, _⟩ := h; rfl)) (fun W ds O k x h lo => w_first_wrong_place h lo)
  have F_check_list : FE P w K mg base 2 "check_list" ["order"] [] (toSp K (sp_check_list K)) := ok_check_list T F_first_wrong_place (fun ds O k x h => by first | (obtain ⟨_, ⟨rfl, rfl⟩, _⟩ := h; rfl) | (obtain ⟨_, _, ⟨rfl, rfl⟩, _⟩ := h; rfl) | (obtain ⟨_, _, _, ⟨rfl, rfl⟩, _⟩ := h; rfl) | (obtain ⟨_, _, _, _, ⟨rfl, rfl⟩, _⟩ := h; rfl) | (obtain ⟨_, _, _, _, _, ⟨rfl, rfl⟩, _⟩ := h; rfl) | (obtain ⟨_, _, _, _, _, _, ⟨rfl, rfl⟩, _⟩ := h; rfl)) (fun W ds O k x h lo => w_check_list h lo)
  have F_require_same : FE P w K mg base 2 "require_same" ["first", "second"] [] (toSp K (sp_require_same K)) := ok_require_same T (fun ds O k x h => by first | (obtain ⟨_, ⟨rfl, rfl⟩, _⟩ := h; rfl) | (obtain ⟨_, _, ⟨rfl, rfl⟩, _⟩ := h; rfl) | (obtain ⟨_, _, _, ⟨rfl, rfl⟩, _⟩ := h; rfl) | (obtain ⟨_, _, _, _, ⟨rfl, rfl⟩, _⟩ := h; rfl) | (obtain ⟨_, _, _, _, _, ⟨rfl, rfl⟩, _⟩ := h; rfl) | (obtain ⟨_, _, _, _, _, _, ⟨rfl, rfl⟩, _⟩ := h; rfl)) (fun W ds O k x h lo => w_require_same h lo)
  have F__check_two : FE P w K mg base 3 "_check_two" ["first", "second"] [] (toSp K (sp__check_two K)) := ok__check_two T F_check_list F_require_same (fun ds O k x h => by first | (obtain ⟨_, ⟨rfl, rfl⟩, _⟩ := h; rfl) | (obtain ⟨_, _, ⟨rfl, rfl⟩, _⟩ := h; rfl) | (obtain ⟨_, _, _, ⟨rfl, rfl⟩, _⟩ := h; rfl) | (obtain ⟨_, _, _, _, ⟨rfl, rfl⟩, _⟩ := h; rfl) | (obtain ⟨_, _, _, _, _, ⟨rfl, rfl⟩, _⟩ := h; rfl) | (obtain ⟨_, _, _, _, _, _, ⟨rfl, rfl⟩, _⟩ := h; rfl)) (fun W ds O k x h lo => w__check_two h lo)
  have F_index_of : FE P w K mg base 1 "index_of" ["order"] [] (toSp K (sp_index_of K)) := ok_index_of T (fun ds O k x h => by first | (obtain ⟨_, ⟨rfl, rfl⟩, _⟩ := h; rfl) | (obtain ⟨_, _, ⟨rfl, rfl⟩, _⟩ := h; rfl) | (obtain ⟨_, _, _, ⟨rfl, rfl⟩, _⟩ := h; rfl) | (obtain ⟨_, _, _, _, ⟨rfl, rfl⟩, _⟩ := h; rfl) | (obtain ⟨_, _, _, _, _, ⟨rfl, rfl⟩, _⟩ := h; rfl) | (obtain ⟨_, _, _, _, _, _, ⟨rfl, rfl⟩, _⟩ := h; rfl)) (fun W ds O k x h lo => w_index_of h lo)
  have F_differing_pairs : FE P w K mg base 4 "differing_pairs" ["first", "second"] [] (toSp K (sp_differing_pairs K)) := ok_differing_pairs T F__check_two F_index_of (fun ds O k x h => by first | (obtain ⟨_, ⟨rfl, rfl⟩, _⟩ := h; rfl) | (obtain ⟨_, _, ⟨rfl, rfl⟩, _⟩ := h; rfl) | (obtain ⟨_, _, _, ⟨rfl, rfl⟩, _⟩ := h; rfl) | (obtain ⟨_, _, _, _, ⟨rfl, rfl⟩, _⟩ := h; rfl) | (obtain ⟨_, _, _, _, _, ⟨rfl, rfl⟩, _⟩ := h; rfl) | (obtain ⟨_, _, _, _, _, _, ⟨rfl, rfl⟩, _⟩ := h; rfl)) (fun W ds O k x h lo => w_differing_pairs h lo)
  have F_straight_swaps : FE P w K mg base 4 "straight_swaps" ["first", "second"] [] (toSp K (sp_straight_swaps K)) := ok_straight_swaps T F__check_two F_index_of (fun ds O k x h => by first | (obtain ⟨_, ⟨rfl, rfl⟩, _⟩ := h; rfl) | (obtain ⟨_, _, ⟨rfl, rfl⟩, _⟩ := h; rfl) | (obtain ⟨_, _, _, ⟨rfl, rfl⟩, _⟩ := h; rfl) | (obtain ⟨_, _, _, _, ⟨rfl, rfl⟩, _⟩ := h; rfl) | (obtain ⟨_, _, _, _, _, ⟨rfl, rfl⟩, _⟩ := h; rfl) | (obtain ⟨_, _, _, _, _, _, ⟨rfl, rfl⟩, _⟩ := h; rfl)) (fun W ds O k x h lo => w_straight_swaps h lo)
  have F_swap_at : FE P w K mg base 3 "swap_at" ["order", "index"] [] (toSp K (sp_swap_at K)) := ok_swap_at T F_check_list (fun ds O k x h => by first | (obtain ⟨_, ⟨rfl, rfl⟩, _⟩ := h; rfl) | (obtain ⟨_, _, ⟨rfl, rfl⟩, _⟩ := h; rfl) | (obtain ⟨_, _, _, ⟨rfl, rfl⟩, _⟩ := h; rfl) | (obtain ⟨_, _, _, _, ⟨rfl, rfl⟩, _⟩ := h; rfl) | (obtain ⟨_, _, _, _, _, ⟨rfl, rfl⟩, _⟩ := h; rfl) | (obtain ⟨_, _, _, _, _, _, ⟨rfl, rfl⟩, _⟩ := h; rfl)) (fun W ds O k x h lo => w_swap_at h lo)
  have F__law_ask : FE P w K mg base 5 "_law_ask" ["_law_way", "_law_first", "_law_second_here", "_law_index"] [] (toSp K (sp__law_ask K)) := ok__law_ask T F_check_list F_differing_pairs F_straight_swaps F_swap_at (fun ds O k x h => by first | (obtain ⟨_, ⟨rfl, rfl⟩, _⟩ := h; rfl) | (obtain ⟨_, _, ⟨rfl, rfl⟩, _⟩ := h; rfl) | (obtain ⟨_, _, _, ⟨rfl, rfl⟩, _⟩ := h; rfl) | (obtain ⟨_, _, _, _, ⟨rfl, rfl⟩, _⟩ := h; rfl) | (obtain ⟨_, _, _, _, _, ⟨rfl, rfl⟩, _⟩ := h; rfl) | (obtain ⟨_, _, _, _, _, _, ⟨rfl, rfl⟩, _⟩ := h; rfl)) (fun W ds O k x h lo => w__law_ask T h lo)
  have F__law_differing : FE P w K mg base 1 "_law_differing" ["_law_first", "_law_second_here"] [] (toSp K (sp__law_differing K)) := ok__law_differing T (fun ds O k x h => by first | (obtain ⟨_, ⟨rfl, rfl⟩, _⟩ := h; rfl) | (obtain ⟨_, _, ⟨rfl, rfl⟩, _⟩ := h; rfl) | (obtain ⟨_, _, _, ⟨rfl, rfl⟩, _⟩ := h; rfl) | (obtain ⟨_, _, _, _, ⟨rfl, rfl⟩, _⟩ := h; rfl) | (obtain ⟨_, _, _, _, _, ⟨rfl, rfl⟩, _⟩ := h; rfl) | (obtain ⟨_, _, _, _, _, _, ⟨rfl, rfl⟩, _⟩ := h; rfl)) (fun W ds O k x h lo => w__law_differing h lo)
  have F__law_unlike : FE P w K mg base 1 "_law_unlike" ["_law_first", "_law_second_here"] [] (toSp K (sp__law_unlike K)) := ok__law_unlike T (fun ds O k x h => by first | (obtain ⟨_, ⟨rfl, rfl⟩, _⟩ := h; rfl) | (obtain ⟨_, _, ⟨rfl, rfl⟩, _⟩ := h; rfl) | (obtain ⟨_, _, _, ⟨rfl, rfl⟩, _⟩ := h; rfl) | (obtain ⟨_, _, _, _, ⟨rfl, rfl⟩, _⟩ := h; rfl) | (obtain ⟨_, _, _, _, _, ⟨rfl, rfl⟩, _⟩ := h; rfl) | (obtain ⟨_, _, _, _, _, _, ⟨rfl, rfl⟩, _⟩ := h; rfl)) (fun W ds O k x h lo => w__law_unlike h lo)
  have F__law_wrong : FE P w K mg base 1 "_law_wrong" ["_law_order_here"] [] (toSp K (sp__law_wrong K)) := ok__law_wrong T (fun ds O k x h => by first | (obtain ⟨_, ⟨rfl, rfl⟩, _⟩ := h; rfl) | (obtain ⟨_, _, ⟨rfl, rfl⟩, _⟩ := h; rfl) | (obtain ⟨_, _, _, ⟨rfl, rfl⟩, _⟩ := h; rfl) | (obtain ⟨_, _, _, _, ⟨rfl, rfl⟩, _⟩ := h; rfl) | (obtain ⟨_, _, _, _, _, ⟨rfl, rfl⟩, _⟩ := h; rfl) | (obtain ⟨_, _, _, _, _, _, ⟨rfl, rfl⟩, _⟩ := h; rfl)) (fun W ds O k x h lo => w__law_wrong h lo)
  have F__law_due : FE P w K mg base 2 "_law_due" ["_law_way", "_law_first", "_law_second_here", "_law_index"] [] (toSp K (sp__law_due K)) := ok__law_due T F__law_unlike F__law_wrong (fun ds O k x h => by first | (obtain ⟨_, ⟨rfl, rfl⟩, _⟩ := h; rfl) | (obtain ⟨_, _, ⟨rfl, rfl⟩, _⟩ := h; rfl) | (obtain ⟨_, _, _, ⟨rfl, rfl⟩, _⟩ := h; rfl) | (obtain ⟨_, _, _, _, ⟨rfl, rfl⟩, _⟩ := h; rfl) | (obtain ⟨_, _, _, _, _, ⟨rfl, rfl⟩, _⟩ := h; rfl) | (obtain ⟨_, _, _, _, _, _, ⟨rfl, rfl⟩, _⟩ := h; rfl)) (fun W ds O k x h lo => w__law_due h lo)
  have F__law_exchanged : FE P w K mg base 1 "_law_exchanged" ["_law_order_here", "_law_place"] [] (toSp K (sp__law_exchanged K)) := ok__law_exchanged T (fun ds O k x h => by first | (obtain ⟨_, ⟨rfl, rfl⟩, _⟩ := h; rfl) | (obtain ⟨_, _, ⟨rfl, rfl⟩, _⟩ := h; rfl) | (obtain ⟨_, _, _, ⟨rfl, rfl⟩, _⟩ := h; rfl) | (obtain ⟨_, _, _, _, ⟨rfl, rfl⟩, _⟩ := h; rfl) | (obtain ⟨_, _, _, _, _, ⟨rfl, rfl⟩, _⟩ := h; rfl) | (obtain ⟨_, _, _, _, _, _, ⟨rfl, rfl⟩, _⟩ := h; rfl)) (fun W ds O k x h lo => w__law_exchanged h lo)
  have F__law_int : FE P w K mg base 1 "_law_int" ["_law_value"] [] (toSp K (sp__law_int K)) := ok__law_int T (fun ds O k x h => by first | (obtain ⟨_, ⟨rfl, rfl⟩, _⟩ := h; rfl) | (obtain ⟨_, _, ⟨rfl, rfl⟩, _⟩ := h; rfl) | (obtain ⟨_, _, _, ⟨rfl, rfl⟩, _⟩ := h; rfl) | (obtain ⟨_, _, _, _, ⟨rfl, rfl⟩, _⟩ := h; rfl) | (obtain ⟨_, _, _, _, _, ⟨rfl, rfl⟩, _⟩ := h; rfl) | (obtain ⟨_, _, _, _, _, _, ⟨rfl, rfl⟩, _⟩ := h; rfl)) (fun W ds O k x h lo => w__law_int h lo)
  have F__law_ints : FE P w K mg base 2 "_law_ints" ["_law_told", "_law_due_here"] [] (toSp K (sp__law_ints K)) := ok__law_ints T F__law_int (fun ds O k x h => by first | (obtain ⟨_, ⟨rfl, rfl⟩, _⟩ := h; rfl) | (obtain ⟨_, _, ⟨rfl, rfl⟩, _⟩ := h; rfl) | (obtain ⟨_, _, _, ⟨rfl, rfl⟩, _⟩ := h; rfl) | (obtain ⟨_, _, _, _, ⟨rfl, rfl⟩, _⟩ := h; rfl) | (obtain ⟨_, _, _, _, _, ⟨rfl, rfl⟩, _⟩ := h; rfl) | (obtain ⟨_, _, _, _, _, _, ⟨rfl, rfl⟩, _⟩ := h; rfl)) (fun W ds O k x h lo => w__law_ints h lo)
  have F__law_straight : FE P w K mg base 2 "_law_straight" ["_law_first", "_law_second_here", "_law_told"] [] (toSp K (sp__law_straight K)) := ok__law_straight T F__law_differing F__law_exchanged F__law_int (fun ds O k x h => by first | (obtain ⟨_, ⟨rfl, rfl⟩, _⟩ := h; rfl) | (obtain ⟨_, _, ⟨rfl, rfl⟩, _⟩ := h; rfl) | (obtain ⟨_, _, _, ⟨rfl, rfl⟩, _⟩ := h; rfl) | (obtain ⟨_, _, _, _, ⟨rfl, rfl⟩, _⟩ := h; rfl) | (obtain ⟨_, _, _, _, _, ⟨rfl, rfl⟩, _⟩ := h; rfl) | (obtain ⟨_, _, _, _, _, _, ⟨rfl, rfl⟩, _⟩ := h; rfl)) (fun W ds O k x h lo => w__law_straight h lo)
  have F__law_tuple : FE P w K mg base 2 "_law_tuple" ["_law_told", "_law_due_here"] [] (toSp K (sp__law_tuple K)) := ok__law_tuple T F__law_int (fun ds O k x h => by first | (obtain ⟨_, ⟨rfl, rfl⟩, _⟩ := h; rfl) | (obtain ⟨_, _, ⟨rfl, rfl⟩, _⟩ := h; rfl) | (obtain ⟨_, _, _, ⟨rfl, rfl⟩, _⟩ := h; rfl) | (obtain ⟨_, _, _, _, ⟨rfl, rfl⟩, _⟩ := h; rfl) | (obtain ⟨_, _, _, _, _, ⟨rfl, rfl⟩, _⟩ := h; rfl) | (obtain ⟨_, _, _, _, _, _, ⟨rfl, rfl⟩, _⟩ := h; rfl)) (fun W ds O k x h lo => w__law_tuple h lo)
  have F__law_tuples : FE P w K mg base 3 "_law_tuples" ["_law_told", "_law_due_here"] [] (toSp K (sp__law_tuples K)) := ok__law_tuples T F__law_tuple (fun ds O k x h => by first | (obtain ⟨_, ⟨rfl, rfl⟩, _⟩ := h; rfl) | (obtain ⟨_, _, ⟨rfl, rfl⟩, _⟩ := h; rfl) | (obtain ⟨_, _, _, ⟨rfl, rfl⟩, _⟩ := h; rfl) | (obtain ⟨_, _, _, _, ⟨rfl, rfl⟩, _⟩ := h; rfl) | (obtain ⟨_, _, _, _, _, ⟨rfl, rfl⟩, _⟩ := h; rfl) | (obtain ⟨_, _, _, _, _, _, ⟨rfl, rfl⟩, _⟩ := h; rfl)) (fun W ds O k x h lo => w__law_tuples h lo)
  have F__law_asked : FE P w K mg base 6 "_law_asked" ["_law_way", "_law_first", "_law_second_here", "_law_index"] [] (toSp K (sp__law_asked K)) := ok__law_asked T F__law_ask F__law_differing F__law_due F__law_exchanged F__law_int F__law_ints F__law_straight F__law_tuples (fun ds O k x h => by first | (obtain ⟨_, ⟨rfl, rfl⟩, _⟩ := h; rfl) | (obtain ⟨_, _, ⟨rfl, rfl⟩, _⟩ := h; rfl) | (obtain ⟨_, _, _, ⟨rfl, rfl⟩, _⟩ := h; rfl) | (obtain ⟨_, _, _, _, ⟨rfl, rfl⟩, _⟩ := h; rfl) | (obtain ⟨_, _, _, _, _, ⟨rfl, rfl⟩, _⟩ := h; rfl) | (obtain ⟨_, _, _, _, _, _, ⟨rfl, rfl⟩, _⟩ := h; rfl)) (fun W ds O k x h lo => w__law_asked h lo)
  have F__law_take : FE P w K mg base 1 "_law_take" ["_law_box_here", "_law_size"] [] (toSp K (sp__law_take K)) := ok__law_take T (fun ds O k x h => by first | (obtain ⟨_, ⟨rfl, rfl⟩, _⟩ := h; rfl) | (obtain ⟨_, _, ⟨rfl, rfl⟩, _⟩ := h; rfl) | (obtain ⟨_, _, _, ⟨rfl, rfl⟩, _⟩ := h; rfl) | (obtain ⟨_, _, _, _, ⟨rfl, rfl⟩, _⟩ := h; rfl) | (obtain ⟨_, _, _, _, _, ⟨rfl, rfl⟩, _⟩ := h; rfl) | (obtain ⟨_, _, _, _, _, _, ⟨rfl, rfl⟩, _⟩ := h; rfl)) (fun W ds O k x h lo => w__law_take h lo)
  have F__law_bent : FE P w K mg base 2 "_law_bent" ["_law_box_here", "_law_order_here"] [] (toSp K (sp__law_bent K)) := ok__law_bent T F__law_take (fun ds O k x h => by first | (obtain ⟨_, ⟨rfl, rfl⟩, _⟩ := h; rfl) | (obtain ⟨_, _, ⟨rfl, rfl⟩, _⟩ := h; rfl) | (obtain ⟨_, _, _, ⟨rfl, rfl⟩, _⟩ := h; rfl) | (obtain ⟨_, _, _, _, ⟨rfl, rfl⟩, _⟩ := h; rfl) | (obtain ⟨_, _, _, _, _, ⟨rfl, rfl⟩, _⟩ := h; rfl) | (obtain ⟨_, _, _, _, _, _, ⟨rfl, rfl⟩, _⟩ := h; rfl)) (fun W ds O k x h lo => w__law_bent h lo)
  have F__law_box : FE P w K mg base 1 "_law_box" ["_law_script"] [] (toSp K (sp__law_box K)) := ok__law_box T (fun ds O k x h => by first | (obtain ⟨_, ⟨rfl, rfl⟩, _⟩ := h; rfl) | (obtain ⟨_, _, ⟨rfl, rfl⟩, _⟩ := h; rfl) | (obtain ⟨_, _, _, ⟨rfl, rfl⟩, _⟩ := h; rfl) | (obtain ⟨_, _, _, _, ⟨rfl, rfl⟩, _⟩ := h; rfl) | (obtain ⟨_, _, _, _, _, ⟨rfl, rfl⟩, _⟩ := h; rfl) | (obtain ⟨_, _, _, _, _, _, ⟨rfl, rfl⟩, _⟩ := h; rfl)) (fun W ds O k x h lo => w__law_box h lo)
  have F__law_order : FE P w K mg base 2 "_law_order" ["_law_box_here", "_law_keys_here"] [] (toSp K (sp__law_order K)) := ok__law_order T F__law_take (fun ds O k x h => by first | (obtain ⟨_, ⟨rfl, rfl⟩, _⟩ := h; rfl) | (obtain ⟨_, _, ⟨rfl, rfl⟩, _⟩ := h; rfl) | (obtain ⟨_, _, _, ⟨rfl, rfl⟩, _⟩ := h; rfl) | (obtain ⟨_, _, _, _, ⟨rfl, rfl⟩, _⟩ := h; rfl) | (obtain ⟨_, _, _, _, _, ⟨rfl, rfl⟩, _⟩ := h; rfl) | (obtain ⟨_, _, _, _, _, _, ⟨rfl, rfl⟩, _⟩ := h; rfl)) (fun W ds O k x h lo => w__law_order h lo)
  have F__law_keys : FE P w K mg base 3 "_law_keys" ["_law_box_here", "_law_count"] [] (toSp K (sp__law_keys K)) := ok__law_keys T F__law_order F__law_take (fun ds O k x h => by first | (obtain ⟨_, ⟨rfl, rfl⟩, _⟩ := h; rfl) | (obtain ⟨_, _, ⟨rfl, rfl⟩, _⟩ := h; rfl) | (obtain ⟨_, _, _, ⟨rfl, rfl⟩, _⟩ := h; rfl) | (obtain ⟨_, _, _, _, ⟨rfl, rfl⟩, _⟩ := h; rfl) | (obtain ⟨_, _, _, _, _, ⟨rfl, rfl⟩, _⟩ := h; rfl) | (obtain ⟨_, _, _, _, _, _, ⟨rfl, rfl⟩, _⟩ := h; rfl)) (fun W ds O k x h lo => w__law_keys h lo)
  have F__law_second : FE P w K mg base 3 "_law_second" ["_law_box_here", "_law_first"] [] (toSp K (sp__law_second K)) := ok__law_second T F__law_exchanged F__law_order F__law_take (fun ds O k x h => by first | (obtain ⟨_, ⟨rfl, rfl⟩, _⟩ := h; rfl) | (obtain ⟨_, _, ⟨rfl, rfl⟩, _⟩ := h; rfl) | (obtain ⟨_, _, _, ⟨rfl, rfl⟩, _⟩ := h; rfl) | (obtain ⟨_, _, _, _, ⟨rfl, rfl⟩, _⟩ := h; rfl) | (obtain ⟨_, _, _, _, _, ⟨rfl, rfl⟩, _⟩ := h; rfl) | (obtain ⟨_, _, _, _, _, _, ⟨rfl, rfl⟩, _⟩ := h; rfl)) (fun W ds O k x h lo => w__law_second h lo)
  have F__law_widened : FE P w K mg base 2 "_law_widened" ["_law_box_here", "_law_keys_here"] [] (toSp K (sp__law_widened K)) := ok__law_widened T F__law_take (fun ds O k x h => by first | (obtain ⟨_, ⟨rfl, rfl⟩, _⟩ := h; rfl) | (obtain ⟨_, _, ⟨rfl, rfl⟩, _⟩ := h; rfl) | (obtain ⟨_, _, _, ⟨rfl, rfl⟩, _⟩ := h; rfl) | (obtain ⟨_, _, _, _, ⟨rfl, rfl⟩, _⟩ := h; rfl) | (obtain ⟨_, _, _, _, _, ⟨rfl, rfl⟩, _⟩ := h; rfl) | (obtain ⟨_, _, _, _, _, _, ⟨rfl, rfl⟩, _⟩ := h; rfl)) (fun W ds O k x h lo => w__law_widened h lo)
  exact ok_law T F__law_asked F__law_bent F__law_box F__law_keys F__law_second F__law_take F__law_widened (fun ds O k x h => by first | (obtain ⟨_, ⟨rfl, rfl⟩, _⟩ := h; rfl) | (obtain ⟨_, _, ⟨rfl, rfl⟩, _⟩ := h; rfl) | (obtain ⟨_, _, _, ⟨rfl, rfl⟩, _⟩ := h; rfl) | (obtain ⟨_, _, _, _, ⟨rfl, rfl⟩, _⟩ := h; rfl) | (obtain ⟨_, _, _, _, _, ⟨rfl, rfl⟩, _⟩ := h; rfl) | (obtain ⟨_, _, _, _, _, _, ⟨rfl, rfl⟩, _⟩ := h; rfl)) (fun W ds O k x h lo => w_law h lo) F
end K06
open PySem PySem.W PySem.Calls PyProof.Rows
theorem PySem.Challenge.cw_quorumdrift_k06_straight_lists_holds : PySem.Challenge.rw_quorumdrift_k06_straight_lists.Holds := by
  w_on; o_law
  refine HandSHeadRun.head_any (r := OpenLaw.row PySem.Challenge.rw_quorumdrift_k06_straight_lists) (q := view (OpenLaw.row PySem.Challenge.rw_quorumdrift_k06_straight_lists).prog [37]) (H := K06.hk) (ob := K06.ob) (M := 3000) (loose := K06.nms) (d := HandSHeadRun.topDef (OpenLaw.row PySem.Challenge.rw_quorumdrift_k06_straight_lists).prog 37) (kwd := []) K06.ob_eq
    (by kernel_rfl) (fun s => by kernel_rfl) K06.run (by kernel_rfl) (by kernel_rfl) (by kernel_rfl) (by rfl) (by first | assumption | decide +kernel) (by decide +kernel) ⟨rfl, rfl, rfl, rfl, rfl, by decide +kernel⟩ ?hw ?hc
  case hw => w_witness2
  case hc =>
    refine PyH.walk_ofEB (l := PySem.Challenge.rw_quorumdrift_k06_straight_lists) (n := 63) (k := 7) (x := "_law_script") (CX := fun w => L2.CX PySem.Challenge.rw_quorumdrift_k06_straight_lists.prog w) rfl (by decide) (by kernel_rfl) ⟨rfl, by decide, by decide⟩ ?F (fun w => PyH.cx_no)
    intro w mg fa h Y G hmg0
    obtain ⟨K, KX, c⟩ := Y
    have hmg : mg ("law" : PySem.Str) = some (.ref fa) := by
      have e : (HandSHeadRun.topDef (OpenLaw.row PySem.Challenge.rw_quorumdrift_k06_straight_lists).prog 37).name = ("law" : PySem.Str) := by kernel_rfl
      rw [← e]
      exact hmg0
    have T : K06.TX PySem.Challenge.rw_quorumdrift_k06_straight_lists.prog K mg := K06.facts KX G c (by kernel_rfl) (by kernel_rfl)
    obtain ⟨fd, F⟩ := T.F_law
    have e := hmg.symm.trans T.g_law
    cases e
    have b := L2.FunD.bindsA (ps := ["_law_script"]) F fun _ _ _ _ _ _ us hl => match us, hl with | [_], _ => rfl
    exact ⟨K, fd, PyD.toSp K (K06.sp_law K), KX, fun s v => b s [v] rfl, fun H a ns hn hb _ hS => PyH.law_sp hS (K06.law_ok hn hb), fun base _ _ => K06.okL T F⟩
