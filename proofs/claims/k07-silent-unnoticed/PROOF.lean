import PyProof.Rows.All
import Wide.All
import OpenK.AllK
import Wide.FinOn
import HandS.ForMost
import HandS.Exc
import HandS.ExcOwn
import HandS.TryOnly
import HandS.TryMany
import HandS.WordsExc
import HandS.ExcField
import HandS.ExcIs
import HandS.DictComp
import HandS.SortInts
import HandS.SortRule
import HandS.IsInst
import HandS.Wide
import HandS.Flow
import HandS.More
import HandS.Deep
import HandS.EndBits
import HandS.CallSlots
import HandS.TupSets
import HandS.ExcSuper
import KE.KExcSuper
import KE.KSuper
import PyProof.FString
import KE.KIsAll
import KE.KTryMore
import KE.KStateDown
import HandS.Base
import HandS.Call
import HandS.Ends
import HandS.Words
import HandS.Defaults
import HandS.Head0
import HandS.Head1
import HandS.Head2
import HandS.HeadEnd
import HandS.HeadHook1
import HandS.HeadHook2
import HandS.OwnEq
import OpenK.KOps
import KE.KOpsOwn
import PyProof.DictCompW
import HandS.Comp
import HandS.SetBool
import HandS.ClsMeth
import HandS.NoneIn
import HandS.Style
import HandS.Codes
import HandS.Iter
import HandS.SetFor
import PyProof.EqKinds
import HandS.Conv
import HandS.SortOrd
import KE.KDictSum
import PyProof.P3In
import PySem.Challenge.RW_quorumdrift_k07_whole_silent_is_unnotice
set_option Elab.async false
set_option linter.all false
set_option maxRecDepth 100000
set_option maxHeartbeats 0
namespace PyD
open PySem PySem.Spec PyProof.Rows L2
/-- data, without addresses but for owned objects (mut) and fixed references (ref) -/
inductive D where
  | non | bl (b : Bool) | int (i : Int) | str (s : Str)
  | lst (xs : List D) | tup (xs : List D) | kl (xs : List D)
  | dK (kvs : List (Key × D)) | dT (kvs : List (List Key × D))
  | ins (C : Addr) (fs : List (Str × D))
  | mut (a : Addr) | ref (a : Addr) | ty (n : String)
  /-- a caught exception: its address, class, own dict, attributes -/
  | exc (a C : Addr) (d : Option Addr) (fs : List (Str × D))
abbrev L (ns : List Int) : D := .lst (ns.map D.int)
section
variable (K : PySem.W.Frag) (F : Hp)
mutual
inductive Rp : D → V → Prop where
  | non : Rp .non .non
  | bl (b : Bool) : Rp (.bl b) (.bl b)
  | int (i : Int) : Rp (.int i) (.int i)
  | str (s : Str) : Rp (.str s) (.str s)
  | ref (a : Addr) : Rp (.ref a) (.ref a)
  | mut (a : Addr) : Rp (.mut a) (.ref a)
  | ty (n : String) : Rp (.ty n) (.ty n)
  | lst {a : Addr} {vs : List V} {ds : List D} : F a = some (.lst vs) → Rps ds vs → Rp (.lst ds) (.ref a)
  | kl {a : Addr} {vs : List V} {ds : List D} : SqL K F a vs → Rps ds vs → Rp (.kl ds) (.ref a)
  | tup {a : Addr} {vs : List V} {ds : List D} : F a = some (.tup vs) → Rps ds vs → Rp (.tup ds) (.ref a)
  | dK {a : Addr} {kvs : List (Key × V)} {kds : List (Key × D)} : Rd F a (.dK kvs) → kds.map (·.1) = kvs.map (·.1) → Rps (kds.map (·.2)) (kvs.map (·.2)) → Rp (.dK kds) (.ref a)
  | dT {a : Addr} {kvs : List (List Key × V)} {kds : List (List Key × D)} : Rd F a (.dT kvs) → kds.map (·.1) = kvs.map (·.1) → Rps (kds.map (·.2)) (kvs.map (·.2)) → Rp (.dT kds) (.ref a)
  | ins {a C dx : Addr} {fs : List (Str × V)} {fds : List (Str × D)} : F a = some (.ins C dx fs) → fds.map (·.1) = fs.map (·.1) → Rps (fds.map (·.2)) (fs.map (·.2)) → Rp (.ins C fds) (.ref a)
  | exc0 (a C : Addr) : Rp (.exc a C none []) (.ref a)
  | exc1 {a C dd : Addr} {fs : List (Str × V)} {fds : List (Str × D)} : F dd = some (.xd fs) → fds.map (·.1) = fs.map (·.1) → Rps (fds.map (·.2)) (fs.map (·.2)) → Rp (.exc a C (some dd) fds) (.ref a)
inductive Rps : List D → List V → Prop where
  | nil : Rps [] []
  | cons {d : D} {ds : List D} {v : V} {vs : List V} : Rp d v → Rps ds vs → Rps (d :: ds) (v :: vs)
end
end
def Ex (H H' : Hp) : Prop := ∀ a o, H a = some o → H' a = some o
theorem Ex.refl (H : Hp) : Ex H H := fun _ _ h => h
theorem Ex.trans {H H1 H2 : Hp} (a : Ex H H1) (b : Ex H1 H2) : Ex H H2 := fun x o h => b x o (a x o h)
theorem Ex.new {H : Hp} {p : Addr} {o : HO} (h : H p = none) : Ex H (upd H p o) := fun a u e => by
  rw [upd_ne (ne_of_none e h)]
  exact e
theorem Ex.none {H H' : Hp} {p : Addr} (e : Ex H H') (h : H' p = none) : H p = none := by
  cases h1 : H p with
  | none => rfl
  | some o =>
    rw [e p o h1] at h
    cases h
theorem ex_d {H H' : Hp} {a : Addr} {u : HO} (e : Ex H H') (h : Rd H a u) : Rd H' a u := by
  rcases h with h | ⟨o, h⟩
  · exact .inl (e a _ h)
  · exact .inr ⟨o, e a _ h⟩
theorem ex_l {K : PySem.W.Frag} {H H' : Hp} {a : Addr} {xs : List V} (e : Ex H H') (h : SqL K H a xs) : SqL K H' a xs := by
  rcases h with (h | ⟨o, h⟩) | h
  · exact .inl (.inl (e a _ h))
  · exact .inl (.inr ⟨o, e a _ h⟩)
  · exact .inr h
theorem ex_t {K : PySem.W.Frag} {H H' : Hp} {a : Addr} {xs : List V} (e : Ex H H') (h : SqT K H a xs) : SqT K H' a xs := by
  rcases h with (h | ⟨o, h⟩) | h
  · exact .inl (.inl (e a _ h))
  · exact .inl (.inr ⟨o, e a _ h⟩)
  · exact .inr h
section
variable {K : PySem.W.Frag} {F F' H H' : Hp}
mutual
theorem Rp.mono (e : Ex F F') : ∀ {d : D} {v : V}, Rp K F d v → Rp K F' d v
  | _, _, .non => .non
  | _, _, .bl b => .bl b
  | _, _, .int i => .int i
  | _, _, .str s => .str s
  | _, _, .ref a => .ref a
  | _, _, .mut a => .mut a
  | _, _, .ty n => .ty n
  | _, _, .lst h r => .lst (e _ _ h) (Rps.mono e r)
  | _, _, .kl h r => .kl (ex_l e h) (Rps.mono e r)
  | _, _, .tup h r => .tup (e _ _ h) (Rps.mono e r)
  | _, _, .dK h k r => .dK (ex_d e h) k (Rps.mono e r)
  | _, _, .dT h k r => .dT (ex_d e h) k (Rps.mono e r)
  | _, _, .ins h k r => .ins (e _ _ h) k (Rps.mono e r)
  | _, _, .exc0 a C => .exc0 a C
  | _, _, .exc1 h k r => .exc1 (e _ _ h) k (Rps.mono e r)
theorem Rps.mono (e : Ex F F') : ∀ {ds : List D} {vs : List V}, Rps K F ds vs → Rps K F' ds vs
  | _, _, .nil => .nil
  | _, _, .cons h r => .cons (Rp.mono e h) (Rps.mono e r)
end
theorem Rps.length : ∀ {ds : List D} {vs : List V}, Rps K F ds vs → ds.length = vs.length
  | _, _, .nil => rfl
  | _, _, .cons _ r => by rw [List.length_cons, List.length_cons, Rps.length r]
theorem Rps.get : ∀ {ds : List D} {vs : List V} {i : Nat} {d : D}, Rps K F ds vs → ds[i]? = some d → ∃ v, vs[i]? = some v ∧ Rp K F d v
  | _, _, i, _, .nil, h => by simp at h
  | _, _, 0, _, .cons a _, h => by
    simp at h
    subst h
    exact ⟨_, rfl, a⟩
  | _, _, i + 1, _, .cons _ r, h => by
    obtain ⟨v, h1, h2⟩ := Rps.get (i := i) r (by simpa using h)
    exact ⟨v, by simpa using h1, h2⟩
theorem Rps.app : ∀ {ds es : List D} {vs ws : List V}, Rps K F ds vs → Rps K F es ws → Rps K F (ds ++ es) (vs ++ ws)
  | _, _, _, _, .nil, s => s
  | _, _, _, _, .cons a r, s => .cons a (Rps.app r s)
theorem Rps.one {d : D} {v : V} (h : Rp K F d v) : Rps K F [d] [v] := .cons h .nil
theorem Rps.set : ∀ {ds : List D} {vs : List V} {d : D} {v : V} (i : Nat), Rps K F ds vs → Rp K F d v → Rps K F (ds.set i d) (vs.set i v)
  | _, _, _, _, _, .nil, _ => .nil
  | _, _, _, _, 0, .cons _ r, h => .cons h r
  | _, _, _, _, i + 1, .cons a r, h => .cons a (Rps.set i r h)
theorem Rps.take : ∀ {ds : List D} {vs : List V} (n : Nat), Rps K F ds vs → Rps K F (ds.take n) (vs.take n)
  | _, _, 0, _ => .nil
  | _, _, _ + 1, .nil => .nil
  | _, _, n + 1, .cons a r => .cons a (Rps.take n r)
theorem Rps.drop : ∀ {ds : List D} {vs : List V} (n : Nat), Rps K F ds vs → Rps K F (ds.drop n) (vs.drop n)
  | _, _, 0, r => r
  | _, _, _ + 1, .nil => .nil
  | _, _, n + 1, .cons _ r => Rps.drop n r
theorem Rps.erase : ∀ {ds : List D} {vs : List V} (i : Nat), Rps K F ds vs → Rps K F (ds.eraseIdx i) (vs.eraseIdx i)
  | _, _, _, .nil => .nil
  | _, _, 0, .cons _ r => r
  | _, _, i + 1, .cons a r => .cons a (Rps.erase i r)
theorem Rps.rev {ds : List D} {vs : List V} (r : Rps K F ds vs) : Rps K F ds.reverse vs.reverse := by
  induction ds generalizing vs with
  | nil => cases r; exact .nil
  | cons d ds ih =>
    cases r with
    | cons a r =>
      rw [List.reverse_cons, List.reverse_cons]
      exact (ih r).app (.one a)
theorem Rps.ints : ∀ {ns : List Int} {vs : List V}, Rps K F (ns.map D.int) vs → vs = ns.map V.int
  | [], _, .nil => rfl
  | n :: ns, _, .cons h r => by
    cases h
    rw [Rps.ints r] <;> rfl
theorem Rps.of_ints : ∀ (ns : List Int), Rps K F (ns.map D.int) (ns.map V.int)
  | [] => .nil
  | n :: ns => .cons (.int n) (Rps.of_ints ns)
theorem Rps.bls : ∀ {ns : List Bool} {vs : List V}, Rps K F (ns.map D.bl) vs → vs = ns.map V.bl
  | [], _, .nil => rfl
  | n :: ns, _, .cons h r => by
    cases h
    rw [Rps.bls r] <;> rfl
end
/-- an owned object: its address, made here or handed in, what it holds -/
structure Ob where
  a : Addr
  loc : Bool
  d : D
def Mu (K : PySem.W.Frag) (F H : Hp) (a : Addr) : D → Prop
  | .lst xs => ∃ vs, H a = some (.lst vs) ∧ Rps K F xs vs
  | .dK kds => ∃ kvs, H a = some (.dK kvs) ∧ kds.map (·.1) = kvs.map (·.1) ∧ Rps K F (kds.map (·.2)) (kvs.map (·.2))
  | .dT kds => ∃ kvs, H a = some (.dT kvs) ∧ kds.map (·.1) = kvs.map (·.1) ∧ Rps K F (kds.map (·.2)) (kvs.map (·.2))
  | .ins C fds => ∃ dx fs, H a = some (.ins C dx fs) ∧ fds.map (·.1) = fs.map (·.1) ∧ Rps K F (fds.map (·.2)) (fs.map (·.2))
  | _ => False
theorem Mu.mono {K : PySem.W.Frag} {F F' H H' : Hp} {a : Addr} {d : D} (h : Mu K F H a d) (e : Ex F F') (k : ∀ o, H a = some o → H' a = some o) : Mu K F' H' a d := by
  cases d <;> first
    | exact h.elim
    | (obtain ⟨vs, h1, h2⟩ := h; exact ⟨vs, k _ h1, h2.mono e⟩)
    | (obtain ⟨vs, h1, h2, h3⟩ := h; exact ⟨vs, k _ h1, h2, h3.mono e⟩)
    | (obtain ⟨dx, vs, h1, h2, h3⟩ := h; exact ⟨dx, vs, k _ h1, h2, h3.mono e⟩)
theorem Mu.some {K : PySem.W.Frag} {F H : Hp} {a : Addr} {d : D} (h : Mu K F H a d) : ∃ o, H a = some o := by
  cases d <;> first
    | exact h.elim
    | (obtain ⟨vs, h1, h2⟩ := h; exact ⟨_, h1⟩)
    | (obtain ⟨vs, h1, h2, h3⟩ := h; exact ⟨_, h1⟩)
    | (obtain ⟨dx, vs, h1, h2, h3⟩ := h; exact ⟨_, h1⟩)
theorem Mu.notup {K : PySem.W.Frag} {F H : Hp} {a : Addr} {d : D} (h : Mu K F H a d) : ∀ vs, H a ≠ Option.some (.tup vs) := fun ws e => by
  cases d <;> first
    | exact h.elim
    | (obtain ⟨vs, h1, h2⟩ := h; rw [h1] at e; cases e)
    | (obtain ⟨dx, vs, h1, h2, h3⟩ := h; rw [h1] at e; cases e)
/-- where a def (or a part of one) was entered -/
structure En0 where
  F : Hp
  H : Hp
  M : List Addr
structure S0 (K : PySem.W.Frag) (Z : En0) (F H : Hp) (O : List Ob) : Prop where
  ex : Ex F H
  frame : ∀ a o, a ∉ Z.M → Z.H a = some o → H a = some o
  fz : ∀ a, Z.H a ≠ none → F a = Z.F a ∨ (Z.F a = none ∧ ∃ vs, F a = some (.tup vs))
  alive : ∀ a ∈ Z.M, H a ≠ none
  own : ∀ p ∈ O, F p.a = none ∧ Mu K F H p.a p.d ∧ (p.loc = true → Z.H p.a = none) ∧ (p.loc = false → p.a ∈ Z.M)
  nd : (O.map Ob.a).Nodup
section
variable {K : PySem.W.Frag} {Z : En0} {F F' H H' : Hp} {O : List Ob}
theorem S0.fresh (S : S0 K Z F H O) {p : Addr} (h : H p = none) : Z.H p = none := by
  cases e : Z.H p with
  | none => rfl
  | some o =>
    by_cases hm : p ∈ Z.M
    · exact absurd h (S.alive p hm)
    · rw [S.frame p o hm e] at h
      cases h
theorem S0.notM (S : S0 K Z F H O) {p : Addr} (h : H p = none) : p ∉ Z.M := fun hm => S.alive p hm h
theorem S0.freshO (S : S0 K Z F H O) {p : Addr} (h : H p = none) : ∀ q ∈ O, q.a ≠ p := fun q hq e => by
  obtain ⟨o, ho⟩ := (S.own q hq).2.1.some
  rw [e, h] at ho
  cases ho
/-- a new object that stays as it is -/
theorem S0.frz (S : S0 K Z F H O) {p : Addr} (o : HO) (h : H p = none) : S0 K Z (upd F p o) (upd H p o) O where
  ex := fun a u e => by
    by_cases hp : a = p
    · subst hp
      rw [upd_same] at e
      rw [upd_same]
      exact e
    · rw [upd_ne hp] at e ⊢
      exact S.ex a u e
  frame := fun a u hm e => by
    have q := S.frame a u hm e
    rw [upd_ne (ne_of_none q h)]
    exact q
  fz := fun a e => by
    have hp : a ≠ p := fun z => by
      subst z
      exact e (S.fresh h)
    rw [upd_ne hp]
    exact S.fz a e
  alive := fun a hm => by
    have hp : a ≠ p := fun z => S.notM h (by rw [← z]; exact hm)
    rw [upd_ne hp]
    exact S.alive a hm
  own := fun q hq => by
    obtain ⟨h1, h2, h3⟩ := S.own q hq
    have hp := S.freshO h q hq
    refine ⟨by rw [upd_ne hp]; exact h1, h2.mono (Ex.new (S.ex.none h)) fun o e => ?_, h3⟩
    rw [upd_ne hp]
    exact e
  nd := S.nd
/-- an object that is not told of -/
theorem S0.junk (S : S0 K Z F H O) {p : Addr} (o : HO) (h : H p = none) : S0 K Z F (upd H p o) O where
  ex := S.ex.trans (Ex.new h)
  frame := fun a u hm e => by
    have q := S.frame a u hm e
    rw [upd_ne (ne_of_none q h)]
    exact q
  fz := S.fz
  alive := fun a hm => by
    have hp : a ≠ p := fun z => S.notM h (by rw [← z]; exact hm)
    rw [upd_ne hp]
    exact S.alive a hm
  own := fun q hq => by
    obtain ⟨h1, h2, h3⟩ := S.own q hq
    have hp := S.freshO h q hq
    refine ⟨h1, h2.mono (Ex.refl _) fun o e => ?_, h3⟩
    rw [upd_ne hp]
    exact e
  nd := S.nd
/-- a new object that is owned -/
theorem S0.new (S : S0 K Z F H O) {p : Addr} (o : HO) (d : D) (h : H p = none) (hm : Mu K F (upd H p o) p d) : S0 K Z F (upd H p o) (⟨p, true, d⟩ :: O) where
  ex := S.ex.trans (Ex.new h)
  frame := (S.junk o h).frame
  fz := S.fz
  alive := (S.junk o h).alive
  own := fun q hq => by
    rcases List.mem_cons.mp hq with rfl | hq
    · exact ⟨S.ex.none h, hm, fun _ => S.fresh h, fun e => by cases e⟩
    · exact (S.junk o h).own q hq
  nd := by
    rw [List.map_cons, List.nodup_cons]
    refine ⟨fun hq => ?_, S.nd⟩
    obtain ⟨q, h1, h2⟩ := List.mem_map.mp hq
    exact S.freshO h q h1 h2
theorem nd_idx {O : List Ob} (nd : (O.map Ob.a).Nodup) {j : Nat} {a : Addr} {b : Bool} {d : D} (hj : O[j]? = some ⟨a, b, d⟩) {q : Ob} (hq : q ∈ O) (e : q.a = a) : q = ⟨a, b, d⟩ := by
  obtain ⟨i, hi, rfl⟩ := List.getElem_of_mem hq
  have h1 : (O.map Ob.a)[i]? = some a := by
    rw [List.getElem?_map, List.getElem?_eq_getElem hi]
    exact congrArg some e
  have h2 : (O.map Ob.a)[j]? = some a := by
    rw [List.getElem?_map, hj]
    rfl
  have e2 := nd_ix nd h1 h2
  subst e2
  rw [List.getElem?_eq_getElem hi] at hj
  exact Option.some.inj hj
theorem map_a_set {O : List Ob} {j : Nat} {a : Addr} {b b' : Bool} {d d' : D} (hj : O[j]? = some ⟨a, b, d⟩) : (O.set j ⟨a, b', d'⟩).map Ob.a = O.map Ob.a := by
  rw [List.map_set]
  apply List.ext_getElem?
  intro i
  by_cases h : j = i
  · subst h
    have hl : j < (O.map Ob.a).length := by
      rw [List.length_map]
      exact (List.getElem?_eq_some_iff.mp hj).1
    rw [List.getElem?_set_self hl, List.getElem?_map, hj]
    rfl
  · rw [List.getElem?_set_ne h]
/-- an owned object is written -/
theorem S0.write (S : S0 K Z F H O) {j : Nat} {a : Addr} {b : Bool} {d d' : D} {o : HO} (hj : O[j]? = some ⟨a, b, d⟩) (hm : Mu K F (upd H a o) a d') : S0 K Z F (upd H a o) (O.set j ⟨a, b, d'⟩) := by
  obtain ⟨h1, h2, h3, h4⟩ := S.own _ (List.mem_of_getElem? hj)
  refine ⟨fun x u e => ?_, fun x u hx e => ?_, S.fz, fun x hx => ?_, fun q hq => ?_, ?_⟩
  · have hx : x ≠ a := fun z => by
      subst z
      rw [h1] at e
      cases e
    rw [upd_ne hx]
    exact S.ex x u e
  · have hxa : x ≠ a := fun z => by
      subst z
      cases b with
      | true => rw [h3 rfl] at e; cases e
      | false => exact hx (h4 rfl)
    rw [upd_ne hxa]
    exact S.frame x u hx e
  · by_cases z : x = a
    · subst z
      rw [upd_same]
      intro q
      cases q
    · rw [upd_ne z]
      exact S.alive x hx
  · rcases List.mem_or_eq_of_mem_set hq with hq | rfl
    · by_cases z : q.a = a
      · have e := nd_idx S.nd hj hq z
        subst e
        have hi : (O.set j ⟨a, b, d'⟩)[j]? = some ⟨a, b, d'⟩ := List.getElem?_set_self (List.getElem?_eq_some_iff.mp hj).1
        have nd2 : ((O.set j ⟨a, b, d'⟩).map Ob.a).Nodup := by rw [map_a_set hj]; exact S.nd
        have e2 := nd_idx nd2 hi (by assumption) rfl
        have e3 : d = d' := congrArg Ob.d e2
        subst e3
        exact ⟨h1, hm, h3, h4⟩
      · obtain ⟨k1, k2, k3⟩ := S.own q hq
        refine ⟨k1, k2.mono (Ex.refl _) fun u e => ?_, k3⟩
        rw [upd_ne z]
        exact e
    · exact ⟨h1, hm, h3, h4⟩
  · rw [map_a_set hj]
    exact S.nd
/-- some of what is owned is let go -/
theorem S0.sub (S : S0 K Z F H O) {O' : List Ob} (h : O'.Sublist O) : S0 K Z F H O' :=
  ⟨S.ex, S.frame, S.fz, S.alive, fun q hq => S.own q (h.subset hq), S.nd.sublist (h.map _)⟩
/-- a tuple that is there can be told -/
theorem S0.tup (S : S0 K Z F H O) {q : Addr} {vs : List V} {ds : List D} (h : H q = some (.tup vs)) (r : Rps K F ds vs) : ∃ F', S0 K Z F' H O ∧ Ex F F' ∧ Rp K F' (.tup ds) (.ref q) := by
  cases e : F q with
  | some o =>
    have e2 := S.ex q o e
    rw [h] at e2
    cases e2
    exact ⟨F, S, Ex.refl F, .tup e r⟩
  | none =>
    refine ⟨upd F q (.tup vs), ⟨fun a u ea => ?_, S.frame, fun a ha => ?_, S.alive, fun p hp => ?_, S.nd⟩, Ex.new e, .tup upd_same (r.mono (Ex.new e))⟩
    · by_cases z : a = q
      · subst z
        rw [upd_same] at ea
        rw [h]
        exact ea
      · rw [upd_ne z] at ea
        exact S.ex a u ea
    · by_cases z : a = q
      · subst z
        rcases S.fz a ha with k | ⟨k, ws, k2⟩
        · exact .inr ⟨by rw [← k]; exact e, vs, upd_same⟩
        · rw [k2] at e
          cases e
      · rw [upd_ne z]
        exact S.fz a ha
    · obtain ⟨k1, k2, k3⟩ := S.own p hp
      have z : p.a ≠ q := fun z => k2.notup vs (by rw [z]; exact h)
      exact ⟨by rw [upd_ne z]; exact k1, k2.mono (Ex.new e) fun _ e => e, k3⟩
/-- what was owned (and made here) stays as it is from now on -/
theorem S0.freeze (S : S0 K Z F H O) {j : Nat} {a : Addr} {d : D} (hj : O[j]? = some ⟨a, true, d⟩) : ∃ F', Ex F F' ∧ S0 K Z F' H (O.eraseIdx j) ∧ Rp K F' d (.ref a) := by
  obtain ⟨h1, h2, h3, _⟩ := S.own _ (List.mem_of_getElem? hj)
  obtain ⟨o, ho⟩ := h2.some
  refine ⟨upd F a o, Ex.new h1, ⟨fun x u e => ?_, S.frame, fun x hx => ?_, S.alive, fun q hq => ?_, S.nd.sublist ((List.eraseIdx_sublist _ _).map _)⟩, ?_⟩
  · by_cases z : x = a
    · subst z
      rw [upd_same] at e
      rw [ho]
      exact e
    · rw [upd_ne z] at e
      exact S.ex x u e
  · have z : x ≠ a := fun z => by
      subst z
      exact hx (h3 rfl)
    rw [upd_ne z]
    exact S.fz x hx
  · obtain ⟨k1, k2, k3⟩ := S.own q ((List.eraseIdx_sublist _ _).subset hq)
    have z : q.a ≠ a := fun z => by
      have e := nd_idx S.nd hj ((List.eraseIdx_sublist _ _).subset hq) z
      subst e
      obtain ⟨i, hi, e⟩ := List.getElem_of_mem hq
      have hjl := (List.getElem?_eq_some_iff.mp hj).1
      have e2 : (O.eraseIdx j)[i]? = some ⟨a, true, d⟩ := by rw [List.getElem?_eq_getElem hi, e]
      rw [List.getElem?_eraseIdx] at e2
      have key : ∀ m : Nat, O[m]? = some ⟨a, true, d⟩ → m = j := fun m hm => nd_ix (l := O.map Ob.a) S.nd (by rw [List.getElem?_map, hm]; rfl) (by rw [List.getElem?_map, hj]; rfl)
      by_cases hij : i < j
      · rw [if_pos hij] at e2
        have := key i e2
        omega
      · rw [if_neg hij] at e2
        have := key (i + 1) e2
        omega
    refine ⟨by rw [upd_ne z]; exact k1, k2.mono (Ex.new h1) fun _ e => e, k3⟩
  · have ea : (upd F a o) a = some o := upd_same
    cases d with
    | lst xs =>
      obtain ⟨vs, e1, e2⟩ := h2
      rw [ho] at e1
      cases e1
      exact .lst ea (e2.mono (Ex.new h1))
    | dK kds =>
      obtain ⟨vs, e1, e2, e3⟩ := h2
      rw [ho] at e1
      cases e1
      exact .dK (.inl ea) e2 (e3.mono (Ex.new h1))
    | dT kds =>
      obtain ⟨vs, e1, e2, e3⟩ := h2
      rw [ho] at e1
      cases e1
      exact .dT (.inl ea) e2 (e3.mono (Ex.new h1))
    | ins C fds =>
      obtain ⟨dx, vs, e1, e2, e3⟩ := h2
      rw [ho] at e1
      cases e1
      exact .ins ea e2 (e3.mono (Ex.new h1))
    | _ => exact h2.elim
end
end PyD
namespace PyD
open PySem PySem.Spec L2
abbrev Gm := List (Option D)
abbrev Ow := List Ob
structure Slots (K : PySem.W.Frag) (F : Hp) (G : Gm) (σ : L2.St) : Prop where
  len : G.length = σ.length
  at_ : ∀ (i : Nat) (d : D), G[i]? = some (some d) → ∃ v : V, σ[i]? = some (some v) ∧ Rp K F d v
section
variable {K : PySem.W.Frag} {F F' : Hp} {G G' : Gm} {σ : L2.St}
theorem Slots.mono (s : Slots K F G σ) (e : Ex F F') : Slots K F' G σ := ⟨s.len, fun i d h => let ⟨v, a, b⟩ := s.at_ i d h; ⟨v, a, b.mono e⟩⟩
theorem Slots.set (s : Slots K F G σ) {i : Nat} {d : D} {v : V} (h : Rp K F d v) : Slots K F (G.set i (some d)) (σ.set i (some v)) := by
  refine ⟨by rw [List.length_set, List.length_set]; exact s.len, fun j e hj => ?_⟩
  by_cases hij : i = j
  · subst hij
    have hl : i < (G.set i (some d)).length := (List.getElem?_eq_some_iff.mp hj).1
    rw [List.length_set] at hl
    rw [List.getElem?_set_self hl] at hj
    cases hj
    rw [List.getElem?_set_self (by rw [← s.len]; exact hl)]
    exact ⟨v, rfl, h⟩
  · rw [List.getElem?_set_ne hij] at hj ⊢
    exact s.at_ j e hj
theorem Slots.unset (s : Slots K F G σ) {i : Nat} {v : Option V} : Slots K F (G.set i none) (σ.set i v) := by
  refine ⟨by rw [List.length_set, List.length_set]; exact s.len, fun j e hj => ?_⟩
  by_cases hij : i = j
  · subst hij
    have hl : i < (G.set i none).length := (List.getElem?_eq_some_iff.mp hj).1
    rw [List.length_set] at hl
    rw [List.getElem?_set_self hl] at hj
    cases hj
  · rw [List.getElem?_set_ne hij] at hj ⊢
    exact s.at_ j e hj
/-- a slot told otherwise (what it holds stays) -/
theorem Slots.re (s : Slots K F G σ) {i : Nat} {d d' : D} (h : G[i]? = some (some d)) (k : ∀ v, Rp K F d v → Rp K F d' v) : Slots K F (G.set i (some d')) σ := by
  refine ⟨by rw [List.length_set]; exact s.len, fun j e hj => ?_⟩
  by_cases hij : i = j
  · subst hij
    have hl : i < (G.set i (some d')).length := (List.getElem?_eq_some_iff.mp hj).1
    rw [List.length_set] at hl
    rw [List.getElem?_set_self hl] at hj
    cases hj
    obtain ⟨v, h1, h2⟩ := s.at_ i d h
    exact ⟨v, h1, k v h2⟩
  · rw [List.getElem?_set_ne hij] at hj
    exact s.at_ j e hj
/-- slots forgotten -/
theorem Slots.weak (s : Slots K F G σ) (hl : G'.length = G.length) (h : ∀ (i : Nat) (d : D), G'[i]? = some (some d) → G[i]? = some (some d)) : Slots K F G' σ := ⟨by rw [hl]; exact s.len, fun i d e => s.at_ i d (h i d e)⟩
end
/-- an exception: its class, its attributes -/
structure Xc where
  cls : Addr
  fs : List (Str × D)
def XR (K : PySem.W.Frag) (F : Hp) (x : Xc) (d : Option Addr) : Prop := ∀ a, Rp K F (.exc a x.cls d x.fs) (.ref a)
abbrev Ek := Xc → Gm → Ow → Prop
def XOk (K : PySem.W.Frag) (Z : En0) (F0 : Hp) (ex : Ek) (W : WX) : Prop := ∀ x d F H σ G O, Ex F0 F → S0 K Z F H O → Slots K F G σ → XR K F x d → ex x G O → W (.ref x.cls) d σ H
theorem XOk.mono {K : PySem.W.Frag} {Z : En0} {F F1 : Hp} {ex : Ek} {W : WX} (X : XOk K Z F ex W) (e : Ex F F1) : XOk K Z F1 ex W := fun x d F' H σ G O a => X x d F' H σ G O (e.trans a)
def wpE (K : PySem.W.Frag) (W : WX) (ex : Ek) (te : TE) (G : Gm) (O : Ow) (P : D → Ow → Prop) : Prop :=
  ∀ Z F H σ, XOk K Z F ex W → S0 K Z F H O → Slots K F G σ → ∀ Q : VK, (∀ d v F' H' O', S0 K Z F' H' O' → Ex F F' → Rp K F' d v → P d O' → Q v H') → te σ H Q
def wpT (K : PySem.W.Frag) (W : WX) (ex : Ek) (te : TT) (G : Gm) (O : Ow) (P : Bool → Ow → Prop) : Prop :=
  ∀ Z F H σ, XOk K Z F ex W → S0 K Z F H O → Slots K F G σ → ∀ Q : Bool → Hp → Prop, (∀ b F' H' O', S0 K Z F' H' O' → Ex F F' → P b O' → Q b H') → te σ H Q
def wpA (K : PySem.W.Frag) (W : WX) (ex : Ek) (te : TA) (G : Gm) (O : Ow) (P : List D → Ow → Prop) : Prop :=
  ∀ Z F H σ, XOk K Z F ex W → S0 K Z F H O → Slots K F G σ → ∀ Q : List V → Hp → Prop, (∀ d v F' H' O', S0 K Z F' H' O' → Ex F F' → Rps K F' d v → P d O' → Q v H') → te σ H Q
def wpO (K : PySem.W.Frag) (W : WX) (ex : Ek) (te : TO) (G : Gm) (O : Ow) (P : Option Int → Ow → Prop) : Prop :=
  ∀ Z F H σ, XOk K Z F ex W → S0 K Z F H O → Slots K F G σ → ∀ Q : Option Int → Hp → Prop, (∀ b F' H' O', S0 K Z F' H' O' → Ex F F' → P b O' → Q b H') → te σ H Q
/-- operations on values -/
def wpR (K : PySem.W.Frag) (r : R2) (x y : D) (O : Ow) (P : D → Ow → Prop) : Prop :=
  ∀ Z F H vx vy, S0 K Z F H O → Rp K F x vx → Rp K F y vy → ∀ Q : VK, (∀ d v F' H' O', S0 K Z F' H' O' → Ex F F' → Rp K F' d v → P d O' → Q v H') → r vx vy H Q
def wpU (K : PySem.W.Frag) (r : V → Hp → VK → Prop) (x : D) (O : Ow) (P : D → Ow → Prop) : Prop :=
  ∀ Z F H vx, S0 K Z F H O → Rp K F x vx → ∀ Q : VK, (∀ d v F' H' O', S0 K Z F' H' O' → Ex F F' → Rp K F' d v → P d O' → Q v H') → r vx H Q
def wpC (K : PySem.W.Frag) (r : List V → Hp → VK → Prop) (xs : List D) (O : Ow) (P : D → Ow → Prop) : Prop :=
  ∀ Z F H vs, S0 K Z F H O → Rps K F xs vs → ∀ Q : VK, (∀ d v F' H' O', S0 K Z F' H' O' → Ex F F' → Rp K F' d v → P d O' → Q v H') → r vs H Q
def wpM (K : PySem.W.Frag) (r : V → List V → Hp → VK → Prop) (x : D) (xs : List D) (O : Ow) (P : D → Ow → Prop) : Prop :=
  ∀ Z F H vx vs, S0 K Z F H O → Rp K F x vx → Rps K F xs vs → ∀ Q : VK, (∀ d v F' H' O', S0 K Z F' H' O' → Ex F F' → Rp K F' d v → P d O' → Q v H') → r vx vs H Q
structure EnD where
  nx : Gm → Ow → Prop
  rt : D → Ow → Prop
  bk : Gm → Ow → Prop := fun _ _ => False
  ct : Gm → Ow → Prop := fun _ _ => False
structure EnOk (K : PySem.W.Frag) (Z : En0) (F : Hp) (E : EnD) (D0 : Ends) : Prop where
  nx : ∀ F' H σ G O, Ex F F' → S0 K Z F' H O → Slots K F' G σ → E.nx G O → D0.nx σ H
  rt : ∀ F' H d v O, Ex F F' → S0 K Z F' H O → Rp K F' d v → E.rt d O → D0.rt v H
  bk : ∀ F' H σ G O, Ex F F' → S0 K Z F' H O → Slots K F' G σ → E.bk G O → D0.bk σ H
  ct : ∀ F' H σ G O, Ex F F' → S0 K Z F' H O → Slots K F' G σ → E.ct G O → D0.ct σ H
theorem EnOk.mono {K : PySem.W.Frag} {Z : En0} {F F1 : Hp} {E : EnD} {D0 : Ends} (q : EnOk K Z F E D0) (e : Ex F F1) : EnOk K Z F1 E D0 :=
  ⟨fun F' H σ G O a => q.nx F' H σ G O (e.trans a), fun F' H d v O a => q.rt F' H d v O (e.trans a), fun F' H σ G O a => q.bk F' H σ G O (e.trans a), fun F' H σ G O a => q.ct F' H σ G O (e.trans a)⟩
def wpS (K : PySem.W.Frag) (W : WX) (ex : Ek) (ts : TS) (G : Gm) (O : Ow) (E : EnD) : Prop :=
  ∀ Z F H σ, XOk K Z F ex W → S0 K Z F H O → Slots K F G σ → ∀ D0 : Ends, EnOk K Z F E D0 → ts D0 σ H
section
variable {K : PySem.W.Frag} {W : WX} {ex : Ek} {G : Gm} {O : Ow} {P : D → Ow → Prop} {PT : Bool → Ow → Prop} {PA : List D → Ow → Prop} {E : EnD} {ta tb te tc : TE} {tt uu : TT} {t u : TS} {aa ab : TA}
theorem wpE_var {i : Nat} {d : D} (h : G[i]? = some (some d)) (p : P d O) : wpE K W ex (tVar i) G O P := fun Z F H σ _ S s Q q => by
  obtain ⟨v, h1, h2⟩ := s.at_ i d h
  exact ⟨v, h1, q d v F H O S (Ex.refl F) h2 p⟩
theorem wpE_c {d : D} {v : V} (h : ∀ F, Rp K F d v) (p : P d O) : wpE K W ex (tC v) G O P := fun Z F H σ _ S s Q q => q d v F H O S (Ex.refl F) (h F) p
theorem wpE_int {i : Int} (p : P (.int i) O) : wpE K W ex (tC (.int i)) G O P := wpE_c (fun _ => .int i) p
theorem wpE_bl {i : Bool} (p : P (.bl i) O) : wpE K W ex (tC (.bl i)) G O P := wpE_c (fun _ => .bl i) p
theorem wpE_str {i : Str} (p : P (.str i) O) : wpE K W ex (tC (.str i)) G O P := wpE_c (fun _ => .str i) p
theorem wpE_non (p : P .non O) : wpE K W ex (tC .non) G O P := wpE_c (fun _ => .non) p
theorem wpE_ref {a : Addr} (p : P (.ref a) O) : wpE K W ex (tC (.ref a)) G O P := wpE_c (fun _ => .ref a) p
theorem wpE_ty {a : String} (p : P (.ty a) O) : wpE K W ex (tC (.ty a)) G O P := wpE_c (fun _ => .ty a) p
theorem wpE_mono {P' : D → Ow → Prop} (h : wpE K W ex te G O P) (k : ∀ d O', P d O' → P' d O') : wpE K W ex te G O P' := fun Z F H σ X S s Q q => h Z F H σ X S s Q fun d v F' H' O' S' e r p => q d v F' H' O' S' e r (k _ _ p)
theorem wpE_op {r : R2} (h : wpE K W ex ta G O fun x O1 => wpE K W ex tb G O1 fun y O2 => wpR K r x y O2 P) : wpE K W ex (tOp r ta tb) G O P := fun Z F H σ X S s Q q =>
  h Z F H σ X S s _ fun x vx F1 H1 O1 S1 e1 r1 p1 => p1 Z F1 H1 σ (X.mono e1) S1 (s.mono e1) _ fun y vy F2 H2 O2 S2 e2 r2 p2 =>
    p2 Z F2 H2 vx vy S2 (r1.mono e2) r2 Q fun d v F3 H3 O3 S3 e3 r3 p3 => q d v F3 H3 O3 S3 (e1.trans (e2.trans e3)) r3 p3
theorem wpE_un {r : V → Hp → VK → Prop} (h : wpE K W ex ta G O fun x O1 => wpU K r x O1 P) : wpE K W ex (tUn r ta) G O P := fun Z F H σ X S s Q q =>
  h Z F H σ X S s _ fun x vx F1 H1 O1 S1 e1 r1 p1 => p1 Z F1 H1 vx S1 r1 Q fun d v F3 H3 O3 S3 e3 r3 p3 => q d v F3 H3 O3 S3 (e1.trans e3) r3 p3
theorem wpE_cb {r : List V → Hp → VK → Prop} (h : wpA K W ex aa G O fun xs O1 => wpC K r xs O1 P) : wpE K W ex (tCB r aa) G O P := fun Z F H σ X S s Q q =>
  h Z F H σ X S s _ fun x vx F1 H1 O1 S1 e1 r1 p1 => p1 Z F1 H1 vx S1 r1 Q fun d v F3 H3 O3 S3 e3 r3 p3 => q d v F3 H3 O3 S3 (e1.trans e3) r3 p3
theorem wpA_nil (p : PA [] O) : wpA K W ex tNil G O PA := fun Z F H σ _ S s Q q => q [] [] F H O S (Ex.refl F) .nil p
theorem wpA_cons (h : wpE K W ex ta G O fun x O1 => wpA K W ex aa G O1 fun xs O2 => PA (x :: xs) O2) : wpA K W ex (tCons ta aa) G O PA := fun Z F H σ X S s Q q =>
  h Z F H σ X S s _ fun x vx F1 H1 O1 S1 e1 r1 p1 => p1 Z F1 H1 σ (X.mono e1) S1 (s.mono e1) _ fun y vy F2 H2 O2 S2 e2 r2 p2 => q _ _ F2 H2 O2 S2 (e1.trans e2) (.cons (r1.mono e2) r2) p2
theorem wpO_none {PO : Option Int → Ow → Prop} (p : PO none O) : wpO K W ex tNoPart G O PO := fun Z F H σ _ S s Q q => q none F H O S (Ex.refl F) p
theorem wpO_some {PO : Option Int → Ow → Prop} (h : wpE K W ex ta G O fun d O1 => ∃ i, d = .int i ∧ PO (some i) O1) : wpO K W ex (tPart ta) G O PO := fun Z F H σ X S s Q q =>
  h Z F H σ X S s _ fun d v F1 H1 O1 S1 e1 r1 ⟨i, hd, p⟩ => by
    subst hd
    cases r1
    exact ⟨i, rfl, q _ F1 H1 O1 S1 e1 p⟩
theorem wpT_test (h : wpE K W ex te G O fun d O1 => ∃ b, d = .bl b ∧ PT b O1) : wpT K W ex (tTest te) G O PT := fun Z F H σ X S s Q q =>
  h Z F H σ X S s _ fun d v F1 H1 O1 S1 e1 r1 ⟨b, hd, p⟩ => by
    subst hd
    cases r1
    exact ⟨b, rfl, q b F1 H1 O1 S1 e1 p⟩
theorem wpT_B (h : wpE K W ex te G O fun d O1 => ∃ b, d = .bl b ∧ PT b O1) : wpT K W ex (tB te) G O PT := wpT_test h
theorem wpT_and (h : wpT K W ex tt G O fun b O1 => (b = true → wpT K W ex uu G O1 PT) ∧ (b = false → PT false O1)) : wpT K W ex (tAnd tt uu) G O PT := fun Z F H σ X S s Q q =>
  h Z F H σ X S s _ fun b F1 H1 O1 S1 e1 p1 => by
    cases b with
    | true => exact p1.1 rfl Z F1 H1 σ (X.mono e1) S1 (s.mono e1) Q fun b F3 H3 O3 S3 e3 p3 => q b F3 H3 O3 S3 (e1.trans e3) p3
    | false => exact q _ F1 H1 O1 S1 e1 (p1.2 rfl)
theorem wpT_or (h : wpT K W ex tt G O fun b O1 => (b = true → PT true O1) ∧ (b = false → wpT K W ex uu G O1 PT)) : wpT K W ex (tOr tt uu) G O PT := fun Z F H σ X S s Q q =>
  h Z F H σ X S s _ fun b F1 H1 O1 S1 e1 p1 => by
    cases b with
    | true => exact q _ F1 H1 O1 S1 e1 (p1.1 rfl)
    | false => exact p1.2 rfl Z F1 H1 σ (X.mono e1) S1 (s.mono e1) Q fun b F3 H3 O3 S3 e3 p3 => q b F3 H3 O3 S3 (e1.trans e3) p3
theorem wpT_not (h : wpT K W ex tt G O fun b O1 => PT (!b) O1) : wpT K W ex (tNot tt) G O PT := fun Z F H σ X S s Q q =>
  h Z F H σ X S s _ fun b F1 H1 O1 S1 e1 p1 => q _ F1 H1 O1 S1 e1 p1
theorem wpT_mono {P' : Bool → Ow → Prop} (h : wpT K W ex tt G O PT) (k : ∀ d O', PT d O' → P' d O') : wpT K W ex tt G O P' := fun Z F H σ X S s Q q => h Z F H σ X S s Q fun d F' H' O' S' e p => q d F' H' O' S' e (k _ _ p)
/-- .. as values (bools) -/
theorem wpE_andV (h : wpE K W ex ta G O fun d O1 => ∃ b, d = .bl b ∧ (b = true → wpE K W ex tb G O1 P) ∧ (b = false → P (.bl false) O1)) : wpE K W ex (tAndV ta tb) G O P := fun Z F H σ X S s Q q =>
  h Z F H σ X S s _ fun d v F1 H1 O1 S1 e1 r1 ⟨b, hd, p1⟩ => by
    subst hd
    cases r1
    refine ⟨b, rfl, ?_⟩
    cases b with
    | true => exact p1.1 rfl Z F1 H1 σ (X.mono e1) S1 (s.mono e1) Q fun d v F3 H3 O3 S3 e3 r3 p3 => q d v F3 H3 O3 S3 (e1.trans e3) r3 p3
    | false => exact q _ _ F1 H1 O1 S1 e1 (.bl false) (p1.2 rfl)
theorem wpE_orV (h : wpE K W ex ta G O fun d O1 => ∃ b, d = .bl b ∧ (b = true → P (.bl true) O1) ∧ (b = false → wpE K W ex tb G O1 P)) : wpE K W ex (tOrV ta tb) G O P := fun Z F H σ X S s Q q =>
  h Z F H σ X S s _ fun d v F1 H1 O1 S1 e1 r1 ⟨b, hd, p1⟩ => by
    subst hd
    cases r1
    refine ⟨b, rfl, ?_⟩
    cases b with
    | true => exact q _ _ F1 H1 O1 S1 e1 (.bl true) (p1.1 rfl)
    | false => exact p1.2 rfl Z F1 H1 σ (X.mono e1) S1 (s.mono e1) Q fun d v F3 H3 O3 S3 e3 r3 p3 => q d v F3 H3 O3 S3 (e1.trans e3) r3 p3
theorem wpE_notV (h : wpE K W ex ta G O fun d O1 => ∃ b, d = .bl b ∧ P (.bl (!b)) O1) : wpE K W ex (tNotV ta) G O P := fun Z F H σ X S s Q q =>
  h Z F H σ X S s _ fun d v F1 H1 O1 S1 e1 r1 ⟨b, hd, p⟩ => by
    subst hd
    cases r1
    exact ⟨b, rfl, q _ _ F1 H1 O1 S1 e1 (.bl _) p⟩
theorem wpS_mono {E' : EnD} (h : wpS K W ex t G O E) (k1 : ∀ a b, E.nx a b → E'.nx a b) (k2 : ∀ a b, E.rt a b → E'.rt a b) (k3 : ∀ a b, E.bk a b → E'.bk a b) (k4 : ∀ a b, E.ct a b → E'.ct a b) : wpS K W ex t G O E' := fun Z F H σ X S s D0 q =>
  h Z F H σ X S s D0 ⟨fun F H σ G O e a b c => q.nx F H σ G O e a b (k1 _ _ c), fun F H d v O e a b c => q.rt F H d v O e a b (k2 _ _ c), fun F H σ G O e a b c => q.bk F H σ G O e a b (k3 _ _ c), fun F H σ G O e a b c => q.ct F H σ G O e a b (k4 _ _ c)⟩
theorem wpS_next (p : E.nx G O) : wpS K W ex tNext G O E := fun Z F H σ X S s D0 q => q.nx F H σ G O (Ex.refl F) S s p
theorem wpS_brk (p : E.bk G O) : wpS K W ex tBreak G O E := fun Z F H σ X S s D0 q => q.bk F H σ G O (Ex.refl F) S s p
theorem wpS_cont (p : E.ct G O) : wpS K W ex tCont G O E := fun Z F H σ X S s D0 q => q.ct F H σ G O (Ex.refl F) S s p
theorem wpS_seq (h : wpS K W ex t G O { E with nx := fun G' O' => wpS K W ex u G' O' E }) : wpS K W ex (tSeq t u) G O E := fun Z F H σ X S s D0 q =>
  h Z F H σ X S s { D0 with nx := u D0 } ⟨fun F1 H1 σ1 G1 O1 e1 S1 s1 p1 => p1 Z F1 H1 σ1 (X.mono e1) S1 s1 D0 (q.mono e1), q.rt, q.bk, q.ct⟩
theorem wpS_ret (h : wpE K W ex te G O E.rt) : wpS K W ex (tRet te) G O E := fun Z F H σ X S s D0 q =>
  h Z F H σ X S s _ fun d v F1 H1 O1 S1 e1 r1 p1 => q.rt F1 H1 d v O1 e1 S1 r1 p1
theorem wpS_retN (p : E.rt .non O) : wpS K W ex tRetN G O E := fun Z F H σ X S s D0 q => q.rt F H .non .non O (Ex.refl F) S .non p
theorem wpS_drop (h : wpE K W ex te G O fun _ O' => E.nx G O') : wpS K W ex (tDrop te) G O E := fun Z F H σ X S s D0 q =>
  h Z F H σ X S s _ fun d v F1 H1 O1 S1 e1 r1 p1 => q.nx F1 H1 σ G O1 e1 S1 (s.mono e1) p1
theorem wpS_if (h : wpT K W ex tt G O fun b O1 => (b = true → wpS K W ex t G O1 E) ∧ (b = false → wpS K W ex u G O1 E)) : wpS K W ex (tIfS tt t u) G O E := fun Z F H σ X S s D0 q =>
  h Z F H σ X S s _ fun b F1 H1 O1 S1 e1 p1 => by
    cases b with
    | true => exact p1.1 rfl Z F1 H1 σ (X.mono e1) S1 (s.mono e1) D0 (q.mono e1)
    | false => exact p1.2 rfl Z F1 H1 σ (X.mono e1) S1 (s.mono e1) D0 (q.mono e1)
theorem wpS_set {i : Nat} (h : wpE K W ex te G O fun d O' => E.nx (G.set i (some d)) O') : wpS K W ex (tAsg te (gName i)) G O E := fun Z F H σ X S s D0 q =>
  h Z F H σ X S s _ fun d v F1 H1 O1 S1 e1 r1 p1 => q.nx F1 H1 _ _ O1 e1 S1 ((s.mono e1).set r1) p1
/-- o[i] = e, by values -/
def wpPut (K : PySem.W.Frag) (r : TSet) (o i v : D) (O : Ow) (P : Ow → Prop) : Prop :=
  ∀ Z F H vo vi vv, S0 K Z F H O → Rp K F o vo → Rp K F i vi → Rp K F v vv → ∀ Q : Hp → Prop, (∀ F' H' O', S0 K Z F' H' O' → Ex F F' → P O' → Q H') → r vo vi vv H Q
theorem wpS_sub {r : TSet} (h : wpE K W ex te G O fun d O1 => wpE K W ex ta G O1 fun o O2 => wpE K W ex tb G O2 fun i O3 => wpPut K r o i d O3 fun O4 => E.nx G O4) : wpS K W ex (tAsg te (gSub ta tb r)) G O E := fun Z F H σ X S s D0 q =>
  h Z F H σ X S s _ fun d v F1 H1 O1 S1 e1 r1 p1 => p1 Z F1 H1 σ (X.mono e1) S1 (s.mono e1) _ fun o vo F2 H2 O2 S2 e2 r2 p2 => p2 Z F2 H2 σ (X.mono (e1.trans e2)) S2 (s.mono (e1.trans e2)) _ fun i vi F3 H3 O3 S3 e3 r3 p3 =>
    p3 Z F3 H3 vo vi v S3 (r2.mono e3) r3 (r1.mono (e2.trans e3)) _ fun F4 H4 O4 S4 e4 p4 => q.nx F4 H4 σ G O4 (e1.trans (e2.trans (e3.trans e4))) S4 (s.mono (e1.trans (e2.trans (e3.trans e4)))) p4
/-- what is owned (and made here) is told as it stands from now on: slot i held it -/
theorem wpS_frz {i j : Nat} {a : Addr} {d : D} (hi : G[i]? = some (some (.mut a))) (hj : O[j]? = some ⟨a, true, d⟩) (h : wpS K W ex t (G.set i (some d)) (O.eraseIdx j) E) : wpS K W ex t G O E := fun Z F H σ X S s D0 q => by
  obtain ⟨F', e, S', r⟩ := S.freeze hj
  exact h Z F' H σ (X.mono e) S' ((s.mono e).re hi fun v hv => by cases hv; exact r) D0 (q.mono e)
theorem wpS_subO {O' : Ow} (hs : O'.Sublist O) (h : wpS K W ex t G O' E) : wpS K W ex t G O E := fun Z F H σ X S s D0 q => h Z F H σ X (S.sub hs) s D0 q
/-- targets -/
def wpG (K : PySem.W.Frag) (g : TG) (d : D) (G : Gm) (O : Ow) (P : Gm → Ow → Prop) : Prop :=
  ∀ Z F H σ v, S0 K Z F H O → Slots K F G σ → Rp K F d v → ∀ Q : L2.St → Hp → Prop, (∀ F' H' σ' G' O', S0 K Z F' H' O' → Slots K F' G' σ' → Ex F F' → P G' O' → Q σ' H') → g v σ H Q
theorem wpG_name {i : Nat} {d : D} {PG : Gm → Ow → Prop} (p : PG (G.set i (some d)) O) : wpG K (gName i) d G O PG := fun Z F H σ v S s r Q q => q F H _ _ O S (s.set r) (Ex.refl F) p
/-- several targets -/
def wpGs (K : PySem.W.Frag) (g : TGs) (ds : List D) (G : Gm) (O : Ow) (P : Gm → Ow → Prop) : Prop :=
  ∀ Z F H σ vs, S0 K Z F H O → Slots K F G σ → Rps K F ds vs → ∀ Q : L2.St → Hp → Prop, (∀ F' H' σ' G' O', S0 K Z F' H' O' → Slots K F' G' σ' → Ex F F' → P G' O' → Q σ' H') → g vs σ H Q
theorem wpGs_nil {PG : Gm → Ow → Prop} (p : PG G O) : wpGs K gNil [] G O PG := fun Z F H σ vs S s r Q q => by
  cases r
  exact ⟨rfl, q F H σ G O S s (Ex.refl F) p⟩
theorem wpGs_cons {g : TG} {gs : TGs} {d : D} {ds : List D} {PG : Gm → Ow → Prop} (h : wpG K g d G O fun G1 O1 => wpGs K gs ds G1 O1 PG) : wpGs K (gCons g gs) (d :: ds) G O PG := fun Z F H σ vs S s r Q q => by
  cases r with
  | cons r1 r2 => exact ⟨_, _, rfl, h Z F H σ _ S s r1 _ fun F1 H1 σ1 G1 O1 S1 s1 e1 p1 => p1 Z F1 H1 σ1 _ S1 s1 (r2.mono e1) Q fun F2 H2 σ2 G2 O2 S2 s2 e2 p2 => q F2 H2 σ2 G2 O2 S2 s2 (e1.trans e2) p2⟩
theorem wpG_tup {n : Nat} {gs : TGs} {ds : List D} {PG : Gm → Ow → Prop} (hn : ds.length = n) (h : wpGs K gs ds G O PG) : wpG K (gTup K n gs) (.tup ds) G O PG := fun Z F H σ v S s r Q q => by
  cases r with
  | tup h1 h2 => exact ⟨_, _, rfl, SqT.of (S.ex _ _ h1), by rw [← h2.length]; exact hn, h Z F H σ _ S s h2 Q q⟩
/-- a sequence that a loop walks: frozen or owned -/
def seqOf (O : Ow) (d : D) (xs : List D) : Prop := d = .lst xs ∨ d = .kl xs ∨ ∃ a b, d = .mut a ∧ (⟨a, b, .lst xs⟩ : Ob) ∈ O
theorem seqOf.at {Z : En0} {F H : Hp} {d : D} {xs : List D} {v : V} (h : seqOf O d xs) (S : S0 K Z F H O) (r : Rp K F d v) : ∃ a vs, v = .ref a ∧ SqL K H a vs ∧ Rps K F xs vs := by
  rcases h with rfl | rfl | ⟨a, b, rfl, hm⟩
  · cases r with
    | lst h1 h2 => exact ⟨_, _, rfl, SqL.of (S.ex _ _ h1), h2⟩
  · cases r with
    | kl h1 h2 => exact ⟨_, _, rfl, ex_l S.ex h1, h2⟩
  · cases r
    obtain ⟨_, ⟨vs, h2, h3⟩, _⟩ := S.own _ hm
    exact ⟨_, vs, rfl, SqL.of h2, h3⟩
structure WalkOk (K : PySem.W.Frag) (J : It) (F1 : Hp) (xs : List D) (C : Ow → Prop) : Prop where
  go : ∀ Z F H O i x, S0 K Z F H O → Ex F1 F → C O → xs[i]? = some x → J.go i H ∧ ∀ v H', J.yld i H v H' → ∃ F', S0 K Z F' H' O ∧ Ex F F' ∧ Rp K F' x v
  stop : ∀ Z F H O, S0 K Z F H O → Ex F1 F → C O → J.stop xs.length H
def wpI (K : PySem.W.Frag) (W : WX) (ex : Ek) (wi : TI) (G : Gm) (O : Ow) (P : List D → (Ow → Prop) → Ow → Prop) : Prop :=
  ∀ Z F H σ, XOk K Z F ex W → S0 K Z F H O → Slots K F G σ → ∀ R : It → Hp → Prop, (∀ J xs C F' H' O', S0 K Z F' H' O' → Ex F F' → WalkOk K J F' xs C → P xs C O' → R J H') → wi σ H R
theorem wpI_list {PI : List D → (Ow → Prop) → Ow → Prop} (h : wpE K W ex te G O fun d O1 => ∃ xs, seqOf O1 d xs ∧ PI xs (fun O' => seqOf O' d xs) O1) : wpI K W ex (iList K te) G O PI := fun Z F H σ X S s R q =>
  h Z F H σ X S s _ fun d v F1 H1 O1 S1 e1 r1 ⟨xs, hsq, p⟩ => by
    obtain ⟨a, vs, rfl, hv, rv⟩ := hsq.at S1 r1
    refine ⟨a, rfl, ⟨vs, hv⟩, q _ xs _ F1 H1 O1 S1 e1 ⟨fun Z F2 H2 O2 i x S2 e2 hC hx => ?_, fun Z F2 H2 O2 S2 e2 hC => ?_⟩ p⟩
    · obtain ⟨a', vs', ea, hv', rv'⟩ := hC.at S2 (r1.mono e2)
      cases ea
      obtain ⟨y, hy, ry⟩ := rv'.get hx
      refine ⟨⟨vs', y, hv', hy⟩, fun z H3 hz => ?_⟩
      obtain ⟨rfl, fz⟩ := hz
      have ez : z = y := Option.some.inj ((fz _ hv').symm.trans hy)
      subst ez
      exact ⟨F2, S2, Ex.refl _, ry⟩
    · obtain ⟨a', vs', ea, hv', rv'⟩ := hC.at S2 (r1.mono e2)
      cases ea
      exact ⟨vs', hv', by rw [rv'.length]; exact Nat.le_refl _⟩
theorem wpI_tup {PI : List D → (Ow → Prop) → Ow → Prop} (h : wpE K W ex te G O fun d O1 => ∃ xs, d = .tup xs ∧ PI xs (fun _ => True) O1) : wpI K W ex (iTup K te) G O PI := fun Z F H σ X S s R q =>
  h Z F H σ X S s _ fun d v F1 H1 O1 S1 e1 r1 ⟨xs, hd, p⟩ => by
    subst hd
    cases r1 with
    | @tup a vs _ ht0 rv =>
    have ht : SqT K F1 a vs := SqT.of ht0
    refine ⟨a, rfl, ⟨vs, ex_t S1.ex ht⟩, q _ xs _ F1 H1 O1 S1 e1 ⟨fun Z F2 H2 O2 i x S2 e2 hC hx => ?_, fun Z F2 H2 O2 S2 e2 hC => ?_⟩ p⟩
    · obtain ⟨y, hy, ry⟩ := rv.get hx
      have hv' := ex_t S2.ex (ex_t e2 ht)
      refine ⟨⟨vs, y, hv', hy⟩, fun z H3 hz => ?_⟩
      obtain ⟨rfl, fz⟩ := hz
      have ez : z = y := Option.some.inj ((fz _ hv').symm.trans hy)
      subst ez
      exact ⟨F2, S2, Ex.refl _, ry.mono e2⟩
    · exact ⟨vs, ex_t S2.ex (ex_t e2 ht), by rw [rv.length]; exact Nat.le_refl _⟩
/-- 0, 1, .. -/
def rngD (lo : Int) (n : Nat) : List D := (List.range n).map fun (i : Nat) => D.int (lo + (i : Int))
theorem rngD_len {lo : Int} {n : Nat} : (rngD lo n).length = n := by simp [rngD]
theorem rngD_at {lo : Int} {n i : Nat} {x : D} (h : (rngD lo n)[i]? = some x) : i < n ∧ x = .int (lo + (i : Int)) := by
  unfold rngD at h
  rw [List.getElem?_map] at h
  by_cases hi : i < n
  · rw [List.getElem?_range hi] at h
    exact ⟨hi, (Option.some.inj h).symm⟩
  · rw [List.getElem?_eq_none (by simpa using hi)] at h
    cases h
theorem walk_rng {lo : Int} {n : Nat} {F1 : Hp} : WalkOk K (Itr lo n) F1 (rngD lo n) (fun _ => True) where
  go := fun Z F H O i x S e _ hx => by
    obtain ⟨hi, rfl⟩ := rngD_at hx
    refine ⟨hi, fun v H' hy => ?_⟩
    obtain ⟨rfl, rfl⟩ := hy
    exact ⟨F, S, Ex.refl _, .int _⟩
  stop := fun Z F H O S e _ => by
    rw [rngD_len]
    exact Nat.le_refl _
theorem wpI_rng1 {PI : List D → (Ow → Prop) → Ow → Prop} (h : wpA K W ex aa G O fun ds O1 => ∃ n : Int, ds = [.int n] ∧ (-(2 ^ 62) ≤ n ∧ n < 2 ^ 62) ∧ PI (rngD 0 n.toNat) (fun _ => True) O1) : wpI K W ex (iRng1 aa) G O PI := fun Z F H σ X S s R q =>
  h Z F H σ X S s _ fun ds vs F1 H1 O1 S1 e1 r1 ⟨n, hds, hb, p⟩ => by
    subst hds
    cases r1 with
    | cons ra rb =>
      cases ra
      cases rb
      exact ⟨n, rfl, hb.1, hb.2, q _ _ _ F1 H1 O1 S1 e1 walk_rng p⟩
theorem wpI_rng2 {PI : List D → (Ow → Prop) → Ow → Prop} (h : wpA K W ex aa G O fun ds O1 => ∃ m n : Int, ds = [.int m, .int n] ∧ (-(2 ^ 62) ≤ m ∧ m < 2 ^ 62 ∧ -(2 ^ 62) ≤ n ∧ n < 2 ^ 62) ∧ PI (rngD m (n - m).toNat) (fun _ => True) O1) : wpI K W ex (iRng2 aa) G O PI := fun Z F H σ X S s R q =>
  h Z F H σ X S s _ fun ds vs F1 H1 O1 S1 e1 r1 ⟨m, n, hds, hb, p⟩ => by
    subst hds
    cases r1 with
    | cons ra rb =>
      cases ra
      cases rb with
      | cons rc rd =>
        cases rc
        cases rd
        exact ⟨m, n, rfl, hb, q _ _ _ F1 H1 O1 S1 e1 walk_rng p⟩
/-- (0, x), (1, y), .. -/
def enumD (xs : List D) : List D := xs.zipIdx.map fun p => D.tup [.int (p.2 : Nat), p.1]
theorem enumD_len {xs : List D} : (enumD xs).length = xs.length := by simp [enumD]
theorem enumD_at {xs : List D} {i : Nat} {x : D} (h : (enumD xs)[i]? = some x) : ∃ y, xs[i]? = some y ∧ x = .tup [.int (i : Nat), y] := by
  unfold enumD at h
  rw [List.getElem?_map, List.getElem?_zipIdx] at h
  cases e : xs[i]? with
  | none => rw [e] at h; cases h
  | some y =>
    rw [e] at h
    have h2 := Option.some.inj h
    exact ⟨y, rfl, by rw [← h2]; simp⟩
theorem wpI_enum {PI : List D → (Ow → Prop) → Ow → Prop} (h : wpA K W ex aa G O fun ds O1 => ∃ d xs, ds = [d] ∧ seqOf O1 d xs ∧ PI (enumD xs) (fun O' => seqOf O' d xs) O1) : wpI K W ex (iEnum K aa) G O PI := fun Z F H σ X S s R q =>
  h Z F H σ X S s _ fun ds vs F1 H1 O1 S1 e1 r1 ⟨d, xs, hds, hsq, p⟩ => by
    subst hds
    cases r1 with
    | cons ra rb =>
      cases rb
      obtain ⟨a, vs, rfl, hv, rv⟩ := hsq.at S1 ra
      refine ⟨a, vs, rfl, hv, q _ (enumD xs) _ F1 H1 O1 S1 e1 ⟨fun Z F2 H2 O2 i x S2 e2 hC hx => ?_, fun Z F2 H2 O2 S2 e2 hC => ?_⟩ p⟩
      · obtain ⟨y, hy, rfl⟩ := enumD_at hx
        obtain ⟨a', vs', ea, hv', rv'⟩ := hC.at S2 (ra.mono e2)
        cases ea
        obtain ⟨u, hu, ru⟩ := rv'.get hy
        refine ⟨⟨vs', u, hv', hu⟩, fun z H3 hz => ?_⟩
        obtain ⟨T, x, rfl, nT, rfl, fx⟩ := hz
        have ex : x = u := Option.some.inj ((fx _ hv').symm.trans hu)
        subst ex
        have nF := S2.ex.none nT
        exact ⟨_, S2.frz _ nT, Ex.new nF, .tup upd_same (.cons (.int _) (.cons (ru.mono (Ex.new nF)) .nil))⟩
      · obtain ⟨a', vs', ea, hv', rv'⟩ := hC.at S2 (ra.mono e2)
        cases ea
        refine ⟨vs', hv', ?_⟩
        rw [enumD_len, rv'.length]
        exact Nat.le_refl _
/-- for: I the invariant by the turn -/
theorem wpS_for {wi : TI} {g : TG} (h : wpI K W ex wi G O fun xs C O1 => ∃ I : Nat → Gm → Ow → Prop, I 0 G O1 ∧ (∀ i G' O', i ≤ xs.length → I i G' O' → C O') ∧
      (∀ i x G' O', xs[i]? = some x → I i G' O' → wpG K g x G' O' fun G2 O2 => wpS K W ex t G2 O2 { E with nx := I (i + 1), ct := I (i + 1), bk := E.nx }) ∧ ∀ G' O', I xs.length G' O' → E.nx G' O') :
    wpS K W ex (tFor wi g t) G O E := fun Z F H σ X S s D0 q =>
  h Z F H σ X S s _ fun J xs C F1 H1 O1 S1 e1 hw ⟨I, h0, hl, hs, hd⟩ => by
    refine ⟨fun i m σ' H' => i + m = xs.length ∧ ∃ F2 G2 O2, S0 K Z F2 H' O2 ∧ Slots K F2 G2 σ' ∧ Ex F1 F2 ∧ I i G2 O2, ⟨xs.length, by omega, F1, G, O1, S1, s.mono e1, Ex.refl _, h0⟩, fun i m σ' H' hW => ?_⟩
    obtain ⟨em, F2, G2, O2, S2, s2, e2, hI⟩ := hW
    have hC := hl i G2 O2 (by omega) hI
    have qn := q.mono (e1.trans e2)
    by_cases hi : i < xs.length
    · obtain ⟨x, hx⟩ : ∃ x, xs[i]? = some x := ⟨xs[i], List.getElem?_eq_getElem hi⟩
      obtain ⟨g1, g2⟩ := hw.go Z F2 H' O2 i x S2 e2 hC hx
      refine .inr ⟨g1, fun σ3 H3 => ∃ F3 G3 O3, S0 K Z F3 H3 O3 ∧ Slots K F3 G3 σ3 ∧ Ex F1 F3 ∧ I (i + 1) G3 O3, fun σ3 H3 h3 => ⟨m - 1, by omega, by omega, h3⟩, fun z H3 hz => ?_⟩
      obtain ⟨F3, S3, e3, rz⟩ := g2 z H3 hz
      refine hs i x G2 O2 hx hI Z F3 _ σ' z S3 (s2.mono e3) rz _ fun F4 H4 σ4 G4 O4 S4 s4 e4 p4 => p4 Z F4 H4 σ4 (X.mono (e1.trans (e2.trans (e3.trans e4)))) S4 s4 _ ⟨?_, (qn.mono (e3.trans e4)).rt, (qn.mono (e3.trans e4)).nx, ?_⟩
      · exact fun F5 H5 σ5 G5 O5 e5 S5 s5 p5 => ⟨F5, G5, O5, S5, s5, e2.trans (e3.trans (e4.trans e5)), p5⟩
      · exact fun F5 H5 σ5 G5 O5 e5 S5 s5 p5 => ⟨F5, G5, O5, S5, s5, e2.trans (e3.trans (e4.trans e5)), p5⟩
    · have : i = xs.length := by omega
      subst this
      exact .inl ⟨hw.stop Z F2 H' O2 S2 e2 hC, qn.nx F2 H' σ' G2 O2 (Ex.refl _) S2 s2 (hd _ _ hI)⟩
def wipeG (G : Gm) : List Nat → Gm
  | [] => G
  | v :: vs => (wipeG G vs).set v none
theorem Slots.wipe {F : Hp} {σ : L2.St} (s : Slots K F G σ) : ∀ vs : List Nat, Slots K F (wipeG G vs) (wipe σ vs)
  | [] => s
  | v :: vs => (Slots.wipe s vs).unset
theorem wipe_at {σ : L2.St} {k : Nat} : ∀ {vs : List Nat}, (L2.wipe σ vs)[k]? = if k ∈ vs then (σ[k]?).map (fun _ => none) else σ[k]?
  | [] => by simp [L2.wipe]
  | v :: vs => by
    show ((L2.wipe σ vs).set v none)[k]? = _
    by_cases hk : v = k
    · subst hk
      rw [List.getElem?_set_self']
      have ih := wipe_at (σ := σ) (k := v) (vs := vs)
      rw [ih]
      by_cases hm : v ∈ vs
      · simp [hm]
        cases σ[v]? <;> rfl
      · simp [hm]
        cases σ[v]? <;> rfl
    · rw [List.getElem?_set_ne hk, wipe_at (σ := σ) (k := k) (vs := vs)]
      have : k ≠ v := fun e => hk e.symm
      simp [this]
theorem wipe_ext {σ τ : L2.St} {vs : List Nat} (hl : σ.length = τ.length) (h : ∀ k, k ∉ vs → σ[k]? = τ[k]?) : L2.wipe σ vs = L2.wipe τ vs := by
  apply List.ext_getElem?
  intro k
  rw [wipe_at, wipe_at]
  by_cases hk : k ∈ vs
  · rw [if_pos hk, if_pos hk]
    by_cases hb : k < σ.length
    · rw [List.getElem?_eq_getElem hb, List.getElem?_eq_getElem (by omega)] <;> rfl
    · rw [List.getElem?_eq_none (by omega), List.getElem?_eq_none (by omega)] <;> rfl
  · rw [if_neg hk, if_neg hk]
    exact h k hk
/-- a target that stores in slots among vs alone -/
def gIn (vs : List Nat) (g : TG) : Prop := ∀ v (σ : L2.St) H (Q : L2.St → Hp → Prop), g v σ H Q → g v σ H fun σ' H' => Q σ' H' ∧ σ'.length = σ.length ∧ ∀ k, k ∉ vs → σ'[k]? = σ[k]?
def gsIn (vs : List Nat) (g : TGs) : Prop := ∀ v (σ : L2.St) H (Q : L2.St → Hp → Prop), g v σ H Q → g v σ H fun σ' H' => Q σ' H' ∧ σ'.length = σ.length ∧ ∀ k, k ∉ vs → σ'[k]? = σ[k]?
theorem gIn_name {vs : List Nat} {j : Nat} (h : j ∈ vs) : gIn vs (gName j) := fun v σ H Q q => ⟨q, by simp, fun k hk => List.getElem?_set_ne (fun e => hk (by rw [← e]; exact h))⟩
theorem gsIn_nil {vs : List Nat} : gsIn vs gNil := fun v σ H Q q => ⟨q.1, q.2, rfl, fun _ _ => rfl⟩
theorem gsIn_cons {vs : List Nat} {g : TG} {gs : TGs} (h : gIn vs g) (m : ∀ v (σ : L2.St) H (Q Q' : L2.St → Hp → Prop), (∀ a b, Q a b → Q' a b) → g v σ H Q → g v σ H Q') (hs : gsIn vs gs)
    (ms : ∀ v (σ : L2.St) H (Q Q' : L2.St → Hp → Prop), (∀ a b, Q a b → Q' a b) → gs v σ H Q → gs v σ H Q') : gsIn vs (gCons g gs) := fun v σ H Q q => by
  obtain ⟨x, r, rfl, q⟩ := q
  refine ⟨x, r, rfl, m _ _ _ _ _ (fun a b z => ?_) (h _ _ _ _ q)⟩
  obtain ⟨z1, z2, z3⟩ := z
  refine ms _ _ _ _ _ (fun a' b' y => ?_) (hs _ _ _ _ z1)
  obtain ⟨y1, y2, y3⟩ := y
  exact ⟨y1, y2.trans z2, fun k hk => (y3 k hk).trans (z3 k hk)⟩
abbrev gMono (g : TG) : Prop := ∀ v (σ : L2.St) H (Q Q' : L2.St → Hp → Prop), (∀ a b, Q a b → Q' a b) → g v σ H Q → g v σ H Q'
abbrev gsMono (g : TGs) : Prop := ∀ v (σ : L2.St) H (Q Q' : L2.St → Hp → Prop), (∀ a b, Q a b → Q' a b) → g v σ H Q → g v σ H Q'
theorem gMono_name {j : Nat} : gMono (gName j) := fun v σ H Q Q' k q => k _ _ q
theorem gsMono_nil : gsMono gNil := fun v σ H Q Q' k q => ⟨q.1, k _ _ q.2⟩
theorem gsMono_cons {g : TG} {gs : TGs} (h : gMono g) (hs : gsMono gs) : gsMono (gCons g gs) := fun v σ H Q Q' k q => by
  obtain ⟨x, r, rfl, q⟩ := q
  exact ⟨x, r, rfl, h _ _ _ _ _ (fun a b z => hs _ _ _ _ _ k z) q⟩
theorem gMono_tup {n : Nat} {gs : TGs} (hs : gsMono gs) : gMono (gTup K n gs) := fun v σ H Q Q' k q => by
  obtain ⟨a, xs, h1, h2, h3, q⟩ := q
  exact ⟨a, xs, h1, h2, h3, hs _ _ _ _ _ k q⟩
theorem gIn_tup {vs : List Nat} {n : Nat} {gs : TGs} (hs : gsIn vs gs) : gIn vs (gTup K n gs) := fun v σ H Q q => by
  obtain ⟨a, xs, h1, h2, h3, q⟩ := q
  exact ⟨a, xs, h1, h2, h3, hs _ _ _ _ q⟩
theorem gIn_tup2 {vs : List Nat} {i j : Nat} (hi : i ∈ vs) (hj : j ∈ vs) : gIn vs (gTup K 2 (gCons (gName i) (gCons (gName j) gNil))) := gIn_tup (gsIn_cons (gIn_name hi) gMono_name (gsIn_cons (gIn_name hj) gMono_name gsIn_nil gsMono_nil) (gsMono_cons gMono_name gsMono_nil))
theorem gMono_tup2 {i j : Nat} : gMono (gTup K 2 (gCons (gName i) (gCons (gName j) gNil))) := gMono_tup (gsMono_cons gMono_name (gsMono_cons gMono_name gsMono_nil))
/-- entered anew, with one more object that is to be kept -/
def En0.hold (Z : En0) (p : Addr) (o : HO) : En0 := ⟨fun a => if a = p then none else Z.F a, upd Z.H p o, Z.M⟩
theorem S0.hold {Z : En0} {F H : Hp} {O : Ow} (S : S0 K Z F H O) {p : Addr} {o : HO} (hp : H p = some o) (hF : F p = none) (hO : ∀ q ∈ O, q.a ≠ p) : S0 K (Z.hold p o) F H O where
  ex := S.ex
  frame := fun a u hm e => by
    by_cases z : a = p
    · subst z
      have e2 : upd Z.H a o a = some u := e
      rw [upd_same] at e2
      rw [hp]
      exact e2
    · have e2 : upd Z.H p o a = some u := e
      rw [upd_ne z] at e2
      exact S.frame a u hm e2
  fz := fun a e => by
    show F a = (if a = p then none else Z.F a) ∨ ((if a = p then none else Z.F a) = none ∧ ∃ vs, F a = some (.tup vs))
    by_cases z : a = p
    · subst z
      rw [if_pos rfl]
      exact .inl hF
    · rw [if_neg z]
      have e2 : upd Z.H p o a ≠ none := e
      rw [upd_ne z] at e2
      exact S.fz a e2
  alive := S.alive
  own := fun q hq => by
    obtain ⟨h1, h2, h3, h4⟩ := S.own q hq
    refine ⟨h1, h2, fun e => ?_, h4⟩
    show upd Z.H p o q.a = none
    rw [upd_ne (hO q hq)]
    exact h3 e
  nd := S.nd
theorem S0.unhold {Z : En0} {F H : Hp} {O : Ow} {p : Addr} {o : HO} (S : S0 K (Z.hold p o) F H O) (hZ : Z.H p = none) (hM : p ∉ Z.M) (nt : ∀ vs, o ≠ .tup vs := by intro _ z; cases z) : S0 K Z F H O ∧ H p = some o ∧ F p = none ∧ ∀ q ∈ O, q.a ≠ p := by
  have key : ∀ a, a ≠ p → (Z.hold p o).H a = Z.H a := fun a z => upd_ne z
  have kp : (Z.hold p o).H p = some o := upd_same
  refine ⟨⟨S.ex, fun a u hm e => ?_, fun a e => ?_, S.alive, fun q hq => ?_, S.nd⟩, S.frame p o hM kp, ?_, fun q hq e => ?_⟩
  · have z : a ≠ p := fun z => by
      rw [z, hZ] at e
      cases e
    exact S.frame a u hm (by rw [key a z]; exact e)
  · have z : a ≠ p := fun z => e (by rw [z]; exact hZ)
    have h := S.fz a (by rw [key a z]; exact e)
    have h2 : F a = (if a = p then none else Z.F a) ∨ ((if a = p then none else Z.F a) = none ∧ ∃ vs, F a = some (.tup vs)) := h
    rw [if_neg z] at h2
    exact h2
  · obtain ⟨h1, h2, h3, h4⟩ := S.own q hq
    refine ⟨h1, h2, fun e => ?_, h4⟩
    have h5 := h3 e
    have z : q.a ≠ p := fun z => by
      rw [z, kp] at h5
      cases h5
    rw [key _ z] at h5
    exact h5
  · have h := S.fz p (by rw [kp]; intro z; cases z)
    have h2 : F p = (if p = p then none else Z.F p) ∨ ((if p = p then none else Z.F p) = none ∧ ∃ vs, F p = some (.tup vs)) := h
    rw [if_pos rfl] at h2
    rcases h2 with h2 | ⟨_, ws, h2⟩
    · exact h2
    · have e1 := S.ex p _ h2
      rw [S.frame p o hM kp] at e1
      exact absurd (Option.some.inj e1) (nt ws)
  · obtain ⟨h1, h2, h3, h4⟩ := S.own q hq
    cases hb : q.loc with
    | true =>
      have h5 := h3 hb
      rw [e, kp] at h5
      cases h5
    | false => exact hM (by rw [← e]; exact h4 hb)
theorem XOk.hold {Z : En0} {F0 : Hp} {p : Addr} {o : HO} (X : XOk K Z F0 ex W) (hZ : Z.H p = none) (hM : p ∉ Z.M) (nt : ∀ vs, o ≠ .tup vs := by intro _ z; cases z) : XOk K (Z.hold p o) F0 ex W := fun x d F H σ G O e0 S s r e => X x d F H σ G O e0 (S.unhold hZ hM nt).1 s r e
/-- an object of ours that was not told of is told: frozen | owned -/
theorem S0.keepF {Z : En0} {F H : Hp} {O : Ow} (S : S0 K Z F H O) {p : Addr} {o : HO} (hp : H p = some o) (hF : F p = none) (hO : ∀ q ∈ O, q.a ≠ p) (hZ : Z.H p = none) : S0 K Z (upd F p o) H O where
  ex := fun a u e => by
    by_cases z : a = p
    · subst z
      rw [upd_same] at e
      rw [hp]
      exact e
    · rw [upd_ne z] at e
      exact S.ex a u e
  frame := S.frame
  fz := fun a e => by
    have z : a ≠ p := fun z => e (by rw [z]; exact hZ)
    rw [upd_ne z]
    exact S.fz a e
  alive := S.alive
  own := fun q hq => by
    obtain ⟨h1, h2, h3⟩ := S.own q hq
    exact ⟨by rw [upd_ne (hO q hq)]; exact h1, h2.mono (Ex.new hF) fun _ e => e, h3⟩
  nd := S.nd
theorem S0.take {Z : En0} {F H : Hp} {O : Ow} (S : S0 K Z F H O) {p : Addr} {d : D} (hF : F p = none) (hm : Mu K F H p d) (hO : ∀ q ∈ O, q.a ≠ p) (hZ : Z.H p = none) : S0 K Z F H (⟨p, true, d⟩ :: O) where
  ex := S.ex
  frame := S.frame
  fz := S.fz
  alive := S.alive
  own := fun q hq => by
    rcases List.mem_cons.mp hq with rfl | hq
    · exact ⟨hF, hm, fun _ => hZ, fun e => by cases e⟩
    · exact S.own q hq
  nd := by
    rw [List.map_cons, List.nodup_cons]
    refine ⟨fun hq => ?_, S.nd⟩
    obtain ⟨q, h1, h2⟩ := List.mem_map.mp hq
    exact hO q h1 h2
/-- an untold object of ours is written -/
theorem S0.writeU {Z : En0} {F H : Hp} {O : Ow} (S : S0 K Z F H O) {p : Addr} {o : HO} (hF : F p = none) (hO : ∀ q ∈ O, q.a ≠ p) (hZ : Z.H p = none) : S0 K Z F (upd H p o) O where
  ex := fun a u e => by
    have z : a ≠ p := fun z => by
      rw [z, hF] at e
      cases e
    rw [upd_ne z]
    exact S.ex a u e
  frame := fun a u hm e => by
    have z : a ≠ p := fun z => by
      rw [z, hZ] at e
      cases e
    rw [upd_ne z]
    exact S.frame a u hm e
  fz := S.fz
  alive := fun a hm => by
    by_cases z : a = p
    · subst z
      rw [upd_same]
      intro q
      cases q
    · rw [upd_ne z]
      exact S.alive a hm
  own := fun q hq => by
    obtain ⟨h1, h2, h3⟩ := S.own q hq
    refine ⟨h1, h2.mono (Ex.refl _) fun u e => ?_, h3⟩
    rw [upd_ne (hO q hq)]
    exact e
  nd := S.nd
/-- how a comprehension's list goes on: frozen | owned -/
def lcEnd (fr : Bool) (acc : List D) (O : Ow) (P : D → Ow → Prop) : Prop := match fr with
  | true => P (.lst acc) O
  | false => ∀ a, (∀ q ∈ O, q.a ≠ a) → P (.mut a) (⟨a, true, .lst acc⟩ :: O)
theorem wpE_lc {wi : TI} {g : TG} {vs : List Nat} (fr : Bool) (hg : gIn vs g) (gm : gMono g) (h : wpI K W ex wi G O fun xs C O1 => xs.length < sizeLine ∧ ∃ I : Nat → List D → Ow → Prop, I 0 [] O1 ∧ (∀ i acc O', i ≤ xs.length → I i acc O' → C O') ∧
      (∀ i x acc O', xs[i]? = some x → I i acc O' → wpG K g x (wipeG G vs) O' fun G2 O2 => wpT K W ex tt G2 O2 fun b O3 => (b = true → wpE K W ex te G2 O3 fun y O4 => I (i + 1) (acc ++ [y]) O4) ∧ (b = false → I (i + 1) acc O3)) ∧
      ∀ acc O', I xs.length acc O' → lcEnd fr acc O' P) : wpE K W ex (tLc wi g tt te vs) G O P := fun Z F H σ X S s Q q =>
  h Z F H σ X S s _ fun J xs C F1 H1 O1 S1 e1 hw ⟨hz, I, h0, hl, hs, hd⟩ Dl hD => by
    have hZ := S1.fresh hD
    have hM := S1.notM hD
    refine ⟨fun i m H' => i + m = xs.length ∧ ∃ F2 O2 acc vacc, S0 K Z F2 H' O2 ∧ Ex F1 F2 ∧ F2 Dl = none ∧ H' Dl = some (.lst vacc) ∧ Rps K F2 acc vacc ∧ acc.length ≤ i ∧ I i acc O2 ∧ ∀ p ∈ O2, p.a ≠ Dl,
      ⟨xs.length, by omega, F1, O1, [], [], S1.junk _ hD, Ex.refl _, S1.ex.none hD, upd_same, .nil, Nat.zero_le _, h0, S1.freshO hD⟩, fun i m H' hW => ?_⟩
    obtain ⟨em, F2, O2, acc, vacc, S2, e2, f2, hD2, r2, l2, hI, nO⟩ := hW
    have hC := hl i acc O2 (by omega) hI
    by_cases hi : i < xs.length
    · obtain ⟨x, hx⟩ : ∃ x, xs[i]? = some x := ⟨xs[i], List.getElem?_eq_getElem hi⟩
      have S2' := S2.hold hD2 f2 nO
      obtain ⟨g1, g2⟩ := hw.go _ F2 H' O2 i x S2' e2 hC hx
      obtain ⟨Nx, hNx⟩ : ∃ Nx : Hp → Prop, Nx = fun H3 => ∃ F3 O3 acc3 vacc3, S0 K Z F3 H3 O3 ∧ Ex F1 F3 ∧ F3 Dl = none ∧ H3 Dl = some (.lst vacc3) ∧ Rps K F3 acc3 vacc3 ∧ acc3.length ≤ i + 1 ∧ I (i + 1) acc3 O3 ∧ ∀ p ∈ O3, p.a ≠ Dl := ⟨_, rfl⟩
      refine .inr ⟨g1, Nx, fun H3 h3 => ⟨m - 1, by omega, by omega, by rw [hNx] at h3; exact h3⟩, fun z H3 hz3 => ?_⟩
      obtain ⟨F3, S3, e3, rz⟩ := g2 z H3 hz3
      have X' : XOk K (Z.hold Dl (.lst vacc)) F ex W := X.hold hZ hM
      have sw : Slots K F3 (wipeG G vs) (L2.wipe σ vs) := (s.mono (e1.trans (e2.trans e3))).wipe vs
      have hgo := hs i x acc O2 hx hI (Z.hold Dl (.lst vacc)) F3 H3 _ z S3 sw rz
      refine gm z _ H3 _ _ (fun σ2 H4 hq => ?_) (hg z _ H3 _ (hgo (fun σ2 H4 => tt σ2 H4 fun b H5 => if b = true then te σ2 H5 fun y H6 => ∃ acc3, H6 Dl = some (.lst acc3) ∧ acc3.length < sizeLine ∧ Nx (upd H6 Dl (.lst (acc3 ++ [y]))) else Nx H5) ?_))
      · obtain ⟨q1, q2, q3⟩ := hq
        refine ⟨wipe_ext (q2.trans (wipe_length σ vs)) fun k hk => (q3 k hk).trans ?_, q1⟩
        rw [wipe_at, if_neg hk]
      · intro F4 H4 σ4 G4 O4 S4 s4 e4 p4
        refine p4 _ F4 H4 σ4 (X'.mono (e1.trans (e2.trans (e3.trans e4)))) S4 s4 _ fun b F5 H5 O5 S5 e5 p5 => ?_
        cases b with
        | true =>
          refine p5.1 rfl _ F5 H5 σ4 (X'.mono (e1.trans (e2.trans (e3.trans (e4.trans e5))))) S5 (s4.mono e5) _ fun y vy F6 H6 O6 S6 e6 r6 p6 => ?_
          obtain ⟨S7, k1, k2, k3⟩ := S6.unhold hZ hM
          have e26 := e3.trans (e4.trans (e5.trans e6))
          exact ⟨vacc, k1, by rw [← r2.length]; omega, by rw [hNx]; exact ⟨F6, O6, acc ++ [y], vacc ++ [vy], S7.writeU k2 k3 hZ, e2.trans e26, k2, upd_same, (r2.mono e26).app (.one r6), by simp; omega, p6, k3⟩⟩
        | false =>
          obtain ⟨S7, k1, k2, k3⟩ := S5.unhold hZ hM
          have e25 := e3.trans (e4.trans e5)
          show Nx H5
          rw [hNx]
          exact ⟨F5, O5, acc, vacc, S7, e2.trans e25, k2, k1, r2.mono e25, by omega, p5.2 rfl, k3⟩
    · have ei : i = xs.length := by omega
      subst ei
      refine .inl ⟨hw.stop Z F2 H' O2 S2 e2 hC, ?_⟩
      have hend := hd acc O2 hI
      cases fr with
      | true => exact q _ _ _ H' O2 (S2.keepF hD2 f2 nO hZ) (e1.trans (e2.trans (Ex.new f2))) (.lst upd_same (r2.mono (Ex.new f2))) hend
      | false => exact q _ _ F2 H' _ (S2.take (d := .lst acc) f2 ⟨vacc, hD2, r2⟩ nO hZ) (e1.trans e2) (.mut Dl) (hend Dl nO)
end
end PyD
namespace PyD
open PySem PySem.Spec L2
section
variable {K : PySem.W.Frag} {W : WX} {ex : Ek} {G : Gm} {O : Ow} {P : D → Ow → Prop} {PT : Bool → Ow → Prop} {PA : List D → Ow → Prop} {E : EnD} {ta tb te tc : TE} {tt uu : TT} {t u : TS} {aa ab : TA}
theorem wpR_Ii {C : Int → Int → Prop} {f : Int → Int → Int} {i j : Int} (hc : C i j) (p : P (.int (f i j)) O) : wpR K (rI C fun i j => .int (f i j)) (.int i) (.int j) O P := fun Z F H vx vy S rx ry Q q => by
  cases rx
  cases ry
  exact ⟨i, j, rfl, rfl, hc, q _ _ F H O S (Ex.refl F) (.int _) p⟩
theorem wpR_I0i {f : Int → Int → Int} {i j : Int} (p : P (.int (f i j)) O) : wpR K (rI0 fun i j => .int (f i j)) (.int i) (.int j) O P := fun Z F H vx vy S rx ry Q q => by
  cases rx
  cases ry
  exact ⟨i, j, rfl, rfl, q _ _ F H O S (Ex.refl F) (.int _) p⟩
theorem wpR_I0b {f : Int → Int → Bool} {i j : Int} (p : P (.bl (f i j)) O) : wpR K (rI0 fun i j => .bl (f i j)) (.int i) (.int j) O P := fun Z F H vx vy S rx ry Q q => by
  cases rx
  cases ry
  exact ⟨i, j, rfl, rfl, q _ _ F H O S (Ex.refl F) (.bl _) p⟩
theorem wpU_int {f : Int → Int} {i : Int} (p : P (.int (f i)) O) : wpU K (rU fun i => .int (f i)) (.int i) O P := fun Z F H vx S rx Q q => by
  cases rx
  exact ⟨i, rfl, q _ _ F H O S (Ex.refl F) (.int _) p⟩
theorem wpR_or1 {r r' : R2} {x y : D} (h : wpR K r x y O P) : wpR K (fun x y H Q => r x y H Q ∨ r' x y H Q) x y O P := fun Z F H vx vy S rx ry Q q => .inl (h Z F H vx vy S rx ry Q q)
theorem wpC_or1 {r r' : List V → Hp → VK → Prop} {xs : List D} (h : wpC K r xs O P) : wpC K (fun xs H Q => r xs H Q ∨ r' xs H Q) xs O P := fun Z F H vs S rx Q q => .inl (h Z F H vs S rx Q q)
def rAddS : R2 := fun x y H Q => ∃ i j, x = .str i ∧ y = .str j ∧ i.length + j.length ≤ sizeLine ∧ Q (.str (i ++ j)) H
def rAddI : R2 := rI0 fun i j => .int (i + j)
def rAddA : R2 := fun x y H Q => rAddI x y H Q ∨ rCat x y H Q ∨ rAddS x y H Q
theorem opA_add {X : Cx} : OpR X (binaryOp .Add) rAddA := OpR.or op_add (OpR.or op_cat op_add_str)
theorem wpR_addI {i j : Int} (p : P (.int (i + j)) O) : wpR K rAddA (.int i) (.int j) O P := fun Z F H vx vy S rx ry Q q => .inl (wpR_I0i (f := fun i j => i + j) p Z F H vx vy S rx ry Q q)
/-- a list that was made: frozen or owned -/
def lstOf (O : Ow) (d : D) (xs : List D) : Prop := d = .lst xs ∨ ∃ a b, d = .mut a ∧ (⟨a, b, .lst xs⟩ : Ob) ∈ O
theorem lstOf.seq {d : D} {xs : List D} (h : lstOf O d xs) : seqOf O d xs := by
  rcases h with h | h
  · exact .inl h
  · exact .inr (.inr h)
theorem lstOf.at {Z : En0} {F H : Hp} {d : D} {xs : List D} {v : V} (h : lstOf O d xs) (S : S0 K Z F H O) (r : Rp K F d v) : ∃ a vs, v = .ref a ∧ H a = some (.lst vs) ∧ Rps K F xs vs := by
  rcases h with rfl | ⟨a, b, rfl, hm⟩
  · cases r with
    | lst h1 h2 => exact ⟨_, _, rfl, S.ex _ _ h1, h2⟩
  · cases r
    obtain ⟨_, ⟨vs, h2, h3⟩, _⟩ := S.own _ hm
    exact ⟨_, vs, rfl, h2, h3⟩
theorem lst_l {xs : List D} : lstOf O (.lst xs) xs := .inl rfl
theorem seq_l {xs : List D} : seqOf O (.lst xs) xs := .inl rfl
theorem seq_k {xs : List D} : seqOf O (.kl xs) xs := .inr (.inl rfl)
theorem seq_m {xs : List D} {a : Addr} {b : Bool} {i : Nat} (h : O[i]? = some ⟨a, b, .lst xs⟩) : seqOf O (.mut a) xs := .inr (.inr ⟨a, b, rfl, List.mem_of_getElem? h⟩)
theorem mk_new {Z : En0} {F H : Hp} {fr : Bool} {xs : List D} {vs : List V} {Q : VK} (S : S0 K Z F H O) (r : Rps K F xs vs) (h : lcEnd fr xs O P) (q : ∀ d v F' H' O', S0 K Z F' H' O' → Ex F F' → Rp K F' d v → P d O' → Q v H') : ∀ p, H p = none → Q (.ref p) (upd H p (.lst vs)) := fun p hp => by
  have hF := S.ex.none hp
  cases fr with
  | true => exact q _ _ _ _ _ (S.frz _ hp) (Ex.new hF) (.lst upd_same (r.mono (Ex.new hF))) h
  | false => exact q _ _ F _ _ (S.new _ (.lst xs) hp ⟨vs, upd_same, r⟩) (Ex.refl F) (.mut p) (h p (S.freshO hp))
theorem wpR_addL {x y : D} {xs ys : List D} (fr : Bool) (hx : lstOf O x xs) (hy : lstOf O y ys) (hl : xs.length + ys.length ≤ sizeLine) (p : lcEnd fr (xs ++ ys) O P) : wpR K rAddA x y O P := fun Z F H vx vy S rx ry Q q => by
  obtain ⟨a, vs, rfl, ha, ra⟩ := hx.at S rx
  obtain ⟨b, ws, rfl, hb, rb⟩ := hy.at S ry
  exact .inr (.inl ⟨a, b, vs, ws, rfl, rfl, ha, hb, by rw [← ra.length, ← rb.length]; exact hl, mk_new S (ra.app rb) p q⟩)
theorem wpE_lst (fr : Bool) (h : wpA K W ex aa G O fun xs O1 => xs.length ≤ sizeLine ∧ lcEnd fr xs O1 P) : wpE K W ex (tLst aa) G O P := fun Z F H σ X S s Q q =>
  h Z F H σ X S s _ fun xs vs F1 H1 O1 S1 e1 r1 ⟨hl, p⟩ => ⟨by rw [← r1.length]; exact hl, mk_new S1 r1 p fun d v F' H' O' S' e r p => q d v F' H' O' S' (e1.trans e) r p⟩
theorem wpE_tup (h : wpA K W ex aa G O fun xs O1 => xs.length ≤ sizeLine ∧ P (.tup xs) O1) : wpE K W ex (tTup aa) G O P := fun Z F H σ X S s Q q =>
  h Z F H σ X S s _ fun xs vs F1 H1 O1 S1 e1 r1 ⟨hl, p⟩ => ⟨by rw [← r1.length]; exact hl, fun a ha => by
    have hF := S1.ex.none ha
    exact q _ _ _ _ _ (S1.frz _ ha) (e1.trans (Ex.new hF)) (.tup upd_same (r1.mono (Ex.new hF))) p⟩
theorem wpR_ixL {x : D} {xs : List D} {i : Int} {y : D} (hx : seqOf O x xs) (hi : atI xs i = some y) (p : P y O) : wpR K (rIxL K) x (.int i) O P := fun Z F H vx vy S rx ry Q q => by
  obtain ⟨a, vs, rfl, ha, ra⟩ := hx.at S rx
  cases ry
  obtain ⟨j, hj, hx⟩ : ∃ j, ixN xs.length i = some j ∧ xs[j]? = some y := by
    unfold atI at hi
    cases e : ixN xs.length i with
    | none => rw [e] at hi; cases hi
    | some j => rw [e] at hi; exact ⟨j, rfl, hi⟩
  obtain ⟨v, hv, rv⟩ := ra.get hx
  refine ⟨a, vs, i, v, rfl, rfl, ha, ?_, q _ _ F H O S (Ex.refl F) rv p⟩
  unfold atI
  rw [← ra.length, hj]
  exact hv
theorem wpR_ixT {xs : List D} {i : Int} {y : D} (hi : atI xs i = some y) (p : P y O) : wpR K (rIxT K) (.tup xs) (.int i) O P := fun Z F H vx vy S rx ry Q q => by
  cases rx with
  | @tup a vs _ ht0 ra =>
  have ht := SqT.of (K := K) ht0
  cases ry
  obtain ⟨j, hj, hx⟩ : ∃ j, ixN xs.length i = some j ∧ xs[j]? = some y := by
    unfold atI at hi
    cases e : ixN xs.length i with
    | none => rw [e] at hi; cases hi
    | some j => rw [e] at hi; exact ⟨j, rfl, hi⟩
  obtain ⟨v, hv, rv⟩ := ra.get hx
  refine ⟨a, vs, i, v, rfl, rfl, ex_t S.ex ht, ?_, q _ _ F H O S (Ex.refl F) rv p⟩
  unfold atI
  rw [← ra.length, hj]
  exact hv
def rIxLT (K : PySem.W.Frag) : R2 := fun x y H Q => rIxL K x y H Q ∨ rIxT K x y H Q
theorem ix_lt {X : Cx} : IxR X (rIxLT X.K) := IxR.or ix_list ix_tup
theorem wpR_ixA {x : D} {xs : List D} {i : Int} {y : D} (hx : seqOf O x xs ∨ x = .tup xs) (hi : atI xs i = some y) (p : P y O) : wpR K (rIxLT K) x (.int i) O P := fun Z F H vx vy S rx ry Q q => by
  rcases hx with hx | rfl
  · exact .inl (wpR_ixL hx hi p Z F H vx vy S rx ry Q q)
  · exact .inr (wpR_ixT hi p Z F H vx vy S rx ry Q q)
theorem atI_nn {xs : List D} {i : Int} {y : D} (h0 : 0 ≤ i) (h : xs[i.toNat]? = some y) : atI xs i = some y := by
  obtain ⟨n, rfl⟩ := Int.eq_ofNat_of_zero_le h0
  exact atI_nat (by simpa using h)
theorem Rps.cut {F : Hp} {xs : List D} {vs : List V} (r : Rps K F xs vs) (lo hi : Option Int) : Rps K F ((xs.drop (HT.sIx xs.length 0 lo)).take (HT.sIx xs.length xs.length hi - HT.sIx xs.length 0 lo)) (cutV vs lo hi) := by
  unfold cutV
  rw [← r.length]
  exact (r.drop _).take _
def cutD (xs : List D) (lo hi : Option Int) : List D := (xs.drop (HT.sIx xs.length 0 lo)).take (HT.sIx xs.length xs.length hi - HT.sIx xs.length 0 lo)
theorem wpE_slL (fr : Bool) {tl th : TO} (h : wpE K W ex te G O fun x O1 => wpO K W ex tl G O1 fun lo O2 => wpO K W ex th G O2 fun hi O3 => ∃ xs, seqOf O3 x xs ∧ lcEnd fr (cutD xs lo hi) O3 P) : wpE K W ex (tSl (rSlL K) te tl th) G O P := fun Z F H σ X S s Q q =>
  h Z F H σ X S s _ fun d v F1 H1 O1 S1 e1 r1 p1 => p1 Z F1 H1 σ (X.mono e1) S1 (s.mono e1) _ fun lo F2 H2 O2 S2 e2 p2 => p2 Z F2 H2 σ (X.mono (e1.trans e2)) S2 (s.mono (e1.trans e2)) _ fun hi F3 H3 O3 S3 e3 ⟨xs, hx, p⟩ => by
    obtain ⟨a, vs, rfl, ha, ra⟩ := hx.at S3 (r1.mono (e2.trans e3))
    exact ⟨a, vs, rfl, ha, mk_new S3 (ra.cut lo hi) p fun d v F' H' O' S' e r p => q d v F' H' O' S' (e1.trans (e2.trans (e3.trans e))) r p⟩
/-- x in ints -/
theorem inV_ints (i : Int) : ∀ ns : List Int, inV (.int i) (ns.map V.int) = decide (i ∈ ns)
  | [] => rfl
  | n :: ns => by
    have ih := inV_ints i ns
    unfold inV at ih ⊢
    rw [List.map_cons, List.any_cons, ih]
    show ((n == i) || decide (i ∈ ns)) = decide (i ∈ n :: ns)
    by_cases h : n = i
    · subst h
      simp
    · have h2 : ¬ i = n := fun e => h e.symm
      simp [h, h2]
theorem wpR_inI {neg : Bool} {i : Int} {x : D} {ns : List Int} (hx : seqOf O x (ns.map D.int) ∨ x = .tup (ns.map D.int)) (p : P (.bl (if neg then !decide (i ∈ ns) else decide (i ∈ ns))) O) : wpR K (rIn K neg) (.int i) x O P := fun Z F H vx vy S rx ry Q q => by
  cases rx
  have go : ∀ a vs, vy = .ref a → (SqL K H a vs ∨ SqT K H a vs) → Rps K F (ns.map D.int) vs → rIn K neg (.int i) vy H Q := fun a vs ev h r => by
    subst ev
    have e := r.ints
    subst e
    refine ⟨a, _, rfl, h, rfl, by simp [flatV], ?_⟩
    rw [inV_ints]
    exact q _ _ F H O S (Ex.refl F) (.bl _) p
  rcases hx with hx | rfl
  · obtain ⟨a, vs, rfl, ha, ra⟩ := hx.at S ry
    exact go a vs rfl (.inl ha) ra
  · cases ry with
    | @tup a vs _ ht ra => exact go a vs rfl (.inr (SqT.of (S.ex _ _ ht))) ra
def rIsN : R2 := fun x y H Q => y = .non ∧ Q (.bl (decide (x = .non))) H
def rNotN : R2 := fun x y H Q => y = .non ∧ Q (.bl (!decide (x = .non))) H
theorem opA_notN {X : Cx} : OpR X (compareOp .IsNot) rNotN := op_notN
def isNon : D → Bool
  | .non => true
  | _ => false
theorem isNon_v {F : Hp} {d : D} {v : V} (r : Rp K F d v) : decide (v = .non) = isNon d := by
  cases r <;> rfl
theorem wpR_isN {x : D} (p : P (.bl (isNon x)) O) : wpR K rIsN x .non O P := fun Z F H vx vy S rx ry Q q => by
  cases ry
  refine ⟨rfl, ?_⟩
  rw [isNon_v rx]
  exact q _ _ F H O S (Ex.refl F) (.bl _) p
theorem wpR_notN {x : D} (p : P (.bl (!isNon x)) O) : wpR K rNotN x .non O P := fun Z F H vx vy S rx ry Q q => by
  cases ry
  refine ⟨rfl, ?_⟩
  rw [isNon_v rx]
  exact q _ _ F H O S (Ex.refl F) (.bl _) p
mutual
/-- data whose == is equality: no bools, no objects -/
def plainD : D → Bool
  | .non => true
  | .int _ => true
  | .str s => PySem.PyData.strOk s
  | .lst xs => plainDs xs
  | .kl xs => plainDs xs
  | .tup xs => plainDs xs
  | _ => false
def plainDs : List D → Bool
  | [] => true
  | x :: xs => plainD x && plainDs xs
end
mutual
def toPd : D → PyData
  | .int i => .int i
  | .str s => .str s
  | .bl b => .bool b
  | .lst xs => .list (toPds xs)
  | .kl xs => .list (toPds xs)
  | .tup xs => .tuple (toPds xs)
  | _ => .none
def toPds : List D → List PyData
  | [] => []
  | x :: xs => toPd x :: toPds xs
end
mutual
theorem Rp.dp {F H : Hp} (e : Ex F H) : ∀ {d : D} {v : V}, Rp K F d v → plainD d = true → Dp K H v (toPd d)
  | _, _, .non, _ => .non
  | _, _, .int i, _ => .int i
  | _, _, .str s, _ => .str s
  | _, _, .lst h r, p => .lst (SqL.of (e _ _ h)) (Rps.dp e r p)
  | _, _, .kl h r, p => .lst (ex_l e h) (Rps.dp e r p)
  | _, _, .tup h r, p => .tup (SqT.of (e _ _ h)) (Rps.dp e r p)
  | _, _, .bl _, p => by cases p
  | _, _, .ref _, p => by cases p
  | _, _, .mut _, p => by cases p
  | _, _, .ty _, p => by cases p
  | _, _, .dK _ _ _, p => by cases p
  | _, _, .dT _ _ _, p => by cases p
  | _, _, .ins _ _ _, p => by cases p
  | _, _, .exc0 _ _, p => by cases p
  | _, _, .exc1 _ _ _, p => by cases p
theorem Rps.dp {F H : Hp} (e : Ex F H) : ∀ {ds : List D} {vs : List V}, Rps K F ds vs → plainDs ds = true → DpAll K H vs (toPds ds)
  | _, _, .nil, _ => .nil
  | _, _, .cons a r, p => .cons (Rp.dp e a (Bool.and_eq_true_iff.mp p).1) (Rps.dp e r (Bool.and_eq_true_iff.mp p).2)
end
mutual
theorem canLay_pd : ∀ d : D, plainD d = true → (toPd d).canLay0 = true
  | .non, _ => rfl
  | .int _, _ => rfl
  | .str s, p => p
  | .lst xs, p => canLay_pds xs p
  | .kl xs, p => canLay_pds xs p
  | .tup xs, p => canLay_pds xs p
  | .bl _, p => by cases p
  | .ref _, p => by cases p
  | .mut _, p => by cases p
  | .ty _, p => by cases p
  | .dK _, p => by cases p
  | .dT _, p => by cases p
  | .ins _ _, p => by cases p
  | .exc _ _ _ _, p => by cases p
theorem canLay_pds : ∀ ds : List D, plainDs ds = true → PyData.canLayAll0 (toPds ds) = true
  | [], _ => rfl
  | d :: ds, p => Bool.and_eq_true_iff.mpr ⟨canLay_pd d (Bool.and_eq_true_iff.mp p).1, canLay_pds ds (Bool.and_eq_true_iff.mp p).2⟩
end
mutual
theorem eqv_pd : ∀ d e : D, plainD d = true → plainD e = true → (PyData.eqv (toPd d) (toPd e) = true ↔ toPd d = toPd e)
  | .non, e, _, q => by cases e <;> first | exact (Bool.false_ne_true q).elim | simp [toPd, PyData.eqv]
  | .int i, e, _, q => by cases e <;> first | exact (Bool.false_ne_true q).elim | simp [toPd, PyData.eqv]
  | .str s, e, _, q => by cases e <;> first | exact (Bool.false_ne_true q).elim | simp [toPd, PyData.eqv]
  | .lst xs, e, p, q => by
    cases e <;> first
      | exact (Bool.false_ne_true q).elim
      | (simp only [toPd, PyData.eqv, PyData.list.injEq]; exact eqv_pds xs _ p q)
      | simp [toPd, PyData.eqv]
  | .kl xs, e, p, q => by
    cases e <;> first
      | exact (Bool.false_ne_true q).elim
      | (simp only [toPd, PyData.eqv, PyData.list.injEq]; exact eqv_pds xs _ p q)
      | simp [toPd, PyData.eqv]
  | .tup xs, e, p, q => by
    cases e <;> first
      | exact (Bool.false_ne_true q).elim
      | (simp only [toPd, PyData.eqv, PyData.tuple.injEq]; exact eqv_pds xs _ p q)
      | simp [toPd, PyData.eqv]
  | .bl _, _, p, _ => by cases p
  | .ref _, _, p, _ => by cases p
  | .mut _, _, p, _ => by cases p
  | .ty _, _, p, _ => by cases p
  | .dK _, _, p, _ => by cases p
  | .dT _, _, p, _ => by cases p
  | .ins _ _, _, p, _ => by cases p
  | .exc _ _ _ _, _, p, _ => by cases p
theorem eqv_pds : ∀ ds es : List D, plainDs ds = true → plainDs es = true → (PyData.eqvAll (toPds ds) (toPds es) = true ↔ toPds ds = toPds es)
  | [], [], _, _ => by simp [toPds, PyData.eqvAll]
  | [], _ :: _, _, _ => by simp [toPds, PyData.eqvAll]
  | _ :: _, [], _, _ => by simp [toPds, PyData.eqvAll]
  | d :: ds, e :: es, p, q => by
    have h1 := eqv_pd d e (Bool.and_eq_true_iff.mp p).1 (Bool.and_eq_true_iff.mp q).1
    have h2 := eqv_pds ds es (Bool.and_eq_true_iff.mp p).2 (Bool.and_eq_true_iff.mp q).2
    simp only [toPds, PyData.eqvAll, Bool.and_eq_true, List.cons.injEq, h1, h2]
end
end
end PyD
namespace PyD
open PySem PySem.Spec L2
section
variable {K : PySem.W.Frag} {W : WX} {ex : Ek} {G : Gm} {O : Ow} {P : D → Ow → Prop} {PT : Bool → Ow → Prop} {PA : List D → Ow → Prop} {E : EnD} {ta tb te tc : TE} {tt uu : TT} {t u : TS} {aa ab : TA}
def rEqA (K : PySem.W.Frag) : R2 := fun x y H Q => rEq x y H Q ∨ rEqD K x y H Q
def rNeA (K : PySem.W.Frag) : R2 := fun x y H Q => rNe x y H Q ∨ rNeD K x y H Q
theorem opA_eq {X : Cx} (hu : X.A.units + 64 < cLine) : OpR X (compareOp .Eq) (rEqA X.K) := OpR.or op_eq (op_eqD hu)
theorem opA_ne {X : Cx} (hu : X.A.units + 64 < cLine) : OpR X (compareOp .NotEq) (rNeA X.K) := OpR.or op_ne (op_neD hu)
theorem dec_iff {p q : Prop} [Decidable p] [Decidable q] (h : p ↔ q) : decide p = decide q := by
  by_cases c : p
  · rw [decide_eq_true c, decide_eq_true (h.mp c)]
  · rw [decide_eq_false c, decide_eq_false fun z => c (h.mpr z)]
theorem wpR_eqI {i j : Int} (p : P (.bl (decide (i = j))) O) : wpR K (rEqA K) (.int i) (.int j) O P := fun Z F H vx vy S rx ry Q q => by
  cases rx
  cases ry
  refine .inl ⟨rfl, ?_⟩
  rw [dec_iff (show V.int i = V.int j ↔ i = j by simp)]
  exact q _ _ F H O S (Ex.refl F) (.bl _) p
theorem wpR_neI {i j : Int} (p : P (.bl (!decide (i = j))) O) : wpR K (rNeA K) (.int i) (.int j) O P := fun Z F H vx vy S rx ry Q q => by
  cases rx
  cases ry
  refine .inl ⟨rfl, ?_⟩
  rw [dec_iff (show V.int i = V.int j ↔ i = j by simp)]
  exact q _ _ F H O S (Ex.refl F) (.bl _) p
theorem wpR_eqS {i j : Str} (p : P (.bl (decide (i = j))) O) : wpR K (rEqA K) (.str i) (.str j) O P := fun Z F H vx vy S rx ry Q q => by
  cases rx
  cases ry
  refine .inl ⟨rfl, ?_⟩
  rw [dec_iff (show V.str i = V.str j ↔ i = j by simp)]
  exact q _ _ F H O S (Ex.refl F) (.bl _) p
theorem wpR_neS {i j : Str} (p : P (.bl (!decide (i = j))) O) : wpR K (rNeA K) (.str i) (.str j) O P := fun Z F H vx vy S rx ry Q q => by
  cases rx
  cases ry
  refine .inl ⟨rfl, ?_⟩
  rw [dec_iff (show V.str i = V.str j ↔ i = j by simp)]
  exact q _ _ F H O S (Ex.refl F) (.bl _) p
theorem wpR_eqB {i j : Bool} (p : P (.bl (decide (i = j))) O) : wpR K (rEqA K) (.bl i) (.bl j) O P := fun Z F H vx vy S rx ry Q q => by
  cases rx
  cases ry
  refine .inl ⟨rfl, ?_⟩
  rw [dec_iff (show V.bl i = V.bl j ↔ i = j by simp)]
  exact q _ _ F H O S (Ex.refl F) (.bl _) p
/-- what data an object holds now: an owned list by what it holds -/
def viewOf (O : Ow) (d e : D) : Prop := d = e ∨ ∃ a b xs, d = .mut a ∧ (⟨a, b, .lst xs⟩ : Ob) ∈ O ∧ e = .lst xs
theorem view_self {d : D} : viewOf O d d := .inl rfl
theorem view_m {xs : List D} {a : Addr} {b : Bool} {i : Nat} (h : O[i]? = some ⟨a, b, .lst xs⟩) : viewOf O (.mut a) (.lst xs) := .inr ⟨a, b, xs, rfl, List.mem_of_getElem? h, rfl⟩
theorem viewOf.dp {Z : En0} {F H : Hp} {d e : D} {v : V} (h : viewOf O d e) (S : S0 K Z F H O) (r : Rp K F d v) (p : plainD e = true) : Dp K H v (toPd e) := by
  rcases h with rfl | ⟨a, b, xs, rfl, hm, rfl⟩
  · exact r.dp S.ex p
  · cases r
    obtain ⟨_, ⟨vs, h2, h3⟩, _⟩ := S.own _ hm
    exact .lst (SqL.of h2) (h3.dp S.ex p)
def shal (d : D) : Prop := plainD d = true ∧ (toPd d).depth ≤ 64
theorem shal.ok {d : D} (h : shal d) : SeqAt.shaped (toPd d) = true := Bool.and_eq_true_iff.mpr ⟨canLay_pd d h.1, decide_eq_true h.2⟩
theorem wpR_eqD {x y d e : D} (hx : viewOf O x d) (hy : viewOf O y e) (sd : shal d) (se : shal e) (p : ∀ b : Bool, (b = true ↔ toPd d = toPd e) → P (.bl b) O) : wpR K (rEqA K) x y O P := fun Z F H vx vy S rx ry Q q =>
  .inr ⟨_, _, hx.dp S rx sd.1, hy.dp S ry se.1, sd.ok, se.ok, q _ _ F H O S (Ex.refl F) (.bl _) (p _ (eqv_pd d e sd.1 se.1))⟩
theorem wpR_neD {x y d e : D} (hx : viewOf O x d) (hy : viewOf O y e) (sd : shal d) (se : shal e) (p : ∀ b : Bool, (b = true ↔ toPd d = toPd e) → P (.bl (!b)) O) : wpR K (rNeA K) x y O P := fun Z F H vx vy S rx ry Q q =>
  .inr ⟨_, _, hx.dp S rx sd.1, hy.dp S ry se.1, sd.ok, se.ok, q _ _ F H O S (Ex.refl F) (.bl _) (p _ (eqv_pd d e sd.1 se.1))⟩
theorem pds_map {α : Type} (f : α → D) : ∀ xs : List α, toPds (xs.map f) = xs.map fun x => toPd (f x)
  | [] => rfl
  | x :: xs => by
    rw [List.map_cons, List.map_cons, ← pds_map f xs] <;> rfl
theorem depthAll_le {n : Nat} : ∀ {ds : List PyData}, (∀ d ∈ ds, d.depth ≤ n) → PyData.depthAll ds ≤ n
  | [], _ => by unfold PyData.depthAll; exact Nat.zero_le _
  | d :: ds, h => by
    unfold PyData.depthAll
    exact Nat.max_le.mpr ⟨h d List.mem_cons_self, depthAll_le fun e he => h e (List.mem_cons_of_mem _ he)⟩
/-- plain data of a depth of at most n -/
def shalN (n : Nat) (d : D) : Prop := plainD d = true ∧ (toPd d).depth ≤ n
theorem shalN.ok {n : Nat} {d : D} (h : shalN n d) (hn : n ≤ 64) : shal d := ⟨h.1, Nat.le_trans h.2 hn⟩
theorem shalN.mono {n m : Nat} {d : D} (h : shalN n d) (hn : n ≤ m) : shalN m d := ⟨h.1, Nat.le_trans h.2 hn⟩
theorem shalN_int {n : Nat} {i : Int} : shalN n (.int i) := ⟨rfl, by show (PyData.int i).depth ≤ n; unfold PyData.depth; exact Nat.zero_le _⟩
theorem plains_of : ∀ {xs : List D}, (∀ x ∈ xs, plainD x = true) → plainDs xs = true
  | [], _ => rfl
  | x :: xs, h => Bool.and_eq_true_iff.mpr ⟨h x List.mem_cons_self, plains_of fun y hy => h y (List.mem_cons_of_mem _ hy)⟩
theorem toPds_map : ∀ xs : List D, toPds xs = xs.map toPd
  | [] => rfl
  | x :: xs => by rw [List.map_cons, ← toPds_map xs] <;> rfl
theorem shalN_lst {n : Nat} {xs : List D} (h : ∀ x ∈ xs, shalN n x) : shalN (n + 1) (.lst xs) := by
  refine ⟨plains_of fun x hx => (h x hx).1, ?_⟩
  show (PyData.list (toPds xs)).depth ≤ n + 1
  unfold PyData.depth
  refine Nat.succ_le_succ (depthAll_le fun d hd => ?_)
  rw [toPds_map] at hd
  obtain ⟨x, hx, rfl⟩ := List.mem_map.mp hd
  exact (h x hx).2
theorem shalN_tup {n : Nat} {xs : List D} (h : ∀ x ∈ xs, shalN n x) : shalN (n + 1) (.tup xs) := by
  refine ⟨plains_of fun x hx => (h x hx).1, ?_⟩
  show (PyData.tuple (toPds xs)).depth ≤ n + 1
  unfold PyData.depth
  refine Nat.succ_le_succ (depthAll_le fun d hd => ?_)
  rw [toPds_map] at hd
  obtain ⟨x, hx, rfl⟩ := List.mem_map.mp hd
  exact (h x hx).2
theorem shal_L (ns : List Int) : shal (L ns) := (shalN_lst (n := 0) fun x hx => by
  obtain ⟨n, _, rfl⟩ := List.mem_map.mp hx
  exact shalN_int).ok (by decide)
theorem map_inj {α β : Type} {f : α → β} (h : ∀ a b, f a = f b → a = b) : ∀ {xs ys : List α}, xs.map f = ys.map f → xs = ys
  | [], [], _ => rfl
  | [], _ :: _, e => by cases e
  | _ :: _, [], e => by cases e
  | x :: xs, y :: ys, e => by
    rw [List.map_cons, List.map_cons, List.cons.injEq] at e
    rw [h _ _ e.1, map_inj h e.2]
theorem pd_lst {α : Type} {f : α → D} (h : ∀ a b, toPd (f a) = toPd (f b) → a = b) {xs ys : List α} : toPd (.lst (xs.map f)) = toPd (.lst (ys.map f)) ↔ xs = ys := by
  constructor
  · intro e
    have e2 : toPds (xs.map f) = toPds (ys.map f) := PyData.list.inj e
    rw [pds_map, pds_map] at e2
    exact map_inj h e2
  · intro e
    rw [e]
theorem pd_L {ns ms : List Int} : toPd (L ns) = toPd (L ms) ↔ ns = ms := pd_lst fun a b e => by
  have e2 : PyData.int a = PyData.int b := e
  exact PyData.int.inj e2
theorem wpR_neL {x y : D} {ns ms : List Int} (hx : viewOf O x (L ns)) (hy : viewOf O y (L ms)) (p : ∀ b : Bool, (b = true ↔ ns = ms) → P (.bl (!b)) O) : wpR K (rNeA K) x y O P := wpR_neD hx hy (shal_L _) (shal_L _) fun b h => p b (h.trans pd_L)
def rLenA (K : PySem.W.Frag) : List V → Hp → VK → Prop := fun xs H Q => ∃ x n, xs = [x] ∧ LenV K x H n ∧ Q (.int n) H
theorem callA_len {X : Cx} : CallR X (.builtin "len") (rLenA X.K) := call_len
theorem wpC_lenL {x : D} {xs : List D} (hx : seqOf O x xs) (p : P (.int (xs.length : Int)) O) : wpC K (rLenA K) [x] O P := fun Z F H vs S r Q q => by
  cases r with
  | cons ra rb =>
    cases rb
    obtain ⟨a, vs, rfl, ha, rv⟩ := hx.at S ra
    exact ⟨_, vs.length, rfl, .inl ⟨vs, ha, rfl⟩, by rw [← rv.length]; exact q _ _ F H O S (Ex.refl F) (.int _) p⟩
theorem wpC_lenT {xs : List D} (p : P (.int (xs.length : Int)) O) : wpC K (rLenA K) [.tup xs] O P := fun Z F H vs S r Q q => by
  cases r with
  | cons ra rb =>
    cases rb
    cases ra with
    | @tup a vs _ ht rv => exact ⟨_, vs.length, rfl, .inr ⟨vs, SqT.of (S.ex _ _ ht), rfl⟩, by rw [← rv.length]; exact q _ _ F H O S (Ex.refl F) (.int _) p⟩
def rListA (K : PySem.W.Frag) : List V → Hp → VK → Prop := fun xs H Q => ∃ p ys, xs = [.ref p] ∧ (SqL K H p ys ∨ SqT K H p ys) ∧ ∀ l, H l = none → Q (.ref l) (upd H l (.lst ys))
theorem callA_list {X : Cx} : CallR X (.type "list") (rListA X.K) := call_list_of
theorem wpC_list (fr : Bool) {x : D} {xs : List D} (hx : seqOf O x xs) (p : lcEnd fr xs O P) : wpC K (rListA K) [x] O P := fun Z F H vs S r Q q => by
  cases r with
  | cons ra rb =>
    cases rb
    obtain ⟨a, vs, rfl, ha, rv⟩ := hx.at S ra
    exact ⟨a, vs, rfl, .inl ha, mk_new S rv p q⟩
theorem wpC_any {x : D} {bs : List Bool} (hx : seqOf O x (bs.map D.bl)) (p : P (.bl (bs.any id)) O) : wpC K (rAny K) [x] O P := fun Z F H vs S r Q q => by
  cases r with
  | cons ra rb =>
    cases rb
    obtain ⟨a, vs, rfl, ha, rv⟩ := hx.at S ra
    have e := rv.bls
    subst e
    exact ⟨a, bs, rfl, ha, q _ _ F H O S (Ex.refl F) (.bl _) p⟩
theorem wpC_sortI (fr : Bool) {x : D} {ns : List Int} (hx : seqOf O x (ns.map D.int)) (p : ∀ ms : List Int, ms.Perm ns → ms.Pairwise (· ≤ ·) → lcEnd fr (ms.map D.int) O P) : wpC K (rSortedI K) [x] O P := fun Z F H vs S r Q q => by
  cases r with
  | cons ra rb =>
    cases rb
    obtain ⟨a, vs, rfl, ha, rv⟩ := hx.at S ra
    have e := rv.ints
    subst e
    exact ⟨a, ns, rfl, ha, fun ms l h1 h2 hl => mk_new S (Rps.of_ints ms) (p ms h1 h2) q l hl⟩
def rMax2 : List V → Hp → VK → Prop := fun xs H Q => ∃ i j, xs = [.int i, .int j] ∧ Q (.int (if j > i then j else i)) H
def rMin2 : List V → Hp → VK → Prop := fun xs H Q => ∃ i j, xs = [.int i, .int j] ∧ Q (.int (if j < i then j else i)) H
theorem callA_max2 {X : Cx} (hc : X.calm = true) : CallR X (.builtin "max") rMax2 := call_max2 hc
theorem wpC_max2 {i j : Int} (p : P (.int (if j > i then j else i)) O) : wpC K rMax2 [.int i, .int j] O P := fun Z F H vs S r Q q => by
  cases r with
  | cons ra rb =>
    cases rb with
    | cons rc rd =>
      cases rd
      cases ra
      cases rc
      exact ⟨i, j, rfl, q _ _ F H O S (Ex.refl F) (.int _) p⟩
theorem wpC_min2 {i j : Int} (p : P (.int (if j < i then j else i)) O) : wpC K rMin2 [.int i, .int j] O P := fun Z F H vs S r Q q => by
  cases r with
  | cons ra rb =>
    cases rb with
    | cons rc rd =>
      cases rd
      cases ra
      cases rc
      exact ⟨i, j, rfl, q _ _ F H O S (Ex.refl F) (.int _) p⟩
def rAbs : List V → Hp → VK → Prop := fun xs H Q => ∃ i, xs = [.int i] ∧ Q (.int (if i < 0 then -i else i)) H
theorem callA_abs {X : Cx} : CallR X (.builtin "abs") rAbs := call_abs
theorem wpC_abs {i : Int} (p : P (.int (if i < 0 then -i else i)) O) : wpC K rAbs [.int i] O P := fun Z F H vs S r Q q => by
  cases r with
  | cons ra rb =>
    cases rb
    cases ra
    exact ⟨i, rfl, q _ _ F H O S (Ex.refl F) (.int _) p⟩
def rIntA : List V → Hp → VK → Prop := fun xs H Q => (∃ i, xs = [.int i] ∧ Q (.int i) H) ∨ ∃ k, xs = [.bl k] ∧ Q (.int (if k then 1 else 0)) H
theorem callA_int {X : Cx} : CallR X (.type "int") rIntA := call_int1
theorem wpC_int {i : Int} (p : P (.int i) O) : wpC K rIntA [.int i] O P := fun Z F H vs S r Q q => by
  cases r with
  | cons ra rb =>
    cases rb
    cases ra
    exact .inl ⟨i, rfl, q _ _ F H O S (Ex.refl F) (.int _) p⟩
inductive TyD (O : Ow) : D → String → Prop where
  | non : TyD O .non "NoneType"
  | bl (b : Bool) : TyD O (.bl b) "bool"
  | int (i : Int) : TyD O (.int i) "int"
  | str (s : Str) : TyD O (.str s) "str"
  | lst (xs : List D) : TyD O (.lst xs) "list"
  | own {a : Addr} {b : Bool} {xs : List D} (h : (⟨a, b, .lst xs⟩ : Ob) ∈ O) : TyD O (.mut a) "list"
  | tup (xs : List D) : TyD O (.tup xs) "tuple"
theorem wpC_isi {x : D} {t n : String} {b : Bool} (ht : TyD O x t) (hk : kitB t n = some b) (p : P (.bl b) O) : wpC K (rIsi K) [x, .ty n] O P := fun Z F H vs S r Q q => by
  cases r with
  | @cons _ _ vx _ ra rb =>
    cases rb with
    | cons rc rd =>
      cases rd
      cases rc
      have go : TyX K H vx (.type t) := by
        cases ht with
        | non => cases ra; exact .base .non
        | bl b => cases ra; exact .base (.bl b)
        | int i => cases ra; exact .base (.int i)
        | str s => cases ra; exact .base (.str s)
        | lst xs => cases ra with
          | lst h1 _ => exact .base (.lst (S.ex _ _ h1))
        | own h =>
          cases ra
          obtain ⟨_, ⟨vs, h2, _⟩, _⟩ := S.own _ h
          exact .base (.lst h2)
        | tup xs => cases ra with
          | tup h1 _ =>
            rcases SqT.of (K := K) (S.ex _ _ h1) with (h1 | ⟨o, h1⟩) | ⟨o, its, m, h1, h2, _⟩
            · exact .base (.tup h1)
            · exact .fTuple h1
            · exact .kTuple h1 h2
      exact ⟨_, _, _, _, b, rfl, .ty n, go, kit_ty hk, q _ _ F H O S (Ex.refl F) (.bl _) p⟩
theorem wpE_bm {T : String} {r : V → List V → Hp → VK → Prop} (ht : T = "list") (h : wpE K W ex te G O fun x O1 => (∃ xs, seqOf O1 x xs) ∧ wpA K W ex aa G O1 fun ys O2 => wpM K r x ys O2 P) : wpE K W ex (tBM K T r te aa) G O P := fun Z F H σ X S s Q q =>
  h Z F H σ X S s _ fun x v F1 H1 O1 S1 e1 r1 ⟨⟨xs, hx⟩, p1⟩ => by
    subst ht
    obtain ⟨a, vs, rfl, ha, rv⟩ := hx.at S1 r1
    exact ⟨.inl ⟨rfl, vs, ha⟩, p1 Z F1 H1 σ (X.mono e1) S1 (s.mono e1) _ fun ys vy F2 H2 O2 S2 e2 r2 p2 => p2 Z F2 H2 _ _ S2 (r1.mono e2) r2 Q fun d v F3 H3 O3 S3 e3 r3 p3 => q d v F3 H3 O3 S3 (e1.trans (e2.trans e3)) r3 p3⟩
theorem wpE_bm0 {T : String} {r : V → List V → Hp → VK → Prop} (ht : T = "list") (h : wpE K W ex te G O fun x O1 => (∃ xs, seqOf O1 x xs) ∧ wpM K r x [] O1 P) : wpE K W ex (tBM0 K T r te) G O P := fun Z F H σ X S s Q q =>
  h Z F H σ X S s _ fun x v F1 H1 O1 S1 e1 r1 ⟨⟨xs, hx⟩, p1⟩ => by
    subst ht
    obtain ⟨a, vs, rfl, ha, rv⟩ := hx.at S1 r1
    exact ⟨.inl ⟨rfl, vs, ha⟩, p1 Z F1 H1 _ _ S1 r1 .nil Q fun d v F3 H3 O3 S3 e3 r3 p3 => q d v F3 H3 O3 S3 (e1.trans e3) r3 p3⟩
theorem wpM_append {j : Nat} {a : Addr} {b : Bool} {xs : List D} {y : D} (hj : O[j]? = some ⟨a, b, .lst xs⟩) (hl : xs.length < sizeLine) (p : P .non (O.set j ⟨a, b, .lst (xs ++ [y])⟩)) : wpM K rAppend (.mut a) [y] O P := fun Z F H vx vs S rx r Q q => by
  cases rx
  cases r with
  | cons ra rb =>
    cases rb
    obtain ⟨_, ⟨ws, h2, h3⟩, _⟩ := S.own _ (List.mem_of_getElem? hj)
    exact ⟨a, ws, _, rfl, rfl, h2, by rw [← h3.length]; exact hl, q _ _ F _ _ (S.write hj (d' := .lst (xs ++ [y])) ⟨_, upd_same, h3.app (.one ra)⟩) (Ex.refl F) .non p⟩
theorem wpM_popAt {j : Nat} {a : Addr} {b : Bool} {xs : List D} {i : Int} {y : D} (hj : O[j]? = some ⟨a, b, .lst xs⟩) (h0 : 0 ≤ i) (hb : i < 2 ^ 63) (hy : xs[i.toNat]? = some y) (p : P y (O.set j ⟨a, b, .lst (xs.eraseIdx i.toNat)⟩)) : wpM K rPopAt (.mut a) [.int i] O P := fun Z F H vx vs S rx r Q q => by
  cases rx
  cases r with
  | cons ra rb =>
    cases rb
    cases ra
    obtain ⟨_, ⟨ws, h2, h3⟩, _⟩ := S.own _ (List.mem_of_getElem? hj)
    obtain ⟨v, hv, rv⟩ := h3.get hy
    have hlen : i.toNat < ws.length := (List.getElem?_eq_some_iff.mp hv).1
    refine ⟨a, ws, i, i.toNat, v, rfl, rfl, h2, by omega, hb, ?_, hv, q _ _ F _ _ (S.write hj (d' := .lst (xs.eraseIdx i.toNat)) ⟨_, upd_same, h3.erase _⟩) (Ex.refl F) rv p⟩
    exact (ixN_seq (n := ws.length) (by unfold ixN; rw [if_pos h0, if_pos (by omega)])).1
theorem wpM_reverse {j : Nat} {a : Addr} {b : Bool} {xs : List D} (hj : O[j]? = some ⟨a, b, .lst xs⟩) (p : P .non (O.set j ⟨a, b, .lst xs.reverse⟩)) : wpM K rReverse (.mut a) [] O P := fun Z F H vx vs S rx r Q q => by
  cases rx
  cases r
  obtain ⟨_, ⟨ws, h2, h3⟩, _⟩ := S.own _ (List.mem_of_getElem? hj)
  exact ⟨a, ws, rfl, rfl, h2, q _ _ F _ _ (S.write hj (d' := .lst xs.reverse) ⟨_, upd_same, h3.rev⟩) (Ex.refl F) .non p⟩
theorem wpM_indexI {x : D} {ns : List Int} {i : Int} (hx : seqOf O x (ns.map D.int)) (hi : i ∈ ns) (p : P (.int (ns.idxOf i : Nat)) O) : wpM K (rIndex K) x [.int i] O P := fun Z F H vx vs S rx r Q q => by
  cases r with
  | cons ra rb =>
    cases rb
    cases ra
    obtain ⟨a, vs, rfl, ha, rv⟩ := hx.at S rx
    have e := rv.ints
    subst e
    have hl := List.idxOf_lt_length_iff.mpr hi
    refine ⟨a, _, .int i, ns.idxOf i, .int i, rfl, rfl, ha, rfl, by simp [flatV], ?_, by simp [eqV], fun m z' hm hz => ?_, q _ _ F H O S (Ex.refl F) (.int _) p⟩
    · rw [List.getElem?_map, List.getElem?_eq_getElem hl]
      simp
    · rw [List.getElem?_map, List.getElem?_eq_getElem (show m < ns.length by omega)] at hz
      have hz2 : z' = V.int ns[m] := (Option.some.inj hz).symm
      subst hz2
      show (ns[m] == i) = false
      have h3 := List.not_of_lt_findIdx (p := (· == i)) (xs := ns) (show m < ns.findIdx (· == i) from hm)
      simpa using h3
/-- xs[i] = v -/
theorem wpPut_lst {j : Nat} {a : Addr} {b : Bool} {xs : List D} {i : Int} {d : D} {PO : Ow → Prop} (hj : O[j]? = some ⟨a, b, .lst xs⟩) (h0 : 0 ≤ i) (hi : i < xs.length) (p : PO (O.set j ⟨a, b, .lst (xs.set i.toNat d)⟩)) : wpPut K rSetL (.mut a) (.int i) d O PO := fun Z F H vo vi vv S ro ri rv Q q => by
  cases ro
  cases ri
  obtain ⟨_, ⟨ws, h2, h3⟩, _⟩ := S.own _ (List.mem_of_getElem? hj)
  refine ⟨a, ws, i, i.toNat, rfl, rfl, h2, ?_, q F _ _ (S.write hj (d' := .lst (xs.set i.toNat d)) ⟨_, upd_same, h3.set _ rv⟩) (Ex.refl F) p⟩
  unfold ixN
  rw [if_pos h0, if_pos (by rw [← h3.length]; exact hi)]
def tTru (K : PySem.W.Frag) (ta : TE) : TT := fun σ H Q => ta σ H fun x H' => ∃ k, TruV K x H' k ∧ Q k H'
inductive TrD (O : Ow) : D → Bool → Prop where
  | non : TrD O .non false
  | bl (b : Bool) : TrD O (.bl b) b
  | int (i : Int) : TrD O (.int i) (i != 0)
  | str (s : Str) (h : s.length ≤ sizeLine) : TrD O (.str s) ((s.length : Int) != 0)
  | seq {x : D} {xs : List D} (h : seqOf O x xs) : TrD O x (!xs.isEmpty)
  | tup (xs : List D) : TrD O (.tup xs) (!xs.isEmpty)
theorem isEmpty_rps {F : Hp} {ds : List D} {vs : List V} (r : Rps K F ds vs) : ds.isEmpty = vs.isEmpty := by
  cases r <;> rfl
theorem wpT_tru (h : wpE K W ex te G O fun d O1 => ∃ b, TrD O1 d b ∧ PT b O1) : wpT K W ex (tTru K te) G O PT := fun Z F H σ X S s Q q =>
  h Z F H σ X S s _ fun d v F1 H1 O1 S1 e1 r1 ⟨b, hd, p⟩ => by
    refine ⟨b, ?_, q b F1 H1 O1 S1 e1 p⟩
    cases hd with
    | non => cases r1; rfl
    | bl b => cases r1; rfl
    | int i => cases r1; rfl
    | str s h => cases r1; exact ⟨h, rfl⟩
    | seq h =>
      obtain ⟨a, vs, rfl, ha, rv⟩ := h.at S1 r1
      exact .inl ⟨vs, ha, by rw [isEmpty_rps rv]⟩
    | tup xs =>
      cases r1 with
      | tup h1 rv => exact .inr (.inl ⟨_, SqT.of (S1.ex _ _ h1), by rw [isEmpty_rps rv]⟩)
end
end PyD
namespace PyD
open PySem PySem.Spec L2
section
variable {K : PySem.W.Frag} {W : WX} {ex : Ek} {G : Gm} {O : Ow} {P : D → Ow → Prop} {PT : Bool → Ow → Prop} {PA : List D → Ow → Prop} {E : EnD} {ta tb te tc td : TE} {tt uu : TT} {t u : TS} {aa ab : TA}
section
variable {κ : Type} [DecidableEq κ]
def valD (kvs : List (κ × D)) (k : κ) : Option D := (kvs.find? fun kv => decide (kv.1 = k)).map (·.2)
def putD (kvs : List (κ × D)) (k : κ) (v : D) : List (κ × D) := if (kvs.any fun kv => decide (kv.1 = k)) = true then kvs.map (fun kv => if kv.1 = k then (kv.1, v) else kv) else kvs ++ [(k, v)]
def RKv (K : PySem.W.Frag) (F : Hp) (kds : List (κ × D)) (kvs : List (κ × V)) : Prop := kds.map (·.1) = kvs.map (·.1) ∧ Rps K F (kds.map (·.2)) (kvs.map (·.2))
omit [DecidableEq κ] in
theorem RKv.nil {F : Hp} : RKv K F ([] : List (κ × D)) [] := ⟨rfl, .nil⟩
omit [DecidableEq κ] in
theorem RKv.len {F : Hp} {kds : List (κ × D)} {kvs : List (κ × V)} (r : RKv K F kds kvs) : kds.length = kvs.length := by
  have h := congrArg List.length r.1
  simpa using h
omit [DecidableEq κ] in
theorem RKv.cons_inv {F : Hp} {p : κ × D} {kds : List (κ × D)} {kvs : List (κ × V)} (r : RKv K F (p :: kds) kvs) : ∃ v kvs', kvs = (p.1, v) :: kvs' ∧ Rp K F p.2 v ∧ RKv K F kds kvs' := by
  cases kvs with
  | nil => cases r.1
  | cons q kvs =>
    obtain ⟨h1, h2⟩ := r
    rw [List.map_cons, List.map_cons, List.cons.injEq] at h1
    cases h2 with
    | cons ra rb =>
      refine ⟨q.2, kvs, ?_, ra, h1.2, rb⟩
      rw [h1.1]
theorem RKv.val {F : Hp} {k : κ} : ∀ {kds : List (κ × D)} {kvs : List (κ × V)}, RKv K F kds kvs → (∀ d, valD kds k = some d → ∃ v, valV kvs k = some v ∧ Rp K F d v) ∧ (valD kds k = none → valV kvs k = none)
  | [], kvs, r => by
    have : kvs = [] := by
      cases kvs with
      | nil => rfl
      | cons q kvs => cases r.1
    subst this
    exact ⟨fun d h => by simp [valD] at h, fun _ => rfl⟩
  | p :: kds, kvs, r => by
    obtain ⟨v, kvs', rfl, rv, r'⟩ := r.cons_inv
    have ih := RKv.val (k := k) r'
    by_cases h : p.1 = k
    · refine ⟨fun d e => ⟨v, by simp [valV, List.find?_cons, h], ?_⟩, fun e => ?_⟩
      · simp [valD, List.find?_cons, h] at e
        rw [← e]
        exact rv
      · simp [valD, List.find?_cons, h] at e
    · have e1 : valD (p :: kds) k = valD kds k := by simp [valD, List.find?_cons, h]
      have e2 : valV ((p.1, v) :: kvs') k = valV kvs' k := by simp [valV, List.find?_cons, h]
      rw [e1, e2]
      exact ih
theorem RKv.any {F : Hp} {k : κ} : ∀ {kds : List (κ × D)} {kvs : List (κ × V)}, RKv K F kds kvs → (kds.any fun kv => decide (kv.1 = k)) = kvs.any fun kv => decide (kv.1 = k)
  | [], kvs, r => by
    cases kvs with
    | nil => rfl
    | cons q kvs => cases r.1
  | p :: kds, kvs, r => by
    obtain ⟨v, kvs', rfl, rv, r'⟩ := r.cons_inv
    rw [List.any_cons, List.any_cons, RKv.any r']
theorem RKv.put {F : Hp} {k : κ} {d : D} {v : V} {kds : List (κ × D)} {kvs : List (κ × V)} (r : RKv K F kds kvs) (rv : Rp K F d v) : RKv K F (putD kds k d) (putK kvs k v) := by
  unfold putD putK
  rw [r.any]
  split
  · have go : ∀ {kds : List (κ × D)} {kvs : List (κ × V)}, RKv K F kds kvs → RKv K F (kds.map fun kv => if kv.1 = k then (kv.1, d) else kv) (kvs.map fun kv => if kv.1 = k then (kv.1, v) else kv) := by
      intro kds
      induction kds with
      | nil =>
        intro kvs r
        cases kvs with
        | nil => exact .nil
        | cons q kvs => cases r.1
      | cons p kds ih =>
        intro kvs r
        obtain ⟨u, kvs', rfl, ru, r'⟩ := r.cons_inv
        obtain ⟨h1, h2⟩ := ih r'
        rw [List.map_cons, List.map_cons]
        by_cases h : p.1 = k
        · rw [if_pos h, if_pos h]
          exact ⟨by simp only [List.map_cons, h1], .cons rv h2⟩
        · rw [if_neg h, if_neg h]
          exact ⟨by simp only [List.map_cons, h1], .cons ru h2⟩
    exact go r
  · refine ⟨by rw [List.map_append, List.map_append, r.1] <;> rfl, ?_⟩
    rw [List.map_append, List.map_append]
    exact r.2.app (.one rv)
end
/-- a dict with ints and texts as keys: frozen or owned -/
def dOf (O : Ow) (x : D) (kds : List (Key × D)) : Prop := x = .dK kds ∨ ∃ a b, x = .mut a ∧ (⟨a, b, .dK kds⟩ : Ob) ∈ O
theorem d_l {kds : List (Key × D)} : dOf O (.dK kds) kds := .inl rfl
theorem d_m {kds : List (Key × D)} {a : Addr} {b : Bool} {i : Nat} (h : O[i]? = some ⟨a, b, .dK kds⟩) : dOf O (.mut a) kds := .inr ⟨a, b, rfl, List.mem_of_getElem? h⟩
theorem dOf.at {Z : En0} {F H : Hp} {x : D} {kds : List (Key × D)} {v : V} (h : dOf O x kds) (S : S0 K Z F H O) (r : Rp K F x v) : ∃ a kvs, v = .ref a ∧ Rd H a (.dK kvs) ∧ RKv K F kds kvs := by
  rcases h with rfl | ⟨a, b, rfl, hm⟩
  · cases r with
    | dK h1 h2 h3 => exact ⟨_, _, rfl, ex_d S.ex h1, h2, h3⟩
  · cases r
    obtain ⟨_, ⟨vs, h2, h3, h4⟩, _⟩ := S.own _ hm
    exact ⟨_, vs, rfl, .inl h2, h3, h4⟩
theorem dget_k {H : Hp} {a : Addr} {kvs : List (Key × V)} {k : Key} (e : Rd H a (.dK kvs)) : DGet H a (kV k) (valV kvs k) := .inl ⟨kvs, k, e, rfl, rfl⟩
def kD : Key → D
  | .inl i => .int i
  | .inr s => .str s
theorem kD_v {F : Hp} {k : Key} {v : V} (r : Rp K F (kD k) v) : v = kV k := by
  cases k with
  | inl i => cases r; rfl
  | inr s => cases r; rfl
theorem wpE_dnew (p : ∀ a, (∀ q ∈ O, q.a ≠ a) → P (.mut a) (⟨a, true, .dK []⟩ :: O)) : wpE K W ex tDNewK G O P := fun Z F H σ X S s Q q a ha =>
  q _ _ F _ _ (S.new _ (.dK []) ha ⟨[], upd_same, rfl, .nil⟩) (Ex.refl F) (.mut a) (p a (S.freshO ha))
theorem wpE_dget (h : wpE K W ex td G O fun x O1 => wpE K W ex te G O1 fun y O2 => ∃ kds k v, dOf O2 x kds ∧ y = kD k ∧ valD kds k = some v ∧ P v O2) : wpE K W ex (tDGet td te) G O P := fun Z F H σ X S s Q q =>
  h Z F H σ X S s _ fun x vx F1 H1 O1 S1 e1 r1 p1 => p1 Z F1 H1 σ (X.mono e1) S1 (s.mono e1) _ fun y vy F2 H2 O2 S2 e2 r2 ⟨kds, k, v, hd, hy, hv, p⟩ => by
    obtain ⟨a, kvs, rfl, ha, rk⟩ := hd.at S2 (r1.mono e2)
    subst hy
    obtain rfl := kD_v r2
    obtain ⟨w, hw, rw'⟩ := rk.val.1 v hv
    exact ⟨a, w, rfl, by rw [← hw]; exact dget_k ha, q _ _ F2 H2 O2 S2 (e1.trans e2) rw' p⟩
theorem wpE_din (h : wpE K W ex te G O fun y O1 => wpE K W ex td G O1 fun x O2 => ∃ kds k, dOf O2 x kds ∧ y = kD k ∧ P (.bl (valD kds k).isSome) O2) : wpE K W ex (tDIn te td) G O P := fun Z F H σ X S s Q q =>
  h Z F H σ X S s _ fun y vy F1 H1 O1 S1 e1 r1 p1 => p1 Z F1 H1 σ (X.mono e1) S1 (s.mono e1) _ fun x vx F2 H2 O2 S2 e2 r2 ⟨kds, k, hd, hy, p⟩ => by
    obtain ⟨a, kvs, rfl, ha, rk⟩ := hd.at S2 r2
    subst hy
    obtain rfl := kD_v r1
    refine ⟨a, _, rfl, dget_k ha, ?_⟩
    have e : (valV kvs k).isSome = (valD kds k).isSome := by
      cases e : valD kds k with
      | none => rw [rk.val.2 e] <;> rfl
      | some d =>
        obtain ⟨w, hw, _⟩ := rk.val.1 d e
        rw [hw] <;> rfl
    rw [e]
    exact q _ _ F2 H2 O2 S2 (e1.trans e2) (.bl _) p
theorem wpE_dnotin (h : wpE K W ex te G O fun y O1 => wpE K W ex td G O1 fun x O2 => ∃ kds k, dOf O2 x kds ∧ y = kD k ∧ P (.bl (!(valD kds k).isSome)) O2) : wpE K W ex (tDNotIn te td) G O P := fun Z F H σ X S s Q q =>
  h Z F H σ X S s _ fun y vy F1 H1 O1 S1 e1 r1 p1 => p1 Z F1 H1 σ (X.mono e1) S1 (s.mono e1) _ fun x vx F2 H2 O2 S2 e2 r2 ⟨kds, k, hd, hy, p⟩ => by
    obtain ⟨a, kvs, rfl, ha, rk⟩ := hd.at S2 r2
    subst hy
    obtain rfl := kD_v r1
    refine ⟨a, _, rfl, dget_k ha, ?_⟩
    have e : (valV kvs k).isSome = (valD kds k).isSome := by
      cases e : valD kds k with
      | none => rw [rk.val.2 e] <;> rfl
      | some d =>
        obtain ⟨w, hw, _⟩ := rk.val.1 d e
        rw [hw] <;> rfl
    rw [e]
    exact q _ _ F2 H2 O2 S2 (e1.trans e2) (.bl _) p
theorem wpS_dput (h : wpE K W ex tb G O fun v O1 => wpE K W ex td G O1 fun x O2 => wpE K W ex te G O2 fun y O3 => ∃ (j : Nat) (a : Addr) (b : Bool) (kds : List (Key × D)) (k : Key), x = .mut a ∧ O3[j]? = some ⟨a, b, .dK kds⟩ ∧ y = kD k ∧ kds.length < sizeLine ∧ E.nx G (O3.set j ⟨a, b, .dK (putD kds k v)⟩)) :
    wpS K W ex (sDPut td te tb) G O E := fun Z F H σ X S s D0 q =>
  h Z F H σ X S s _ fun v vv F1 H1 O1 S1 e1 r1 p1 => p1 Z F1 H1 σ (X.mono e1) S1 (s.mono e1) _ fun x vx F2 H2 O2 S2 e2 r2 p2 => p2 Z F2 H2 σ (X.mono (e1.trans e2)) S2 (s.mono (e1.trans e2)) _ fun y vy F3 H3 O3 S3 e3 r3 ⟨j, a, b, kds, k, hx, hj, hy, hl, p⟩ => by
    subst hx
    subst hy
    cases r2
    obtain rfl := kD_v r3
    obtain ⟨_, ⟨kvs, h2, h3, h4⟩, _⟩ := S3.own _ (List.mem_of_getElem? hj)
    have rk : RKv K F3 kds kvs := ⟨h3, h4⟩
    have rp := rk.put (k := k) (r1.mono (e2.trans e3))
    exact ⟨a, _, rfl, DPut.k h2 (by rw [← rk.len]; exact hl), q.nx F3 _ σ G _ (e1.trans (e2.trans e3)) (S3.write hj (d' := .dK (putD kds k v)) ⟨_, upd_same, rp.1, rp.2⟩) (s.mono (e1.trans (e2.trans e3))) p⟩
def dOfT (O : Ow) (x : D) (kds : List (List Key × D)) : Prop := x = .dT kds ∨ ∃ a b, x = .mut a ∧ (⟨a, b, .dT kds⟩ : Ob) ∈ O
theorem dt_l {kds : List (List Key × D)} : dOfT O (.dT kds) kds := .inl rfl
theorem dOfT.at {Z : En0} {F H : Hp} {x : D} {kds : List (List Key × D)} {v : V} (h : dOfT O x kds) (S : S0 K Z F H O) (r : Rp K F x v) : ∃ a kvs, v = .ref a ∧ Rd H a (.dT kvs) ∧ RKv K F kds kvs := by
  rcases h with rfl | ⟨a, b, rfl, hm⟩
  · cases r with
    | dT h1 h2 h3 => exact ⟨_, _, rfl, ex_d S.ex h1, h2, h3⟩
  · cases r
    obtain ⟨_, ⟨vs, h2, h3, h4⟩, _⟩ := S.own _ hm
    exact ⟨_, vs, rfl, .inl h2, h3, h4⟩
theorem kDs_v {F : Hp} : ∀ {ks : List Key} {vs : List V}, Rps K F (ks.map kD) vs → vs = ks.map kV
  | [], _, .nil => rfl
  | k :: ks, _, .cons a r => by
    rw [kD_v a, kDs_v r] <;> rfl
theorem keyT {F H : Hp} {ks : List Key} {v : V} (e : Ex F H) (r : Rp K F (.tup (ks.map kD)) v) : ∃ b, v = .ref b ∧ H b = some (.tup (ks.map kV)) := by
  cases r with
  | @tup b vs _ ht rv =>
    obtain rfl := kDs_v rv
    exact ⟨b, rfl, e _ _ ht⟩
theorem dgetT {H : Hp} {a b : Addr} {kvs : List (List Key × V)} {k : List Key} (e : Rd H a (.dT kvs)) (h : H b = some (.tup (k.map kV))) : DGet H a (.ref b) (valV kvs k) := .inr ⟨kvs, k, b, e, rfl, h, rfl⟩
theorem RKv.isSome {κ : Type} [DecidableEq κ] {F : Hp} {k : κ} {kds : List (κ × D)} {kvs : List (κ × V)} (r : RKv K F kds kvs) : (valV kvs k).isSome = (valD kds k).isSome := by
  cases e : valD kds k with
  | none => rw [r.val.2 e] <;> rfl
  | some d =>
    obtain ⟨w, hw, _⟩ := r.val.1 d e
    rw [hw] <;> rfl
theorem wpE_dinT (h : wpE K W ex te G O fun y O1 => wpE K W ex td G O1 fun x O2 => ∃ kds k, dOfT O2 x kds ∧ y = .tup (k.map kD) ∧ P (.bl (valD kds k).isSome) O2) : wpE K W ex (tDIn te td) G O P := fun Z F H σ X S s Q q =>
  h Z F H σ X S s _ fun y vy F1 H1 O1 S1 e1 r1 p1 => p1 Z F1 H1 σ (X.mono e1) S1 (s.mono e1) _ fun x vx F2 H2 O2 S2 e2 r2 ⟨kds, k, hd, hy, p⟩ => by
    obtain ⟨a, kvs, rfl, ha, rk⟩ := hd.at S2 r2
    subst hy
    obtain ⟨b, rfl, hb⟩ := keyT S2.ex (r1.mono e2)
    refine ⟨a, _, rfl, dgetT ha hb, ?_⟩
    rw [rk.isSome]
    exact q _ _ F2 H2 O2 S2 (e1.trans e2) (.bl _) p
theorem wpE_dnotinT (h : wpE K W ex te G O fun y O1 => wpE K W ex td G O1 fun x O2 => ∃ kds k, dOfT O2 x kds ∧ y = .tup (k.map kD) ∧ P (.bl (!(valD kds k).isSome)) O2) : wpE K W ex (tDNotIn te td) G O P := fun Z F H σ X S s Q q =>
  h Z F H σ X S s _ fun y vy F1 H1 O1 S1 e1 r1 p1 => p1 Z F1 H1 σ (X.mono e1) S1 (s.mono e1) _ fun x vx F2 H2 O2 S2 e2 r2 ⟨kds, k, hd, hy, p⟩ => by
    obtain ⟨a, kvs, rfl, ha, rk⟩ := hd.at S2 r2
    subst hy
    obtain ⟨b, rfl, hb⟩ := keyT S2.ex (r1.mono e2)
    refine ⟨a, _, rfl, dgetT ha hb, ?_⟩
    rw [rk.isSome]
    exact q _ _ F2 H2 O2 S2 (e1.trans e2) (.bl _) p
theorem wpS_dputT (h : wpE K W ex tb G O fun v O1 => wpE K W ex td G O1 fun x O2 => wpE K W ex te G O2 fun y O3 => ∃ (j : Nat) (a : Addr) (b : Bool) (kds : List (List Key × D)) (k : List Key), x = .mut a ∧ O3[j]? = some ⟨a, b, .dT kds⟩ ∧ y = .tup (k.map kD) ∧ kds.length < sizeLine ∧ E.nx G (O3.set j ⟨a, b, .dT (putD kds k v)⟩)) :
    wpS K W ex (sDPut td te tb) G O E := fun Z F H σ X S s D0 q =>
  h Z F H σ X S s _ fun v vv F1 H1 O1 S1 e1 r1 p1 => p1 Z F1 H1 σ (X.mono e1) S1 (s.mono e1) _ fun x vx F2 H2 O2 S2 e2 r2 p2 => p2 Z F2 H2 σ (X.mono (e1.trans e2)) S2 (s.mono (e1.trans e2)) _ fun y vy F3 H3 O3 S3 e3 r3 ⟨j, a, b, kds, k, hx, hj, hy, hl, p⟩ => by
    subst hx
    subst hy
    cases r2
    obtain ⟨c, rfl, hc⟩ := keyT S3.ex r3
    obtain ⟨_, ⟨kvs, h2, h3, h4⟩, _⟩ := S3.own _ (List.mem_of_getElem? hj)
    have rk : RKv K F3 kds kvs := ⟨h3, h4⟩
    have rp := rk.put (k := k) (r1.mono (e2.trans e3))
    exact ⟨a, _, rfl, .inr ⟨kvs, k, c, h2, rfl, hc, by rw [← rk.len]; exact hl, rfl⟩, q.nx F3 _ σ G _ (e1.trans (e2.trans e3)) (S3.write hj (d' := .dT (putD kds k v)) ⟨_, upd_same, rp.1, rp.2⟩) (s.mono (e1.trans (e2.trans e3))) p⟩
abbrev Kk := D → Ow → Prop
abbrev Xk := Xc → Ow → Prop
abbrev DSp := List D → Ow → Kk → Xk → Prop
def entry (F H : Hp) (O : Ow) : En0 := ⟨F, H, O.map Ob.a⟩
def toSp (K : PySem.W.Frag) (sp : DSp) : Sp := fun vs H Q E0 => ∃ ds F O k x, S0 K (entry F H O) F H O ∧ (∀ p ∈ O, p.loc = false) ∧ Rps K F ds vs ∧ sp ds O k x ∧
  (∀ d O' v F' H', S0 K (entry F H O) F' H' O' → Rp K F' d v → k d O' → Q v H') ∧ ∀ e O' dd F' H', S0 K (entry F H O) F' H' O' → XR K F' e dd → x e O' → E0 (.ref e.cls) dd H'
theorem toSp_len {sp : DSp} {n : Nat} (h : ∀ ds O k x, sp ds O k x → ds.length = n) : ∀ vs H Q E0, toSp K sp vs H Q E0 → vs.length = n := fun vs H Q E0 ⟨ds, F, O, k, x, _, _, r, q, _⟩ => by
  rw [← r.length]
  exact h _ _ _ _ q
/-- the slots at a def's entry -/
def startD (n : Nat) (ds : List D) : Gm := ds.map some ++ List.replicate (n - ds.length) none
theorem slots_start {F : Hp} {N : List Str} {ds : List D} {vs : List V} (r : Rps K F ds vs) : Slots K F (startD N.length ds) (L2.start N vs) := by
  refine ⟨?_, fun i d h => ?_⟩
  · unfold startD L2.start
    rw [List.length_append, List.length_append, List.length_map, List.length_map, List.length_replicate, List.length_replicate, r.length]
  · unfold startD at h
    unfold L2.start
    by_cases hi : i < ds.length
    · rw [List.getElem?_append_left (by rw [List.length_map]; exact hi), List.getElem?_map] at h
      rw [List.getElem?_append_left (by rw [List.length_map, ← r.length]; exact hi), List.getElem?_map]
      cases e : ds[i]? with
      | none => rw [e] at h; cases h
      | some d' =>
        rw [e] at h
        have h2 : d' = d := by simpa using h
        subst h2
        obtain ⟨v, hv, rv⟩ := r.get e
        exact ⟨v, by rw [hv] <;> rfl, rv⟩
    · rw [List.getElem?_append_right (by rw [List.length_map]; omega), List.getElem?_replicate] at h
      split at h <;> cases h
/-- a body that keeps its promise over data keeps it -/
theorem body_ok {sp : DSp} {N : List Str} {ts : WX → TS} (h : ∀ W ds O k x, sp ds O k x → (∀ p ∈ O, p.loc = false) → wpS K W (fun e _ O' => x e O') (ts W) (startD N.length ds) O { nx := fun _ O' => k .non O', rt := k }) :
    ∀ vs H Q E0, toSp K sp vs H Q E0 → ts (fun cls d _ H => E0 cls d H) { nx := fun _ H' => Q .non H', rt := Q } (L2.start N vs) H := fun vs H Q E0 ⟨ds, F, O, k, x, S, lo, r, q, qk, qx⟩ =>
  h _ ds O _ _ q lo (entry F H O) F H _ (fun x d F' H' σ G O' _ S' s' r' e' => qx _ _ d F' H' S' r' e') S (slots_start r) _
    ⟨fun F' H' σ G O' _ S' s' p => qk _ _ .non F' H' S' .non p, fun F' H' d v O' _ S' r' p => qk _ _ v F' H' S' r' p, fun _ _ _ _ _ _ _ _ z => z.elim, fun _ _ _ _ _ _ _ _ z => z.elim⟩
theorem S0.fzk {Z : En0} {F H : Hp} (S : S0 K Z F H O) {a : Addr} {o : HO} (e : Z.F a = some o) (h : Z.H a ≠ none) : F a = some o := by
  rcases S.fz a h with k | ⟨k, _⟩
  · exact k.trans e
  · rw [e] at k
    cases k
theorem S0.fzn {Z : En0} {F H : Hp} (S : S0 K Z F H O) {a : Addr} {d : D} {F2 H2 : Hp} (e : Z.F a = none) (h : Z.H a ≠ none) (m : Mu K F2 H2 a d) (e2 : H2 a = H a) : F a = none := by
  rcases S.fz a h with k | ⟨_, ws, k⟩
  · exact k.trans e
  · exact absurd (e2.trans (S.ex a _ k)) (m.notup ws)
theorem S0.fzt {Z : En0} {F H F' H' : Hp} {M : List Addr} {N : Ow} (S : S0 K Z F H O) (S' : S0 K ⟨F, H, M⟩ F' H' N) {a : Addr} (e : Z.H a ≠ none) (h : H a ≠ none) : F' a = Z.F a ∨ (Z.F a = none ∧ ∃ vs, F' a = some (.tup vs)) := by
  rcases S'.fz a h with k | ⟨k1, k2⟩
  · have k : F' a = F a := k
    rw [k]
    exact S.fz a e
  · have k1 : F a = none := k1
    rcases S.fz a e with z | ⟨z, ws, z2⟩
    · exact .inr ⟨z.symm.trans k1, k2⟩
    · rw [z2] at k1
      cases k1
/-- the heap, handed to a callee that is handed no owned object -/
theorem S0.call0 {Z : En0} {F H : Hp} (S : S0 K Z F H O) : S0 K (entry F H []) F H [] where
  ex := S.ex
  frame := fun _ _ _ e => e
  fz := fun _ _ => .inl rfl
  alive := fun _ h => by cases h
  own := fun _ h => by cases h
  nd := .nil
theorem S0.back0 {Z : En0} {F H F' H' : Hp} {N : Ow} (S : S0 K Z F H O) (S' : S0 K (entry F H []) F' H' N) : S0 K Z F' H' (N ++ O) ∧ Ex F F' := by
  have keep : ∀ a o, H a = some o → H' a = some o := fun a o e => S'.frame a o (by simp [entry]) e
  have eF : Ex F F' := fun a o e => by
    have h1 := S.ex a o e
    exact S'.fzk e (by show H a ≠ none; rw [h1]; intro z; cases z)
  have loc : ∀ p ∈ N, p.loc = true ∧ H p.a = none := fun p hp => by
    obtain ⟨_, _, h3, h4⟩ := S'.own p hp
    cases hb : p.loc with
    | true => exact ⟨rfl, h3 hb⟩
    | false =>
      have := h4 hb
      simp [entry] at this
  refine ⟨⟨S'.ex, fun a o hm e => keep a o (S.frame a o hm e), fun a e => ?_, fun a hm e => ?_, fun p hp => ?_, ?_⟩, eF⟩
  · have h1 : H a ≠ none := fun z => e (S.fresh z)
    exact S.fzt S' e h1
  · cases e2 : H a with
    | none => exact S.alive a hm e2
    | some o =>
      rw [keep a o e2] at e
      cases e
  · rcases List.mem_append.mp hp with hp | hp
    · obtain ⟨h1, h2, _, _⟩ := S'.own p hp
      obtain ⟨l1, l2⟩ := loc p hp
      exact ⟨h1, h2, fun _ => S.fresh l2, fun e => by rw [l1] at e; cases e⟩
    · obtain ⟨h1, h2, h3⟩ := S.own p hp
      obtain ⟨o, ho⟩ := h2.some
      refine ⟨?_, h2.mono eF (fun o e => keep _ o e), h3⟩
      exact S'.fzn h1 (by show H p.a ≠ none; rw [ho]; intro z; cases z) h2 (by rw [ho, keep _ o ho])
  · rw [List.map_append]
    refine List.nodup_append.mpr ⟨S'.nd, S.nd, fun x hx y hy e => ?_⟩
    subst e
    obtain ⟨p, hp, rfl⟩ := List.mem_map.mp hx
    obtain ⟨r, hr, e⟩ := List.mem_map.mp hy
    obtain ⟨o, ho⟩ := (S.own r hr).2.1.some
    rw [e, (loc p hp).2] at ho
    cases ho
theorem wpE_call0 {sp : DSp} {dvs : List V} {dds : List D} (hd : ∀ F, Rps K F dds dvs) (h : wpA K W ex aa G O fun ds O1 => sp (ds ++ dds) [] (fun d N => P d (N ++ O1)) (fun x N => ex x G (N ++ O1))) :
    wpE K W ex (tCallSD (toSp K sp) dvs (WE W) aa) G O P := fun Z F H σ X S s Q q =>
  h Z F H σ X S s _ fun ds vs F1 H1 O1 S1 e1 r1 p1 => by
    refine ⟨ds ++ dds, F1, [], _, _, S1.call0, fun _ h => (by cases h), r1.app (hd F1), p1, fun d N v F' H' S' r' k => ?_, fun x N dd F' H' S' r' k => ?_⟩
    · obtain ⟨S2, e2⟩ := S1.back0 S'
      exact q d v F' H' _ S2 (e1.trans e2) r' k
    · obtain ⟨S2, e2⟩ := S1.back0 S'
      exact X x dd F' H' σ G _ (e1.trans e2) S2 (s.mono (e1.trans e2)) r' k
/-- the heap, handed to a callee that is handed one owned object -/
theorem S0.call1 {Z : En0} {F H : Hp} (S : S0 K Z F H O) {j : Nat} {a : Addr} {b : Bool} {d : D} (hj : O[j]? = some ⟨a, b, d⟩) : S0 K (entry F H [⟨a, false, d⟩]) F H [⟨a, false, d⟩] := by
  obtain ⟨h1, h2, h3⟩ := S.own _ (List.mem_of_getElem? hj)
  refine ⟨S.ex, fun _ _ _ e => e, fun _ _ => .inl rfl, fun x hx => ?_, fun p hp => ?_, by simp⟩
  · have e : x = a := by simpa [entry] using hx
    subst e
    obtain ⟨o, ho⟩ := h2.some
    show H x ≠ none
    rw [ho]
    intro z
    cases z
  · have e : p = ⟨a, false, d⟩ := by simpa using hp
    subst e
    exact ⟨h1, h2, fun e => (by cases e), fun _ => (by simp [entry])⟩
theorem S0.back1 {Z : En0} {F H F' H' : Hp} {N : Ow} (S : S0 K Z F H O) {j : Nat} {a : Addr} {b : Bool} {d d' : D} (hj : O[j]? = some ⟨a, b, d⟩) (S' : S0 K (entry F H [⟨a, false, d⟩]) F' H' (N ++ [⟨a, false, d'⟩])) : S0 K Z F' H' (N ++ O.set j ⟨a, b, d'⟩) ∧ Ex F F' := by
  have own1 := S.own _ (List.mem_of_getElem? hj)
  have keep : ∀ x o, x ≠ a → H x = some o → H' x = some o := fun x o hx e => S'.frame x o (by simpa [entry] using hx) e
  have eF : Ex F F' := fun x o e => by
    have h1 := S.ex x o e
    exact S'.fzk e (by show H x ≠ none; rw [h1]; intro z; cases z)
  have nda : ∀ p ∈ N, p.a ≠ a := fun p hp e => by
    have nd := S'.nd
    rw [List.map_append] at nd
    exact (List.nodup_append.mp nd).2.2 p.a (List.mem_map_of_mem hp) a (by simp) e
  have loc : ∀ p ∈ N, p.loc = true ∧ H p.a = none := fun p hp => by
    obtain ⟨_, _, h3, h4⟩ := S'.own p (List.mem_append_left _ hp)
    cases hb : p.loc with
    | true => exact ⟨rfl, h3 hb⟩
    | false =>
      have h5 := h4 hb
      have h6 : p.a = a := by simpa [entry] using h5
      exact absurd h6 (nda p hp)
  obtain ⟨_, hma, _⟩ := S'.own ⟨a, false, d'⟩ (List.mem_append_right _ (by simp))
  have na : ∀ o, Z.H a = some o → a ∈ Z.M := fun o e => by
    cases b with
    | true =>
      have := own1.2.2.1 rfl
      have h2 : Z.H a = none := this
      rw [h2] at e
      cases e
    | false => exact own1.2.2.2 rfl
  refine ⟨⟨S'.ex, fun x o hm e => ?_, fun x e => ?_, fun x hm e => ?_, fun p hp => ?_, ?_⟩, eF⟩
  · have hx : x ≠ a := fun z => hm (by rw [z]; exact na o (by rw [← z]; exact e))
    exact keep x o hx (S.frame x o hm e)
  · have h1 : H x ≠ none := fun z => e (S.fresh z)
    exact S.fzt S' e h1
  · by_cases hx : x = a
    · rw [hx] at e
      obtain ⟨o, ho⟩ := hma.some
      rw [ho] at e
      cases e
    · cases e2 : H x with
      | none => exact S.alive x hm e2
      | some o =>
        rw [keep x o hx e2] at e
        cases e
  · rcases List.mem_append.mp hp with hp | hp
    · obtain ⟨h1, h2, _, _⟩ := S'.own p (List.mem_append_left _ hp)
      obtain ⟨l1, l2⟩ := loc p hp
      exact ⟨h1, h2, fun _ => S.fresh l2, fun e => by rw [l1] at e; cases e⟩
    · by_cases hx : p.a = a
      · have hi : (O.set j ⟨a, b, d'⟩)[j]? = some ⟨a, b, d'⟩ := List.getElem?_set_self (List.getElem?_eq_some_iff.mp hj).1
        have nd2 : ((O.set j ⟨a, b, d'⟩).map Ob.a).Nodup := by rw [map_a_set hj]; exact S.nd
        have e := nd_idx nd2 hi hp hx
        subst e
        refine ⟨?_, hma, own1.2.2⟩
        exact S'.fzn own1.1 (by obtain ⟨o, ho⟩ := own1.2.1.some; show H a ≠ none; have h9 : H a = some o := ho; rw [h9]; intro z; cases z) hma rfl
      · rcases List.mem_or_eq_of_mem_set hp with hp | rfl
        · obtain ⟨h1, h2, h3⟩ := S.own p hp
          obtain ⟨o, ho⟩ := h2.some
          refine ⟨?_, h2.mono eF (fun o e => keep _ o hx e), h3⟩
          exact S'.fzn h1 (by show H p.a ≠ none; rw [ho]; intro z; cases z) h2 (by rw [ho, keep _ o hx ho])
        · exact absurd rfl hx
  · rw [List.map_append, map_a_set hj]
    have ndN : (N.map Ob.a).Nodup := by
      have nd := S'.nd
      rw [List.map_append] at nd
      exact (List.nodup_append.mp nd).1
    refine List.nodup_append.mpr ⟨ndN, S.nd, fun x hx y hy e => ?_⟩
    subst e
    obtain ⟨p, hp, rfl⟩ := List.mem_map.mp hx
    obtain ⟨r, hr, e⟩ := List.mem_map.mp hy
    obtain ⟨o, ho⟩ := (S.own r hr).2.1.some
    rw [e, (loc p hp).2] at ho
    cases ho
/-- a call that is handed the owned object at j -/
theorem wpE_call1 {sp : DSp} {dvs : List V} {dds : List D} (hd : ∀ F, Rps K F dds dvs) (h : wpA K W ex aa G O fun ds O1 => ∃ (j : Nat) (a : Addr) (b : Bool) (d : D), O1[j]? = some ⟨a, b, d⟩ ∧
      sp (ds ++ dds) [⟨a, false, d⟩] (fun r N => ∃ M d', N = M ++ [⟨a, false, d'⟩] ∧ P r (M ++ O1.set j ⟨a, b, d'⟩)) (fun x N => ∃ M d', N = M ++ [⟨a, false, d'⟩] ∧ ex x G (M ++ O1.set j ⟨a, b, d'⟩))) :
    wpE K W ex (tCallSD (toSp K sp) dvs (WE W) aa) G O P := fun Z F H σ X S s Q q =>
  h Z F H σ X S s _ fun ds vs F1 H1 O1 S1 e1 r1 ⟨j, a, b, d, hj, p1⟩ => by
    refine ⟨ds ++ dds, F1, _, _, _, S1.call1 hj, fun p h => (by have e : p = ⟨a, false, d⟩ := (by simpa using h); rw [e]), r1.app (hd F1), p1, fun r N v F' H' S' r' k => ?_, fun x N dd F' H' S' r' k => ?_⟩
    · obtain ⟨M, d', rfl, k⟩ := k
      obtain ⟨S2, e2⟩ := S1.back1 hj S'
      exact q r v F' H' _ S2 (e1.trans e2) r' k
    · obtain ⟨M, d', rfl, k⟩ := k
      obtain ⟨S2, e2⟩ := S1.back1 hj S'
      exact X x dd F' H' σ G _ (e1.trans e2) S2 (s.mono (e1.trans e2)) r' k
end
end PyD
namespace L2
open PySem PySem.Spec PyProof.Rows
/-- sorted(xs), xs a list of pairs of ints, written or made: ks the pairs with their places -/
def rSortedPQ (K : PySem.W.Frag) : List V → Hp → VK → Prop := fun vs H Q => ∃ (a : Addr) (ks : List (Addr × (Int × Int))), vs = [V.ref a] ∧ SqL K H a (ks.map fun p => V.ref p.1) ∧ (∀ p ∈ ks, SqT K H p.1 [.int p.2.1, .int p.2.2]) ∧
  ∀ (ls : List (Addr × (Int × Int))) (p : Addr), ls.Perm ks → ls.Pairwise (fun x y => x.2.1 < y.2.1 ∨ x.2.1 = y.2.1 ∧ x.2.2 ≤ y.2.2) → H p = none → Q (.ref p) (upd H p (.lst (ls.map fun p => V.ref p.1)))
section
variable {X : Cx}
theorem cr_sortedPQ : CallR X (.builtin "sorted") (rSortedPQ X.K) := by
  intro pins s σ H vs us Q I r h
  obtain ⟨a, ks, rfl, hs, hx, q⟩ := h
  obtain ⟨its, rv, hl, hz⟩ := I.list hs
  obtain ⟨u, rfl, ru⟩ := vals1 r
  obtain rfl : u = Value.ref a := ru
  obtain ⟨e1, e2⟩ := refs_back rv fun x m => by
    obtain ⟨p, _, e⟩ := List.mem_map.mp m
    exact ⟨p.1, e.symm⟩
  -- a place says its pair
  have one : ∀ p ∈ ks, ∀ p' ∈ ks, p.1 = p'.1 → p = p' := fun p hp p' hp' e => by
    have h1 := hx p hp
    have h2 := hx p' hp'
    rw [← e] at h2
    have h3 := I.tuple_inj h1 h2
    obtain ⟨b, i, j⟩ := p
    obtain ⟨b', i', j'⟩ := p'
    dsimp only at e
    subst e
    simp at h3
    rw [h3.1, h3.2]
  let k : Addr → Int × Int := fun b => (ks.lookup b).getD (0, 0)
  have kk : ∀ p ∈ ks, k p.1 = p.2 := fun p hp => by
    show (ks.lookup p.1).getD (0, 0) = p.2
    have : ∃ v, ks.lookup p.1 = some v ∧ (p.1, v) ∈ ks := by
      clear q hs hx rv e1 one k hz
      induction ks with
      | nil => cases hp
      | cons r ks ih =>
        obtain ⟨b, v⟩ := r
        rw [List.lookup_cons]
        cases e : p.1 == b with
        | true =>
          refine ⟨v, rfl, ?_⟩
          rw [beq_iff_eq.mp e]
          exact List.mem_cons_self
        | false =>
          rcases List.mem_cons.mp hp with z | z
          · rw [z] at e
            simp at e
          · obtain ⟨v', h1, h2⟩ := ih z
            exact ⟨v', h1, List.mem_cons_of_mem _ h2⟩
    obtain ⟨v, h1, h2⟩ := this
    rw [h1]
    have h3 := one _ h2 _ hp rfl
    rw [← h3] <;> rfl
  let kv : Value → Int × Int := fun u => match u with
    | .ref b => k b
    | _ => (0, 0)
  refine SrtO.sorted_pairsO (k := kv) hl.isList (by rw [← rv.length]; exact hz) (fun v hv => ?_) fun h' d out h1 h2 kp hd hn => ?_
  · obtain ⟨t, rfl⟩ := e2 v hv
    have hm : V.ref t ∈ ks.map fun p => V.ref p.1 := by rw [e1]; exact List.mem_map.mpr ⟨_, hv, rfl⟩
    obtain ⟨p, hp, e⟩ := List.mem_map.mp hm
    cases e
    obtain ⟨its2, r2, ⟨o, ho, hc, n, hd⟩, _⟩ := I.tuple (hx p hp)
    obtain ⟨u1, u2, rfl, ri, rj⟩ := vals2 r2
    obtain ⟨t1, rfl⟩ := ri
    obtain ⟨t2, rfl⟩ := rj
    refine ⟨p.1, o, t1, t2, n, rfl, ho, hc, ?_⟩
    show o.data = .seq #[.int (k p.1).1 t1, .int (k p.1).2 t2] n
    rw [kk p hp]
    exact hd
  · have h3 : ∀ u ∈ out, ∃ a, u = Value.ref a := fun u hu => e2 u (h2.perm.mem_iff.mp hu)
    obtain ⟨n, hn⟩ := hn
    let g : Value → Addr × (Int × Int) := fun u => match u with
      | .ref b => (b, k b)
      | _ => (a, (0, 0))
    have eg : ∀ u ∈ out, V.ref (g u).1 = backV u := fun u hu => by
      obtain ⟨b, rfl⟩ := h3 u hu
      rfl
    have em : (out.map g).map (fun p => V.ref p.1) = out.map backV := by
      rw [List.map_map]
      exact List.map_congr_left eg
    have ek : its.map g = ks := by
      have e3 : (ks.map fun p => V.ref p.1).map (fun v => match v with
          | .ref b => (b, k b)
          | _ => (a, (0, 0))) = ks := by
        rw [List.map_map]
        conv => rhs; rw [← List.map_id ks]
        refine List.map_congr_left fun p hp => ?_
        show (p.1, k p.1) = p
        rw [kk p hp]
      rw [e1, List.map_map] at e3
      rw [← e3]
      refine List.map_congr_left fun u hu => ?_
      obtain ⟨b, rfl⟩ := e2 u hu
      rfl
    have hp : (out.map g).Perm ks := by
      rw [← ek]
      exact h2.perm.map g
    have ho : (out.map g).Pairwise (fun x y => x.2.1 < y.2.1 ∨ x.2.1 = y.2.1 ∧ x.2.2 ≤ y.2.2) := by
      refine List.pairwise_map.mpr (List.Pairwise.imp_of_mem ?_ h1)
      intro u v hu hv huv
      obtain ⟨b, rfl⟩ := h3 u hu
      obtain ⟨c, rfl⟩ := h3 v hv
      have z := SrtO.lexB_no.mp huv
      show (k b).1 < (k c).1 ∨ (k b).1 = (k c).1 ∧ (k b).2 ≤ (k c).2
      have z : ¬((k c).1 < (k b).1 ∨ (k c).1 = (k b).1 ∧ (k c).2 < (k b).2) := z
      omega
    refine ⟨.ref d, upd H d (.lst (out.map backV)), I.laid (t' := s.toks) kp hd ⟨?_, out, n, vals_back h3, hn⟩, rfl, ?_⟩
    · rw [List.length_map, h2.perm.length_eq, ← rv.length]
      exact hz
    · rw [← em]
      exact q _ d hp ho (I.hok.fresh hd)
end
end L2
namespace PyD
open PySem PySem.Spec L2
section
variable {K : PySem.W.Frag} {W : WX} {ex : Ek} {G : Gm} {O : Ow} {P : D → Ow → Prop} {E : EnD} {ta tb te tc tk tv : TE} {tt uu tt1 : TT} {t u : TS} {aa : TA}
abbrev prD (p : Int × Int) : D := .tup [.int p.1, .int p.2]
abbrev lexI (x y : Int × Int) : Prop := x.1 < y.1 ∨ x.1 = y.1 ∧ x.2 ≤ y.2
theorem wpE_lc2 {wi wi1 : TI} {g g1 : TG} {vs vs1 : List Nat} (fr : Bool) (hg : gIn vs g) (gm : gMono g) (hg1 : gIn vs1 g1) (gm1 : gMono g1)
    (h : wpI K W ex wi G O fun xs C O1 => ∃ I : Nat → List D → Ow → Prop, I 0 [] O1 ∧ (∀ i acc O', i ≤ xs.length → I i acc O' → C O') ∧
      (∀ i x acc O', xs[i]? = some x → I i acc O' → wpG K g x (wipeG G vs) O' fun G2 O2 => wpT K W ex tt G2 O2 fun b O3 => (b = false → I (i + 1) acc O3) ∧ (b = true → wpI K W ex wi1 G2 O3 fun ys C1 O4 => ∃ J : Nat → List D → Ow → Prop, J 0 acc O4 ∧ (∀ j acc O', j ≤ ys.length → J j acc O' → C1 O' ∧ acc.length < sizeLine) ∧
        (∀ j y acc O', ys[j]? = some y → J j acc O' → wpG K g1 y (wipeG G2 vs1) O' fun G5 O5 => wpT K W ex tt1 G5 O5 fun b O6 => (b = true → wpE K W ex te G5 O6 fun z O7 => J (j + 1) (acc ++ [z]) O7) ∧ (b = false → J (j + 1) acc O6)) ∧
        ∀ acc O', J ys.length acc O' → I (i + 1) acc O')) ∧
      ∀ acc O', I xs.length acc O' → lcEnd fr acc O' P) : wpE K W ex (tLc2 wi g tt wi1 g1 tt1 te vs vs1) G O P := fun Z F H σ X S s Q q =>
  h Z F H σ X S s _ fun J xs C F1 H1 O1 S1 e1 hw ⟨I, h0, hl, hs, hd⟩ Dl hD => by
    have hZ := S1.fresh hD
    have hM := S1.notM hD
    refine ⟨fun i m H' => i + m = xs.length ∧ ∃ F2 O2 acc vacc, S0 K Z F2 H' O2 ∧ Ex F1 F2 ∧ F2 Dl = none ∧ H' Dl = some (.lst vacc) ∧ Rps K F2 acc vacc ∧ I i acc O2 ∧ ∀ p ∈ O2, p.a ≠ Dl,
      ⟨xs.length, by omega, F1, O1, [], [], S1.junk _ hD, Ex.refl _, S1.ex.none hD, upd_same, .nil, h0, S1.freshO hD⟩, fun i m H' hW => ?_⟩
    obtain ⟨em, F2, O2, acc, vacc, S2, e2, f2, hD2, r2, hI, nO⟩ := hW
    have hC := hl i acc O2 (by omega) hI
    by_cases hi : i < xs.length
    · obtain ⟨x, hx⟩ : ∃ x, xs[i]? = some x := ⟨xs[i], List.getElem?_eq_getElem hi⟩
      have S2' := S2.hold hD2 f2 nO
      obtain ⟨g1', g2⟩ := hw.go _ F2 H' O2 i x S2' e2 hC hx
      obtain ⟨Nx, hNx⟩ : ∃ Nx : Hp → Prop, Nx = fun H3 => ∃ F3 O3 acc3 vacc3, S0 K Z F3 H3 O3 ∧ Ex F1 F3 ∧ F3 Dl = none ∧ H3 Dl = some (.lst vacc3) ∧ Rps K F3 acc3 vacc3 ∧ I (i + 1) acc3 O3 ∧ ∀ p ∈ O3, p.a ≠ Dl := ⟨_, rfl⟩
      refine .inr ⟨g1', Nx, fun H3 h3 => ⟨m - 1, by omega, by omega, by rw [hNx] at h3; exact h3⟩, fun z H3 hz3 => ?_⟩
      obtain ⟨F3, S3, e3, rz⟩ := g2 z H3 hz3
      have X' : ∀ {xs : List V}, XOk K (Z.hold Dl (.lst xs)) F ex W := X.hold hZ hM
      have sw : Slots K F3 (wipeG G vs) (L2.wipe σ vs) := (s.mono (e1.trans (e2.trans e3))).wipe vs
      have hgo := hs i x acc O2 hx hI (Z.hold Dl (.lst vacc)) F3 H3 _ z S3 sw rz
      refine gm z _ H3 _ _ (fun σ2 H4 hq => ?_) (hg z _ H3 _ (hgo (fun σ2 H4 => tt σ2 H4 fun b H5 => if b = true then wi1 σ2 H5 fun J1 H4 => ∃ W1 : Nat → Nat → Hp → Prop, (∃ m, W1 0 m H4) ∧ ∀ j k H, W1 j k H →
          (J1.stop j H ∧ Nx H) ∨ (J1.go j H ∧ ∃ Nx1 : Hp → Prop, (∀ H', Nx1 H' → ∃ k', k' < k ∧ W1 (j + 1) k' H') ∧ ∀ x H', J1.yld j H x H' → g1 x (L2.wipe σ2 vs1) H' fun σ3 H5 => L2.wipe σ3 vs1 = L2.wipe σ2 vs1 ∧ tt1 σ3 H5 fun b H6 =>
            if b = true then te σ3 H6 fun y H7 => ∃ acc, H7 Dl = some (.lst acc) ∧ acc.length < sizeLine ∧ Nx1 (upd H7 Dl (.lst (acc ++ [y]))) else Nx1 H6) else Nx H5) ?_))
      · obtain ⟨q1, q2, q3⟩ := hq
        refine ⟨wipe_ext (q2.trans (wipe_length σ vs)) fun k hk => (q3 k hk).trans ?_, q1⟩
        rw [wipe_at, if_neg hk]
      · intro F4 H4 σ4 G4 O4 S4 s4 e4 p4
        refine p4 _ F4 H4 σ4 (X'.mono (e1.trans (e2.trans (e3.trans e4)))) S4 s4 _ fun b F5 H5 O5 S5 e5 p5 => ?_
        have e25 := e3.trans (e4.trans e5)
        cases b with
        | false =>
          obtain ⟨S7, k1, k2, k3⟩ := S5.unhold hZ hM
          show Nx H5
          rw [hNx]
          exact ⟨F5, O5, acc, vacc, S7, e2.trans e25, k2, k1, r2.mono e25, p5.1 rfl, k3⟩
        | true =>
          have e05 := e1.trans (e2.trans e25)
          refine p5.2 rfl _ F5 H5 σ4 (X'.mono e05) S5 (s4.mono e5) _ fun J1 ys C1 F6 H6 O6 S6 e6 hw1 ⟨J', j0, jl, js, jd⟩ => ?_
          obtain ⟨S6u, k1, k2, k3⟩ := S6.unhold hZ hM
          have e26 := e25.trans e6
          refine ⟨fun j m H' => j + m = ys.length ∧ ∃ F7 O7 acc7 vacc7, S0 K Z F7 H' O7 ∧ Ex F6 F7 ∧ F7 Dl = none ∧ H' Dl = some (.lst vacc7) ∧ Rps K F7 acc7 vacc7 ∧ J' j acc7 O7 ∧ ∀ p ∈ O7, p.a ≠ Dl,
            ⟨ys.length, by omega, F6, O6, acc, vacc, S6u, Ex.refl _, k2, k1, r2.mono e26, j0, k3⟩, fun j m1 H7 hW1 => ?_⟩
          obtain ⟨em1, F7, O7, acc7, vacc7, S7, e7, f7, hD7, r7, hJ, nO7⟩ := hW1
          obtain ⟨hC1, hz⟩ := jl j acc7 O7 (by omega) hJ
          by_cases hj : j < ys.length
          · obtain ⟨y, hy⟩ : ∃ y, ys[j]? = some y := ⟨ys[j], List.getElem?_eq_getElem hj⟩
            have S7' := S7.hold hD7 f7 nO7
            obtain ⟨g3, g4⟩ := hw1.go _ F7 H7 O7 j y S7' e7 hC1 hy
            obtain ⟨Ny, hNy⟩ : ∃ Ny : Hp → Prop, Ny = fun H3 => ∃ F3 O3 acc3 vacc3, S0 K Z F3 H3 O3 ∧ Ex F6 F3 ∧ F3 Dl = none ∧ H3 Dl = some (.lst vacc3) ∧ Rps K F3 acc3 vacc3 ∧ J' (j + 1) acc3 O3 ∧ ∀ p ∈ O3, p.a ≠ Dl := ⟨_, rfl⟩
            refine .inr ⟨g3, Ny, fun H3 h3 => ⟨m1 - 1, by omega, by omega, by rw [hNy] at h3; exact h3⟩, fun z8 H8 hz8 => ?_⟩
            obtain ⟨F8, S8, e8, rz8⟩ := g4 z8 H8 hz8
            have sw8 : Slots K F8 (wipeG G4 vs1) (L2.wipe σ4 vs1) := (s4.mono (e5.trans (e6.trans (e7.trans e8)))).wipe vs1
            have hgo8 := js j y acc7 O7 hy hJ (Z.hold Dl (.lst vacc7)) F8 H8 _ z8 S8 sw8 rz8
            refine gm1 z8 _ H8 _ _ (fun σ9 H9 hq => ?_) (hg1 z8 _ H8 _ (hgo8 (fun σ3 H5 => tt1 σ3 H5 fun b H6 => if b = true then te σ3 H6 fun y H7 => ∃ acc, H7 Dl = some (.lst acc) ∧ acc.length < sizeLine ∧ Ny (upd H7 Dl (.lst (acc ++ [y]))) else Ny H6) ?_))
            · obtain ⟨q1, q2, q3⟩ := hq
              refine ⟨wipe_ext (q2.trans (wipe_length σ4 vs1)) fun k hk => (q3 k hk).trans ?_, q1⟩
              rw [wipe_at, if_neg hk]
            · intro F9 H9 σ9 G9 O9 S9 s9 e9 p9
              have e09 := e05.trans (e6.trans (e7.trans (e8.trans e9)))
              refine p9 _ F9 H9 σ9 (X'.mono e09) S9 s9 _ fun b Fa Ha Oa Sa ea pa => ?_
              cases b with
              | true =>
                refine pa.1 rfl _ Fa Ha σ9 (X'.mono (e09.trans ea)) Sa (s9.mono ea) _ fun z vz Fb Hb Ob Sb eb rb pb => ?_
                obtain ⟨Sc, k4, k5, k6⟩ := Sb.unhold hZ hM
                have e7b := e8.trans (e9.trans (ea.trans eb))
                exact ⟨vacc7, k4, by rw [← r7.length]; exact hz, by rw [hNy]; exact ⟨Fb, Ob, acc7 ++ [z], vacc7 ++ [vz], Sc.writeU k5 k6 hZ, e7.trans e7b, k5, upd_same, (r7.mono e7b).app (.one rb), pb, k6⟩⟩
              | false =>
                obtain ⟨Sc, k4, k5, k6⟩ := Sa.unhold hZ hM
                have e7a := e8.trans (e9.trans ea)
                show Ny Ha
                rw [hNy]
                exact ⟨Fa, Oa, acc7, vacc7, Sc, e7.trans e7a, k5, k4, r7.mono e7a, pa.2 rfl, k6⟩
          · have ej : j = ys.length := by omega
            subst ej
            refine .inl ⟨hw1.stop Z F7 H7 O7 S7 e7 hC1, ?_⟩
            rw [hNx]
            exact ⟨F7, O7, acc7, vacc7, S7, e2.trans (e26.trans e7), f7, hD7, r7, jd acc7 O7 hJ, nO7⟩
    · have ei : i = xs.length := by omega
      subst ei
      refine .inl ⟨hw.stop Z F2 H' O2 S2 e2 hC, ?_⟩
      have hend := hd acc O2 hI
      cases fr with
      | true => exact q _ _ _ H' O2 (S2.keepF hD2 f2 nO hZ) (e1.trans (e2.trans (Ex.new f2))) (.lst upd_same (r2.mono (Ex.new f2))) hend
      | false => exact q _ _ F2 H' _ (S2.take (d := .lst acc) f2 ⟨vacc, hD2, r2⟩ nO hZ) (e1.trans e2) (.mut Dl) (hend Dl nO)
def dcEnd (fr : Bool) (acc : List (Key × D)) (O : Ow) (P : D → Ow → Prop) : Prop := match fr with
  | true => P (.dK acc) O
  | false => ∀ a, (∀ q ∈ O, q.a ≠ a) → P (.mut a) (⟨a, true, .dK acc⟩ :: O)
theorem wpE_dc {wi : TI} {g : TG} {vs : List Nat} (fr : Bool) (hg : gIn vs g) (gm : gMono g) (h : wpI K W ex wi G O fun xs C O1 => ∃ I : Nat → List (Key × D) → Ow → Prop, I 0 [] O1 ∧ (∀ i acc O', i ≤ xs.length → I i acc O' → C O' ∧ acc.length < sizeLine) ∧
      (∀ i x acc O', xs[i]? = some x → I i acc O' → wpG K g x (wipeG G vs) O' fun G2 O2 => wpT K W ex tt G2 O2 fun b O3 => (b = true → wpE K W ex tk G2 O3 fun y O4 => wpE K W ex tv G2 O4 fun z O5 => ∃ k, y = kD k ∧ I (i + 1) (putD acc k z) O5) ∧ (b = false → I (i + 1) acc O3)) ∧
      ∀ acc O', I xs.length acc O' → dcEnd fr acc O' P) : wpE K W ex (tDc wi g tt tk tv vs) G O P := fun Z F H σ X S s Q q =>
  h Z F H σ X S s _ fun J xs C F1 H1 O1 S1 e1 hw ⟨I, h0, hl, hs, hd⟩ Dl hD => by
    have hZ := S1.fresh hD
    have hM := S1.notM hD
    refine ⟨fun i m H' => i + m = xs.length ∧ ∃ F2 O2 acc vacc, S0 K Z F2 H' O2 ∧ Ex F1 F2 ∧ F2 Dl = none ∧ H' Dl = some (.dK vacc) ∧ RKv K F2 acc vacc ∧ I i acc O2 ∧ ∀ p ∈ O2, p.a ≠ Dl,
      ⟨xs.length, by omega, F1, O1, [], [], S1.junk _ hD, Ex.refl _, S1.ex.none hD, upd_same, RKv.nil, h0, S1.freshO hD⟩, fun i m H' hW => ?_⟩
    obtain ⟨em, F2, O2, acc, vacc, S2, e2, f2, hD2, r2, hI, nO⟩ := hW
    obtain ⟨hC, hz⟩ := hl i acc O2 (by omega) hI
    by_cases hi : i < xs.length
    · obtain ⟨x, hx⟩ : ∃ x, xs[i]? = some x := ⟨xs[i], List.getElem?_eq_getElem hi⟩
      have S2' := S2.hold hD2 f2 nO
      obtain ⟨g1, g2⟩ := hw.go _ F2 H' O2 i x S2' e2 hC hx
      obtain ⟨Nx, hNx⟩ : ∃ Nx : Hp → Prop, Nx = fun H3 => ∃ F3 O3 acc3 vacc3, S0 K Z F3 H3 O3 ∧ Ex F1 F3 ∧ F3 Dl = none ∧ H3 Dl = some (.dK vacc3) ∧ RKv K F3 acc3 vacc3 ∧ I (i + 1) acc3 O3 ∧ ∀ p ∈ O3, p.a ≠ Dl := ⟨_, rfl⟩
      refine .inr ⟨g1, Nx, fun H3 h3 => ⟨m - 1, by omega, by omega, by rw [hNx] at h3; exact h3⟩, fun z H3 hz3 => ?_⟩
      obtain ⟨F3, S3, e3, rz⟩ := g2 z H3 hz3
      have X' : XOk K (Z.hold Dl (.dK vacc)) F ex W := X.hold hZ hM
      have sw : Slots K F3 (wipeG G vs) (L2.wipe σ vs) := (s.mono (e1.trans (e2.trans e3))).wipe vs
      have hgo := hs i x acc O2 hx hI (Z.hold Dl (.dK vacc)) F3 H3 _ z S3 sw rz
      refine gm z _ H3 _ _ (fun σ2 H4 hq => ?_) (hg z _ H3 _ (hgo (fun σ2 H4 => tt σ2 H4 fun b H5 => if b = true then tk σ2 H5 fun y H4 => tv σ2 H4 fun z H5 => ∃ kvs k, y = kV k ∧ H5 Dl = some (.dK kvs) ∧ kvs.length < sizeLine ∧ Nx (upd H5 Dl (.dK (putK kvs k z))) else Nx H5) ?_))
      · obtain ⟨q1, q2, q3⟩ := hq
        refine ⟨wipe_ext (q2.trans (wipe_length σ vs)) fun k hk => (q3 k hk).trans ?_, q1⟩
        rw [wipe_at, if_neg hk]
      · intro F4 H4 σ4 G4 O4 S4 s4 e4 p4
        have e04 := e1.trans (e2.trans (e3.trans e4))
        refine p4 _ F4 H4 σ4 (X'.mono e04) S4 s4 _ fun b F5 H5 O5 S5 e5 p5 => ?_
        cases b with
        | true =>
          refine p5.1 rfl _ F5 H5 σ4 (X'.mono (e04.trans e5)) S5 (s4.mono e5) _ fun y vy F6 H6 O6 S6 e6 r6 p6 => ?_
          refine p6 _ F6 H6 σ4 (X'.mono (e04.trans (e5.trans e6))) S6 (s4.mono (e5.trans e6)) _ fun z vz F8 H8 O8 S8 e8 r8 ⟨k, hk, p8⟩ => ?_
          subst hk
          obtain rfl := kD_v r6
          obtain ⟨S7, k1, k2, k3⟩ := S8.unhold hZ hM
          have e26 := e3.trans (e4.trans (e5.trans (e6.trans e8)))
          have rk : RKv K F8 acc vacc := ⟨r2.1, r2.2.mono e26⟩
          exact ⟨vacc, k, rfl, k1, by rw [← r2.len]; exact hz, by rw [hNx]; exact ⟨F8, O8, putD acc k z, putK vacc k vz, S7.writeU k2 k3 hZ, e2.trans e26, k2, upd_same, rk.put r8, p8, k3⟩⟩
        | false =>
          obtain ⟨S7, k1, k2, k3⟩ := S5.unhold hZ hM
          have e25 := e3.trans (e4.trans e5)
          show Nx H5
          rw [hNx]
          exact ⟨F5, O5, acc, vacc, S7, e2.trans e25, k2, k1, ⟨r2.1, r2.2.mono e25⟩, p5.2 rfl, k3⟩
    · have ei : i = xs.length := by omega
      subst ei
      refine .inl ⟨hw.stop Z F2 H' O2 S2 e2 hC, ?_⟩
      have hend := hd acc O2 hI
      cases fr with
      | true => exact q _ _ _ H' O2 (S2.keepF hD2 f2 nO hZ) (e1.trans (e2.trans (Ex.new f2))) (.dK (.inl upd_same) r2.1 (r2.2.mono (Ex.new f2))) hend
      | false => exact q _ _ F2 H' _ (S2.take (d := .dK acc) f2 ⟨vacc, hD2, r2.1, r2.2⟩ nO hZ) (e1.trans e2) (.mut Dl) (hend Dl nO)
end
end PyD
namespace PySem
namespace OwnX
open PySem.W PySem.Calls PyProof.Rows PySem.HandSPX
def iA (at_ : Str) (p1 p2 : Pos) : Arguments := { posonlyargs := [], args := [{ arg := "self", annotation := none, pos := p1 }, { arg := at_, annotation := none, pos := p2 }], vararg := none, kwonlyargs := [], kw_defaults := [], kwarg := none, defaults := [] }
def sup (q0 q1 q2 q3 q4 : Pos) (msg : Expr) : Stmt := .Expr (.Call (.Attribute (.Call (.Name "super" q0) [] [] q1) "__init__" q2) [msg] [] q3) q4
def iB (at_ : Str) (msg : Expr) (q0 q1 q2 q3 q4 r1 r2 r3 r4 : Pos) : List Stmt := [sup q0 q1 q2 q3 q4 msg, .Assign [.Attribute (.Name "self" r1) at_ r2] (.Name at_ r3) r4]
def iS (at_ : Str) : Scope := { kind := .function, names := [(PySem.Str.ofString "self", .local), (at_, .local), (PySem.Str.ofString "__class__", .free), (PySem.Str.ofString "super", .globalImplicit)], isGenerator := false, isCoroutine := false, more := [] }
/-- super().__init__(..) is a method's call -/
def SupOk (msg : Expr) (q0 q1 q2 q3 : Pos) : Prop := ∀ env : Env, starEach [msg] env = [(false, eval msg env)] ∧ ∃ pl : Sem Bool, eval (.Call (.Attribute (.Call (.Name "super" q0) [] [] q1) "__init__" q2) [msg] [] q3) env = (do
  let ov ← attributeBase (.Call (.Name "super" q0) [] [] q1) "__init__" env (eval (.Call (.Name "super" q0) [] [] q1) env)
  standAt q2.atName
  let (f, first) ← holding [ov] (getMethod ov "__init__" pl)
  callWith q3 f first (backTo q3 (starEach [msg] env)) [])
/-- what the written part says of the class at C and of its __init__, at fI -/
structure Txt (prog : Program) (K : Frag) (at_ : Str) (msg : Expr) (C fI : Addr) : Prop where
  cls : ∃ nm q N bs bm sn sub ab col dd k0 k1 k2 k3 k5, K.lookup C = some (excClassObj nm q C N bs bm true sn sub ab col dd k0 k1 k2 k3 k5 "ValueError.__new__") ∧ refsVE bm = true
  sa : findIn K (.ref C) "__setattr__" = some (some (.builtin "object.__setattr__"))
  noN : findIn K (.ref C) at_ = some none
  iC : findIn K (.ref C) "__init__" = some (some (.ref fI))
  tC : typeIn K (.ref fI) = some (.type "function")
  opq : nsIn K cStatics "thirdparty.any" = some none
  along : ks_superIn K C C "__init__" = some (some (.builtin "ValueError.__init__"))
  subB : subIn K (.ref C) (.type "ValueError") = some true
  subC : mroIn K C (.ref C) = some true
  ok : (at_ == ("self" : Str)) = false ∧ (at_ == ("super" : Str)) = false ∧ (at_ == ("__class__" : Str)) = false ∧ (at_ == ("__debug__" : Str)) = false
  bnd : ∀ (qual : Str) (p1 p2 : Pos) (body : List Stmt) (doc pm : Value) (an : Option Addr) (cdv ct : Value) (cc : Addr) (a v : Value), bindArgs (fnX "__init__" qual (iA at_ p1 p2) body (iS at_) [("__class__", cc)] .none .none doc pm an cdv ct) ⟨[a, v], []⟩ = pure ([(("self" : Str), a), (at_, v)] : List (Str × Value))
  top : (prog.main.scope.names.lookup ("super" : Str)).isSome = false
  fn : ∃ (oc : Value) (od : Option Addr) (doc pm : Value) (an : Option Addr) (cda cc : Addr) (ct : Value) (osl : Array (Option Value)) (qual : Str) (p1 p2 q0 q1 q2 q3 q4 r1 r2 r3 r4 : Pos) (ccl cl : Value) (cdd cld : Option Addr) (vs : Array Value) (ccs csl : Array (Option Value)) (file : Str) (tf : Tok),
    K.lookup fI = some ⟨oc, od, .func (fnX "__init__" qual (iA at_ p1 p2) (iB at_ msg q0 q1 q2 q3 q4 r1 r2 r3 r4) (iS at_) [("__class__", cc)] .none .none doc pm an (.ref cda) ct), osl⟩ ∧ codeIn K (.ref cda) qual = true ∧
    K.lookup cda = some ⟨ccl, cdd, .fields vs, ccs⟩ ∧ vs[2]? = some (.str file tf) ∧ ((prog.main.file : Str) == file) = true ∧ K.lookup cc = some ⟨cl, cld, .cell (some (.ref C)), csl⟩ ∧ SupOk msg q0 q1 q2 q3
section
variable {prog : Program} {w : World} {A : Around} {E : Value → Shared → Prop} {h : Heap} {g : Array GenState} {d : Drawn} {t : Nat} {os : OsState}
theorem bw_call {nm q : Str} {C N u e t0 : Addr} {bs bm : List Value} {hdct : Bool} {sn : List Str} {sub : List Value} {ab : Bool} {col : Option Bool} {dd : Option Addr} {k0 k1 k2 k3 k5 : Option Value} {rest : List Value} {Q : Value → Shared → Prop}
    (hC : h.get? C = some (excClassObj nm q C N bs bm hdct sn sub ab col dd k0 k1 k2 k3 k5 "ValueError.__new__")) (he : h.get? e = some (excO C t0)) (hu : h.get? u = some (kxs_mw "ValueError.__init__" e)) (hrest : rest.length ≤ sizeLine)
    (hq : ∀ h' t1, (∀ b o, b ≠ e → h.get? b = some o → h'.get? b = some o) → h'.get? e = some (excO C t1) → Q .none ⟨h', g, d, t, os⟩) :
    wpAny (model prog w) A (call (.ref u) rest) Q E ⟨h, g, d, t, os⟩ := by
  refine wpAny_call (codeAny_of_tree ?_)
  show wpAny _ A.in1 (callAny (.ref u) ⟨rest, []⟩) _ _ _
  simp only [callAny]
  refine wpAny_bind (wpAny_load hu ?_)
  simp only [kxs_mw, show (Value.type "method-wrapper" == Value.type "method" || Value.type "method-wrapper" == Value.type "builtin_function_or_method" || Value.type "method-wrapper" == Value.type "method-wrapper") = true by decide, if_true]
  refine KFB.if_so (by decide) ?_
  refine wpAny_bind (check_bound_init F.excBase_ValueError.toExcCallFacts hC he rfl ?_)
  refine wpAny_bind (wpAny_pure (wpAny_pure ?_))
  refine ⟨plainId_quiet F.excBase_ValueError.init.plain _, codeAny_builtin F.excBase_ValueError.initEntry ?_⟩
  exact exc_init_tree (cls := .ref C) (t0 := t0) (dv := none) (c2 := .none) (c3 := .none) (b4 := .bool false) he hrest fun h' k e' _ => hq h' h.objs.size k e'
end
/-- what __init__ leaves of a fresh exception at x -/
structure InitEnd (at_ : Str) (h h' : Heap) (x C dx t1 : Addr) (v : Value) : Prop where
  keep : ∀ b o, b ≠ x → h.get? b = some o → h'.get? b = some o
  obj : h'.get? x = some { cls := .ref C, dict := some dx, data := .fields #[.ref t1, .none, .none, .none, .bool false, .none] }
  dbig : h.objs.size ≤ dx
  dne : dx ≠ x
  ns : h'.Ns1 dx (fun y => if y = at_ then some v else none)
/-- the message's evaluation, the attribute's name bound to v -/
def MsgOk (prog : Program) (w : World) (at_ : Str) (msg : Expr) (v : Value) : Prop :=
  ∀ (A : Around) (env : Env) (s : Shared) (m : Str → Option Value) (Q : Value → Shared → Prop) (E : Value → Shared → Prop), env.scope.kind = .function → env.kindOf at_ = some .local → s.heap.Ns env.locals m → m at_ = some v →
    (∀ v' h' tk, (∀ b o, s.heap.get? b = some o → h'.get? b = some o) → Q v' { s with heap := h', toks := tk }) → wpAny (model prog w) A (eval msg env) Q E s
theorem lk_self {at_ : Str} : (iS at_).names.lookup ("self" : Str) = some .local := rfl
section
variable {prog : Program} {w : World} {A : Around} {R : Result → Shared → Prop} {s : Shared} {K : Frag} {mg mb : Str → Option Value} {at_ : Str} {msg : Expr} {C fI : Addr}
theorem own_init (T : Txt prog K at_ msg C fI) {x t0 : Addr} {v : Value} (X : K.In s.heap) (hlim : s.heap.NoLimit) (hG : s.heap.Ns mainGlobals mg) (hsup : mg "super" = none) (hB : s.heap.Ns builtinsNs mb) (hblt : ∀ x : Str, x ≠ "__name__" → mb x = bootBuiltins x)
    (hx : s.heap.get? x = some (excO C t0)) (hnx : K.lookup x = none) (hroom : A.depth < recursionLimit) (hmsg : MsgOk prog w at_ msg v)
    (hq : ∀ h' tk dx t1, InitEnd at_ s.heap h' x C dx t1 v → R (.ok (.ret .none)) { s with heap := h', toks := tk }) :
    codeAny (model prog w) A (.call (.ref fI) ⟨[.ref x, v], []⟩) R s := by
  obtain ⟨oc, od, doc, pm, an, cda, cc, ct, osl, qual, p1, p2, q0, q1, q2, q3, q4, r1, r2, r3, r4, ccl, cl, cdd, cld, vs, ccs, csl, file, tf, ho, hcd, hcode, hvs, hfile, hcell, hmc⟩ := T.fn
  obtain ⟨nm, q, N, bs, bm, sn, sub, ab, col, dd, k0, k1, k2, k3, k5, hC, hbm⟩ := T.cls
  obtain ⟨n1, n2, n3, n4⟩ := T.ok
  have hne : at_ ≠ ("self" : Str) := fun e => by rw [e] at n1; exact absurd n1 (by decide)
  have hcl : clsIn K C = some { name := nm, bases := bs, mro := .ref C :: bm, ns := N, qualname := q, hasDict := true, slotNames := sn, subclasses := sub, abstract := ab, collection := col, hasDel := false } := by unfold clsIn; rw [hC] <;> rfl
  have la : (iS at_).names.lookup at_ = some .local := by
    show List.lookup at_ (_ :: _) = _
    rw [List.lookup_cons]
    rw [show (at_ == PySem.Str.ofString "self") = false from n1]
    show List.lookup at_ (_ :: _) = _
    rw [List.lookup_cons, show (at_ == at_) = true from by simp]
  have lsup : (iS at_).names.lookup ("super" : Str) = some .globalImplicit := by
    show List.lookup _ (_ :: _) = _
    rw [List.lookup_cons, show (("super" : Str) == PySem.Str.ofString "self") = false from by decide]
    show List.lookup _ (_ :: _) = _
    rw [List.lookup_cons, show (("super" : Str) == at_) = false from by
      have e : at_ ≠ ("super" : Str) := fun e => by rw [e] at n2; exact absurd n2 (by decide)
      exact beq_eq_false_iff_ne.mpr (Ne.symm e)]
    rfl
  have lcls : (iS at_).names.lookup ("__class__" : Str) = some .free := by
    show List.lookup _ (_ :: _) = _
    rw [List.lookup_cons, show (("__class__" : Str) == PySem.Str.ofString "self") = false from by decide]
    show List.lookup _ (_ :: _) = _
    rw [List.lookup_cons, show (("__class__" : Str) == at_) = false from by
      have e : at_ ≠ ("__class__" : Str) := fun e => by rw [e] at n3; exact absurd n3 (by decide)
      exact beq_eq_false_iff_ne.mpr (Ne.symm e)]
    rfl
  obtain ⟨hp, g, dr, tk, os⟩ := s
  refine ks_codeAny_call_defAt (fd := fnX "__init__" qual (iA at_ p1 p2) (iB at_ msg q0 q1 q2 q3 q4 r1 r2 r3 r4) (iS at_) [("__class__", cc)] .none .none doc pm an (.ref cda) ct) (body := iB at_ msg q0 q1 q2 q3 q4 r1 r2 r3 r4) (binds := [(("self" : Str), .ref x), (at_, v)])
    hroom (X _ _ ho) rfl hlim (codeRec_of X hcd) rfl (BindsTo.of_eq ?_) ?_ ?_ (fun h1 hn k => ?_) rfl rfl rfl
  · exact T.bnd _ _ _ _ _ _ _ _ _ _ _ _
  · intro y hy
    simp only [fnX, iS, List.mem_cons, List.not_mem_nil, or_false] at hy
    rcases hy with rfl | rfl | rfl | rfl <;> (intro z; cases z)
  · intro y hy
    simp only [List.mem_cons, List.not_mem_nil, or_false] at hy
    rcases hy with rfl | rfl
    · exact lk_self
    · exact la
  · have hx1 := k _ _ hx
    have X1 : K.In h1 := X.keeps k
    have xL : hp.objs.size ≠ x := Nat.ne_of_gt (Heap.lt_size hx)
    have mself : (([(("self" : Str), Value.ref x), (at_, v)] : List (Str × Value)).reverse.lookup ("self" : Str)) = some (.ref x) := by
      show List.lookup _ [_, _] = _
      rw [List.lookup_cons, show (("self" : Str) == at_) = false from beq_eq_false_iff_ne.mpr (Ne.symm hne)]
      rfl
    have mat : (([(("self" : Str), Value.ref x), (at_, v)] : List (Str × Value)).reverse.lookup at_) = some v := by
      show List.lookup _ [_, _] = _
      rw [List.lookup_cons, show (at_ == at_) = true from by simp]
    refine ks_wpAt_execs_cons (ks_wpAt_Expr_any ?_ rfl ?_)
    · obtain ⟨hstar, pl, hpl⟩ := hmc (callEnv (fnX "__init__" qual (iA at_ p1 p2) (iB at_ msg q0 q1 q2 q3 q4 r1 r2 r3 r4) (iS at_) [("__class__", cc)] .none .none doc pm an (.ref cda) ct) hp.objs.size fI)
      refine ks_wpAt_MethodCall ?hh hpl
      · -- super()
        refine ks_wpAt_super_base (env := callEnv (fnX "__init__" qual (iA at_ p1 p2) (iB at_ msg q0 q1 q2 q3 q4 r1 r2 r3 r4) (iS at_) [("__class__", cc)] .none .none doc pm an (.ref cda) ct) hp.objs.size fI)
          lsup lcls (by decide) rfl (X1 _ _ ho) rfl (ar := { arg := "self", annotation := none, pos := p1 }) rfl rfl (X1 _ _ hcode) rfl hvs hfile T.top ?_
        have G1 : h1.Ns mainGlobals mg := hG.keeps k
        have B1 : h1.Ns builtinsNs mb := hB.keeps k
        have I1 : InstAt h1 x (excO C t0) C none := ⟨hx1, rfl, rfl, trivial⟩
        refine ks_loadName_global rfl lsup (loadGlobal_builtin (env := callEnv _ hp.objs.size fI) G1 hsup B1 ((hblt _ (by decide +kernel)).trans (by first | boot_by_name | rfl | kernel_rfl)) ⟨rfl, ?_⟩)
        refine wpAny_loadName_free rfl lcls rfl ⟨_, X1 _ _ hcell, rfl⟩ ?_
        refine wpAny_loadName_local rfl lk_self hn mself ?_
        refine ks_wpAny_isType_cls (X1 _ _ hC) rfl ⟨rfl, ?_⟩
        refine ks_wpAny_call_super (X1 _ _ hC) rfl hx1 rfl (fun c e => by cases e) (looks_mroIn X1 T.subC) (fun h2 e2 k2 => ?_)
        -- its __init__
        have X2 : K.In h2 := X1.keeps k2
        have hx2 := k2 _ _ hx1
        have I2 : InstAt h2 x (excO C t0) C none := ⟨hx2, rfl, rfl, trivial⟩
        have hal := T.along
        unfold ks_superIn at hal
        rw [hcl] at hal
        refine kxs_getMethod kxs_ValueError e2 (looks_opaque X2 T.opq) (l₀ := .ref C :: bm) (fun A Q E s k q => wpAny_bind ((looks_clsIn X2 hcl) A _ E s k (wpAny_pure q))) rfl X2 hal (I2.type.andThen (looks_subIn X2 T.subB)) (ks_ne X2 I2 hcl) (by decide) ?_
        have k3 : ∀ b o, h2.get? b = some o → (h2.push (kxs_mw "ValueError.__init__" x)).get? b = some o := fun b o e => Heap.get?_push_of_some _ e
        have hu3 : (h2.push (kxs_mw "ValueError.__init__" x)).get? h2.objs.size = some (kxs_mw "ValueError.__init__" x) := Heap.get?_push_at rfl rfl
        show wpAny _ _ (callWith q3 (.ref h2.objs.size) [] (backTo q3 (starEach [msg] _)) []) _ _ _
        rw [hstar]
        refine kxs_callWith (i := "ValueError.__init__") (x := x) ?_ ?_
        · rfl
        · have hn2 : (h2.push (kxs_mw "ValueError.__init__" x)).Ns hp.objs.size (fun y => ([((("self" : Str)), Value.ref x), (at_, v)] : List (Str × Value)).reverse.lookup y) := hn.keeps fun b o e => k3 b o (k2 b o e)
          refine evalArgs_plain ?_
          refine Calls.spliced_cons ?_
          refine hmsg _ _ _ _ _ _ rfl la hn2 mat fun v' h4 tk4 k4 => ?_
          refine Calls.spliced_nil ?_
          have k24 : ∀ b o, h2.get? b = some o → h4.get? b = some o := fun b o e => k4 b o (k3 b o e)
          refine ⟨k4 _ _ hu3, ?_⟩
          refine bw_call (e := x) ((X2.keeps k24) _ _ hC) (k24 _ _ hx2) (k4 _ _ hu3) (by show 1 ≤ sizeLine; decide) fun h5 t1 k5 hx5 => ?_
          -- self.f = f
          have k15 : ∀ b o, b ≠ x → h1.get? b = some o → h5.get? b = some o := fun b o hb e => k5 b o hb (k24 b o (k2 b o e))
          have X5 : K.In h5 := fun a o e => k15 a o (fun z => by rw [z, hnx] at e; cases e) (X1 a o e)
          obtain ⟨oL, es, ep, hL, rL⟩ := hn
          have hn5 : h5.Ns hp.objs.size (fun y => ([((("self" : Str)), Value.ref x), (at_, v)] : List (Str × Value)).reverse.lookup y) := ⟨oL, es, ep, k15 _ _ xL hL, rL⟩
          show wpAt _ _ _ (execs _ _) _ _ _
          refine ks_wpAt_execs_cons (wpAt_of_wpAny (plainObj_wpAny_Assign_Attribute ?_))
          refine ESX.ldL (v := v) hn5 mat (ESX.ldL (v := .ref x) hn5 mself ?_ rfl lk_self (by decide)) rfl la n4
          refine set_plain X5 (ox := excO C t1) (od := none) ⟨hx5, rfl, rfl, trivial⟩ T.sa ?_
          refine exc_osa X5 hx5 hcl (show refsVE (.ref C :: bm) = true from hbm) rfl T.noN (fun h6 tk6 dx k6 dn dne hx6 hn6 => ?_)
          show wpAt _ _ _ (execs _ _) _ _ _
          refine wpAt_of_wpAny (wpAny_execs_nil (hq h6 tk6 dx t1 ⟨fun b o hb e => k6 b o hb (k15 b o hb (k b o e)), hx6, ?_, dne, hn6⟩))
          have z1 : hp.objs.size < h5.objs.size := Heap.lt_size (show h5.get? hp.objs.size = some oL from k15 _ _ xL hL)
          exact Nat.le_of_lt (Nat.lt_of_lt_of_le z1 dn)
    · rfl
/-- a made exception -/
structure OwnMade (at_ : Str) (h h' : Heap) (e C d : Addr) (v : Value) : Prop where
  keep : ∀ b o, h.get? b = some o → h'.get? b = some o
  new : h.objs.size ≤ e
  obj : ∃ oe vs, h'.get? e = some oe ∧ oe.cls = .ref C ∧ oe.dict = some d ∧ oe.data = .fields vs ∧ vs[1]? = some .none
  dbig : h.objs.size ≤ d
  dne : d ≠ e
  ns : h'.Ns1 d (fun y => if y = at_ then some v else none)
theorem one_size (v : Value) : [v].length ≤ sizeLine := by
  rw [sizeLine_eq]
  exact (by decide : 1 ≤ 16777216)
theorem own_made (T : Txt prog K at_ msg C fI) {v : Value} (X : K.In s.heap) (hlim : s.heap.NoLimit) (hG : s.heap.Ns mainGlobals mg) (hsup : mg "super" = none) (hB : s.heap.Ns builtinsNs mb) (hblt : ∀ x : Str, x ≠ "__name__" → mb x = bootBuiltins x)
    (hroom : A.depth + 1 < recursionLimit) (hmsg : MsgOk prog w at_ msg v)
    (hq : ∀ h' tk e d, OwnMade at_ s.heap h' e C d v → R (.ok (.ret (.ref e))) { s with heap := h', toks := tk }) :
    codeAny (model prog w) A (.call (.ref C) ⟨[v], []⟩) R s := by
  obtain ⟨nm, q, N, bs, bm, sn, sub, ab, col, dd, k0, k1, k2, k3, k5, hC, hbm⟩ := T.cls
  obtain ⟨hp, g, dr, tk, os⟩ := s
  have k : ∀ b o, hp.get? b = some o → ((hp.push (kdv_tup [v])).push (excO C hp.objs.size)).get? b = some o := fun b o e => Heap.get?_push_of_some _ (Heap.get?_push_of_some _ e)
  have hget : ((hp.push (kdv_tup [v])).push (excO C hp.objs.size)).get? (hp.objs.size + 1) = some (excO C hp.objs.size) := by heap_get
  have hnx : K.lookup (hp.objs.size + 1) = none := by
    cases e : K.lookup (hp.objs.size + 1) with
    | none => rfl
    | some o =>
      have z : hp.get? (hp.objs.size + 1) = some o := X _ _ e
      exact absurd (Nat.lt_of_succ_lt (Heap.lt_size z)) (Nat.lt_irrefl _)
  refine call_own F.excBase_ValueError (fun X => refsVE_contains X bm hbm) (X _ _ hC) (looks_findIn X T.iC) (fun self => bind_fn X self T.tC) (one_size v) ?_
  refine own_init (s := ⟨(hp.push (kdv_tup [v])).push (excO C hp.objs.size), g, dr, tk, os⟩) T (X.keeps k) (hlim.keeps k) (hG.keeps k) hsup (hB.keeps k) hblt hget hnx ?_ hmsg fun h' tk' dx t1 ⟨k', hx, dn, dne, hns⟩ => ?_
  · show A.depth + 1 < recursionLimit
    exact hroom
  · have old : ∀ b o, hp.get? b = some o → h'.get? b = some o := fun b o e => k' b o (Nat.ne_of_lt (Nat.lt_succ_of_lt (Heap.lt_size e))) (k b o e)
    have z : hp.objs.size + 1 + 1 ≤ dx := by
      first
        | (simpa only [Heap.size_push] using dn)
        | exact dn
        | (have q := dn; rw [Heap.size_push, Heap.size_push] at q; exact q)
    exact ⟨rfl, hq h' tk' (hp.objs.size + 1) dx ⟨old, Nat.le_succ _, ⟨_, _, hx, rfl, rfl, rfl, rfl⟩, Nat.le_trans (Nat.le_trans (Nat.le_succ _) (Nat.le_succ _)) z, dne, hns⟩⟩
end
end OwnX
end PySem
namespace L2
open PySem PySem.Spec PyProof.Rows
theorem relO_at {at_ : Str} {v : V} {v' : Value} (r : RelV v v') (f : Str) : RelO (List.lookup f [(at_, v)]) (if f = at_ then some v' else none) := by
  by_cases hw : f = at_
  · subst hw
    rw [if_pos rfl]
    have q : List.lookup f [(f, v)] = some v := by simp [List.lookup]
    rw [q]
    exact r
  · rw [if_neg hw]
    have qw : (f == at_) = false := by simpa using hw
    have q2 : List.lookup f [(at_, v)] = none := by simp [List.lookup, qw]
    rw [q2]
    trivial
/-- X(e), X an own exception class with one attribute: okV says which values its text takes -/
def tMkX (C : Addr) (at_ : Str) (okV : V → Prop) (ta : TA) : St → Hp → XK → Prop := fun σ H Q => ta σ H fun vs H1 => ∃ v, vs = [v] ∧ okV v ∧ ∀ d, H1 d = none → Q (.ref C) (some d) (upd H1 d (.xd [(at_, v)]))
section
variable {X : Cx} {C fI : Addr}
theorem pmk_x {x at_ : Str} {msg : Expr} {okV : V → Prop} {a : Expr} {ta : TA} {p pos : Pos} {k : Nat} (T : PySem.OwnX.Txt X.prog X.K at_ msg C fI) (gC : X.mg x = some (.ref C)) (kC : PySem.W.keepIn X.K (.ref C) = true) (exC : PySem.W.subIn X.K (.ref C) (.type "BaseException") = some true)
    (tyC : PySem.W.typeIn X.K (.ref C) = some (.type "type")) (gs : X.mg "super" = none) (hmsg : ∀ v u, okV v → RelV v u → PySem.OwnX.MsgOk X.prog X.w at_ msg u) (hr : Room k X.A) (ha : PA X [a] ta) (hg : Gl X x) (hdb : (x == ("__debug__" : Str)) = false := by decide)
    (he : starEach (a :: []) X.env = (false, eval a X.env) :: starEach [] X.env := by rfl) (hpl : (backTo pos (starEach [] X.env)).any (·.1) = false := by rfl) :
    PMk X (.Call (.Name x p) [a] [] pos) (tMkX C at_ okV ta) := by
  intro pins s σ H Q I h
  refine wpAny_Call_Name_kw (ld_glob I hg gC ?_ hdb)
  refine PySem.W.callWith_K (h₀ := X.base) I.ok.mod.kin kC (thn (ha.run pos pins s σ H _ I h) fun us s1 hh => ?_) he hpl
  obtain ⟨vs, H1, I1, r1, v, ev, hok, q1⟩ := hh
  subst ev
  refine ⟨I1.kIn, ?_⟩
  cases r1 with
  | cons rv rn =>
    rename_i v' us'
    cases rn
    show wpAny _ _ (call (.ref C) [v']) _ _ _
    have hlim := I1.nolimit
    have hG := I1.ok.mod.glob.keeps I1.bk
    obtain ⟨mb, hB0, hblt⟩ := I1.ok.mod.blt
    have hB := hB0.keeps I1.bk
    obtain ⟨hp, g, dr, tk, os⟩ := s1
    refine wpAny_call (PySem.OwnX.own_made T I1.kIn hlim hG gs hB hblt (by have := hr.dp; omega) (hmsg v v' hok rv) fun h' tk' e d M => ?_)
    show MkP X pins σ Q (.ref e) ⟨h', g, dr, tk', os⟩
    obtain ⟨oe, fv, hoe, hc, hd, hdat, h1⟩ := M.obj
    have hns := M.ns
    obtain ⟨G', g1, g2⟩ := restrict h' fun b => decide (b ≠ e)
    have gk : ∀ b, b ≠ e → G'.get? b = h'.get? b := fun b hb => g1 b (decide_eq_true hb)
    have ge : G'.get? e = none := g2 e (by simp)
    have old : ∀ b o, hp.get? b = some o → G'.get? b = some o := fun b o q => (gk b (Nat.ne_of_lt (Nat.lt_of_lt_of_le (Heap.lt_size q) M.new))).trans (M.keep b o q)
    have ob : ObjOk X.prog X.w (upd H1 d (.xd [(at_, v)])) G' d (.xd [(at_, v)]) :=
      ⟨_, hns.at (fun o q => (gk d M.dne).trans q), fun f => relO_at rv f⟩
    have J : Inv X pins σ (upd H1 d (.xd [(at_, v)])) ⟨G', g, dr, tk', os⟩ := I1.laid (t' := tk') old M.dbig ob
    refine ⟨e, oe, fv, ⟨G', g, dr, tk', os⟩, _, .ref C, some d, rfl, J, fun b o q => ?_, ge, hoe, ⟨hc, hd⟩, hdat, h1, ?_, rfl, I1.bare, raises_own exC tyC, q1 d (I1.hok.fresh M.dbig)⟩
    · by_cases hb : b = e
      · have q' : G'.get? b = some o := q
        rw [hb, ge] at q'; cases q'
      · exact (gk b hb).symm.trans q
    · rw [upd_ne (Ne.symm M.dne)]
      exact I1.hok.fresh M.new
def tRaiseX (C : Addr) (at_ : Str) (okV : V → Prop) (W : WX) (ta : TA) : TS := fun _ σ H => tMkX C at_ okV ta σ H fun cls d H' => W cls d σ H'
theorem ps_raiseX {x at_ : Str} {msg : Expr} {okV : V → Prop} {a : Expr} {ta : TA} {W : WX} {p pos pos2 : Pos} {k : Nat} (hc : X.calm = true) (tk : Takes X W) (T : PySem.OwnX.Txt X.prog X.K at_ msg C fI) (gC : X.mg x = some (.ref C)) (kC : PySem.W.keepIn X.K (.ref C) = true) (exC : PySem.W.subIn X.K (.ref C) (.type "BaseException") = some true)
    (tyC : PySem.W.typeIn X.K (.ref C) = some (.type "type")) (gs : X.mg "super" = none) (hmsg : ∀ v u, okV v → RelV v u → PySem.OwnX.MsgOk X.prog X.w at_ msg u) (hr : Room k X.A) (ha : PA X [a] ta) (hg : Gl X x) (hdb : (x == ("__debug__" : Str)) = false := by decide)
    (he : starEach (a :: []) X.env = (false, eval a X.env) :: starEach [] X.env := by rfl) (hpl : (backTo pos (starEach [] X.env)).any (·.1) = false := by rfl) :
    PS X (.Raise (some (.Call (.Name x p) [a] [] pos)) none pos2) (tRaiseX C at_ okV W ta) := ps_raise hc tk (pmk_x T gC kC exC tyC gs hmsg hr ha hg hdb he hpl)
end
def fmtI (v : V) : Prop := ∃ i : Int, v = .int i ∧ i.natAbs.log2 < 1920
section
variable {prog : Program} {w : World} {at_ : Str}
theorem msg_part {A : Around} {env : Env} {s : Shared} {m : Str → Option Value} {Q : Value → Shared → Prop} {E : Value → Shared → Prop} {i : Int} {t : Tok} {p1 p2 : Pos} (hk : env.scope.kind = .function) (hl : env.kindOf at_ = some .local) (hn : s.heap.Ns env.locals m) (hv : m at_ = some (.int i t)) (hd : (at_ == ("__debug__" : Str)) = false)
    (hb : i.natAbs.log2 < 1920) (q : Q (.str (toString i) (s.toks + 1)) { s with toks := s.toks + 1 + 1 }) : wpAny (model prog w) A (eval (.FormattedValue (.Name at_ p1) (-1) none p2) env) Q E s :=
  wpAny_FormattedValue_plain (PySem.ESX.ldL hn hv (wpAny_formatField_int hb q) hk hl hd)
theorem msg_3 {a b : Str} {j1 j2 : Nat} {p0 p1 p2 p3 p4 : Pos} (hd : (at_ == ("__debug__" : Str)) = false) (la : a.length ≤ 1000) (lb : b.length ≤ 1000) (v : V) (u : Value) (hv : fmtI v) (r : RelV v u) :
    PySem.OwnX.MsgOk prog w at_ (.JoinedStr [.Constant (.str a) j1 p1, .FormattedValue (.Name at_ p2) (-1) none p3, .Constant (.str b) j2 p4] p0) u := by
  obtain ⟨i, rfl, hb⟩ := hv
  obtain ⟨t, rfl⟩ := r
  intro A env s m Q E hk hl hn hm q
  have l1 := PyProof.Rows.int_text_len_1921 hb
  refine wpAny_JoinedStr ?_
  refine Calls.Constant_str ⟨a, _, rfl, ?_, ?_⟩
  · rw [PySem.Str.length_append]
    exact Nat.le_trans (show Str.empty.length + a.length ≤ 5000 by show 0 + a.length ≤ 5000; omega) (by decide)
  refine msg_part hk hl hn hm hd hb ⟨_, _, rfl, ?_, ?_⟩
  · rw [PySem.Str.length_append, PySem.Str.length_append]
    exact Nat.le_trans (show Str.empty.length + a.length + _ ≤ 5000 by show 0 + a.length + _ ≤ 5000; omega) (by decide)
  refine Calls.Constant_str ⟨b, _, rfl, ?_, ?_⟩
  · rw [PySem.Str.length_append, PySem.Str.length_append, PySem.Str.length_append]
    exact Nat.le_trans (show Str.empty.length + a.length + _ + b.length ≤ 5000 by show 0 + a.length + _ + _ ≤ 5000; omega) (by decide)
  refine ⟨?_, q _ s.heap _ fun _ _ e => e⟩
  rw [PySem.Str.length_append, PySem.Str.length_append, PySem.Str.length_append]
  exact Nat.le_trans (show Str.empty.length + a.length + _ + b.length ≤ 5000 by show 0 + a.length + _ + _ ≤ 5000; omega) (by decide)
theorem msg_2 {a : Str} {j1 : Nat} {p0 p1 p2 p3 : Pos} (hd : (at_ == ("__debug__" : Str)) = false) (la : a.length ≤ 1000) (v : V) (u : Value) (hv : fmtI v) (r : RelV v u) :
    PySem.OwnX.MsgOk prog w at_ (.JoinedStr [.Constant (.str a) j1 p1, .FormattedValue (.Name at_ p2) (-1) none p3] p0) u := by
  obtain ⟨i, rfl, hb⟩ := hv
  obtain ⟨t, rfl⟩ := r
  intro A env s m Q E hk hl hn hm q
  have l1 := PyProof.Rows.int_text_len_1921 hb
  refine wpAny_JoinedStr ?_
  refine Calls.Constant_str ⟨a, _, rfl, ?_, ?_⟩
  · rw [PySem.Str.length_append]
    exact Nat.le_trans (show Str.empty.length + a.length ≤ 5000 by show 0 + a.length ≤ 5000; omega) (by decide)
  have z : (Str.empty ++ a ++ (toString i : Str)).length ≤ sizeLine := by
    rw [PySem.Str.length_append, PySem.Str.length_append]
    exact Nat.le_trans (show Str.empty.length + a.length + _ ≤ 5000 by show 0 + a.length + _ ≤ 5000; omega) (by decide)
  exact msg_part hk hl hn hm hd hb ⟨_, _, rfl, z, z, q _ s.heap _ fun _ _ e => e⟩
end
end L2
namespace PyT
open PySem PySem.Spec PyProof.Rows L2
abbrev Cl := Value × Nat × (Addr → Value → Option Addr → TS)
/-- behind a clause's suite its name is gone -/
def gone (D : Ends) (i : Nat) : Ends := { nx := fun τ J => D.nx (τ.set i none) J, rt := D.rt, bk := fun τ J => D.bk (τ.set i none) J, ct := fun τ J => D.ct (τ.set i none) J }
def wCls (K : PySem.W.Frag) (Wout : WX) (D : Ends) : List Cl → WX
  | [] => Wout
  | (c, i, ts) :: r => fun cls d τ J => ∃ hit, PySem.W.exmOne K cls c = some hit ∧ (hit = true → ∀ a, J a = none → ts a cls d (gone D i) (τ.set i (some (.ref a))) J) ∧ (hit = false → wCls K Wout D r cls d τ J)
inductive ClsOk (X : Cx) : List ExceptHandler → List Cl → Prop
  | nil : ClsOk X [] []
  | cons {x n : Str} {i : Nat} {c : Value} {ts : Addr → Value → Option Addr → TS} {b0 : Stmt} {suite : List Stmt} {np ph : Pos} {hds : List ExceptHandler} {l : List Cl} (hc : Names X x c) (hi : X.N[i]? = some n) (hln : X.env.kindOf n = some .local)
      (hsu : ∀ (a : Addr) (oe : Obj) (cls : Value) (d : Option Addr) (pn : List (Addr × Obj)), Zc cls d oe → (∃ vs, oe.data = .fields vs) → PSs (X.suite a ((a, oe) :: pn)) (b0 :: suite) (ts a cls d)) (r : ClsOk X hds l) :
      ClsOk X (.ExceptHandler (some (.Name x np)) (some n) (b0 :: suite) ph :: hds) ((c, i, ts) :: l)
section
variable {X : Cx} {pins : List (Addr × Obj)} {D : Ends} {a : Addr} {cls : Value} {d : Option Addr} {τ : L2.St} {J0 : Hp}
/-- a suite's end -/
theorem suite_end {n : Str} {i : Nat} {q : Addr × Obj} {ph : Pos} {f : Flow} {s6 : Shared} {pn : List (Addr × Obj)} (ok : X.Ok) (hN : X.N.Nodup) (hi : X.N[i]? = some n) (hln : X.env.kindOf n = some .local)
    (un : ∀ {τ' : L2.St} {J' : Hp}, Inv (X.suite a pn) [] τ' J' s6 → Inv X pins τ' J' s6) (h : SP (X.suite a pn) [] (gone D i) f s6) :
    wpAny (model X.prog X.w) X.A (do bindName X.env n .none; unbindBehindTheSuite X.env n ph) (fun _ s7 => SP X pins D f s7) X.xe s6 := by
  cases f with
  | ret u =>
    obtain ⟨v6, τ6, J6, S6, r6, q6⟩ := h
    exact gone_ok (un S6) hN hi hln fun s7 I7 => ⟨v6, _, _, I7, r6, q6⟩
  | next =>
    obtain ⟨τ6, J6, S6, q6⟩ := h
    exact gone_ok (un S6) hN hi hln fun s7 I7 => ⟨_, _, I7, q6⟩
  | brk =>
    obtain ⟨τ6, J6, S6, q6⟩ := h
    exact gone_ok (un S6) hN hi hln fun s7 I7 => ⟨_, _, I7, q6⟩
  | cont =>
    obtain ⟨τ6, J6, S6, q6⟩ := h
    exact gone_ok (un S6) hN hi hln fun s7 I7 => ⟨_, _, I7, q6⟩
end
section
variable {X : Cx} {body : List Stmt} {h0 : ExceptHandler} {hds : List ExceptHandler} {l : List Cl} {pos : Pos} {tb : WX → TS} {Wout : WX}
/-- what is known of an error that has landed, the clauses ahead of it -/
structure Land (X : Cx) (Wout : WX) (pins : List (Addr × Obj)) (B hB : Heap) (sI s' : Shared) (a : Addr) (cls : Value) (d : Option Addr) (τ : L2.St) (J : Hp) : Prop where
  inv : Inv X pins τ J sI
  go : ∀ h, HandSPX.FlyingZ B (X.env :: X.outer) a (Zc cls d) h → hB.UpToSlots h → Inv X pins τ J { s' with heap := h }
  na : J a = none
  nL : a ≠ X.env.locals
  nF : a ∉ X.fs
  up : ∀ h, HandSPX.HeldZ B (X.env :: X.outer) a (Zc cls d) X.env.locals h → hB.UpToSlots h → Wout cls d τ J → X.xe (.ref a) { s' with heap := h }
theorem run_clauses {D : Ends} {pins : List (Addr × Obj)} {B hB : Heap} {sI s' : Shared} {a : Addr} {cls : Value} {d : Option Addr} {τ : L2.St} {J : Hp} (hN : X.N.Nodup) (hf : X.env.frame = some X.env.locals) (ok : X.Ok) : ∀ {hs : List ExceptHandler} {l : List Cl}, ClsOk X hs l →
    ∀ {h : Heap}, Land X Wout pins B hB sI s' a cls d τ J → hB.UpToSlots h → HandSPX.FlyingZ B (X.env :: X.outer) a (Zc cls d) h → wCls X.K Wout D l cls d τ J →
      wpAny (model X.prog X.w) X.A (handleBy (.ref a) X.env hs) (SP X pins D) X.xe { s' with heap := h } := by
  intro hs l hk
  induction hk with
  | nil =>
    intro h Ld uh fl w
    refine wpAny_handleBy_nil ?_
    obtain ⟨_, _, _, ox, vx, T, oT, tx, ex, zx, dx, e1, er⟩ := id fl
    unfold PySem.passOn
    refine wpAny_bind (wpAny_field ex dx e1 ?_)
    have tn : ¬ ((Value.ref T == Value.none) = true) := by simp
    rw [if_neg tn]
    have out : wpAny (model X.prog X.w) X.A (setFlight (.ref a) X.env.frame) (fun _ s4 => wpAny (model X.prog X.w) X.A (throw (.ref a) : Sem Flow) (SP X pins D) X.xe s4) X.xe { s' with heap := h } := by
      rw [hf]
      exact HandSPX.setFlight_upZ fl fun h4 hh4 u4 => wpAny_throw (Ld.up h4 hh4 (uh.trans u4) w)
    first
      | exact wpAny_bind (wpAny_pure (wpAny_bind out))
      | exact wpAny_bind out
  | @cons x n i c ts b0 suite np ph hds l hc hi hln hsu r ih =>
    intro h Ld uh fl w
    obtain ⟨hit, hm, hyes, hno⟩ := w
    have I3 := Ld.go h fl uh
    obtain ⟨o3, v3, e3, z3, d3⟩ := fl.there
    have S3 := I3.suite e3 d3 Ld.na Ld.nL Ld.nF
    have tyL : PySem.W.Looks (model X.prog X.w) h (typeOf (.ref a)) cls := fun A Q E s k q => wpAny_typeOf_ref (k _ _ e3) (by rw [z3.1]; exact q)
    have LM := PySem.W.exm_one (M := model X.prog X.w) I3.kIn tyL hm
    refine wpAny_handleBy_cons (codeAny_handlers_test ?_) (by intro q; cases q)
    have named : ∀ {Q : Value → Shared → Prop} {E : Value → Shared → Prop}, Q c { s' with heap := h } → wpAny (model X.prog X.w) (X.A.mark (some (.ref a))) (eval (.Name x np) X.env) Q E { s' with heap := h } := fun {Q E} q => by
      obtain ⟨k1, k2, k3 | ⟨k3, k4, k5⟩⟩ := hc
      · exact ld_glob (X := X.suite a _) S3 k1 k3 q k2
      · exact ld_blt (X := X.suite a _) S3 k1 k3 k4 q k5 k2
    refine named (LM.here ?_)
    cases hit with
    | false => exact ih Ld uh fl (hno rfl)
    | true =>
      refine codeAny_handlers_suite_as ?_
      refine HandSPX.lands_againZ fl fun h4 fl4 u4 => ?_
      obtain ⟨o4, v4, e4, z4, d4⟩ := fl4.there
      have S4 := (Ld.go h4 fl4 (uh.trans u4)).suite e4 d4 Ld.na Ld.nL Ld.nF
      refine store_ok (X := X.suite a _) (v := .ref a) S4 hN hi (.inl hln) rfl (fun s5 S5 => ?_) (.inr hln)
      refine wpAny_mono ((hsu a o4 cls d _ z4 ⟨_, d4⟩).run [] s5 _ J (gone D i) S5 (hyes rfl a Ld.na)) (fun f s6 h6 => ?_) (fun _ _ z => False.elim z)
      exact suite_end (q := (a, o4)) ok hN hi hln (fun I => I.unsuite ok) h6
theorem ps_try_cls (hs : X.stack = X.env :: X.outer) (hf : X.env.frame = some X.env.locals) (hN : X.N.Nodup) (tk : Takes X Wout)
    (hb : ∀ (W : WX) (pn : List (Addr × Obj)) (xe : Value → Shared → Prop), Takes (X.tr pn xe) W → PassesOwn (model X.prog X.w) X.A X.env xe → PSs (X.tr pn xe) body (tb W))
    (hh : ClsOk X (h0 :: hds) l) : PS X (.Try body (h0 :: hds) [] [] pos) (fun D σ H => tb (wCls X.K Wout D l) D σ H) := by
  refine ⟨fun pins s σ H D I h => ?_⟩
  have ok := I.ok
  have hfr : X.A.frames = some (X.env :: X.outer) := by rw [ok.frames, hs]
  let xe' : Value → Shared → Prop := fun e s1 => wpAny (model X.prog X.w) X.A (noteFrame e X.env) (fun _ s2 => wpAny (model X.prog X.w) X.A (setFlight e none) (fun _ s3 => wpAny (model X.prog X.w) X.A (handleBy e X.env (h0 :: hds)) (SP X pins D) X.xe s3) X.xe s2) X.xe s1
  have taken : Takes (X.tr (X.pn ++ pins) xe') (wCls X.K Wout D l) := by
    intro u s' xx
    obtain ⟨a, B, sI, pins', τ, J, cls, d, rfl, I0, nb, up, sky, na, os, ag, w⟩ := xx
    have I1 : Inv X pins τ J sI := I0.ofTry ok
    have sky1 : Sky B (X.env :: X.outer) a (Zc cls d) X.env.locals s'.heap := by rw [← hs]; exact sky
    show wpAny (model X.prog X.w) X.A (noteFrame (.ref a) X.env) _ _ _
    refine Sky.land Zc.steady hfr hf sky1 fun h3 fl3 up3 => ?_
    obtain ⟨o3, v3, e3, z3, d3⟩ := fl3.there
    have away : a ∉ frs (X.env :: X.outer) := fun hm => by
      obtain ⟨_, o', e', hnf⟩ := fl3.2.2.1.mem hm
      rw [e3] at e'
      cases e'
      exact hnf _ d3
    have nL : a ≠ X.env.locals := fun z => away (List.mem_filterMap.mpr ⟨X.env, List.mem_cons_self, by rw [hf, z]⟩)
    have nF : a ∉ X.fs := fun hm => by
      obtain ⟨e, he, q⟩ := List.mem_filterMap.mp hm
      exact away (List.mem_filterMap.mpr ⟨e, List.mem_cons_of_mem _ he, q⟩)
    refine run_clauses (B := B) (hB := s'.heap) (sI := sI) (s' := s') hN hf ok hh ⟨I1, fun h fl u => I1.landed nb fl.1 (up.trans u) os ag, na, nL, nF, fun h hh u w => tk _ _ ?_⟩ up3 fl3 w
    exact ⟨a, B, sI, pins, τ, J, cls, d, rfl, I1, nb, up.trans u, .inr (.inr (by rw [hs]; exact hh)), na, os, ag, w⟩
  refine wpAny_Try_except (wpAny_mono ((hb _ (X.pn ++ pins) xe' taken PassesOwn.looking).run [] s σ H D (I.toTry _) h) (fun f s1 h1 => ?_) fun e s1 z => z)
  cases f with
  | next =>
    obtain ⟨τ, J, I1, q⟩ := h1
    exact wpAny_execs_nil ⟨τ, J, I1.ofTry ok, q⟩
  | brk =>
    obtain ⟨τ, J, I1, q⟩ := h1
    exact ⟨τ, J, I1.ofTry ok, q⟩
  | cont =>
    obtain ⟨τ, J, I1, q⟩ := h1
    exact ⟨τ, J, I1.ofTry ok, q⟩
  | ret u =>
    obtain ⟨v, τ, J, I1, r, q⟩ := h1
    exact ⟨v, τ, J, I1.ofTry ok, r, q⟩
end
end PyT
namespace PyE
open PySem PySem.Spec PySem.Calls PyProof.Rows PySem.W
section
variable {prog : Program} {w : World} {A : Around} {E : Value → Shared → Prop} {s : Shared} {K : Frag} {x D : Addr} {ox od : Obj}
theorem find_data {C : Addr} {od : Option Obj} {nm : Str} {a g : Value} (h1 : (clsIn K C).isSome = true) (h2 : findIn K (.ref C) nm = some (some a)) (h3 : specialIn K a "__get__" = some (some g)) (h4 : takesIn K a = some true) : findObj K C od nm = some (.bind g a) := by
  obtain ⟨cd, h1⟩ := Option.isSome_iff_exists.mp h1
  unfold findObj
  rw [h1, Option.bind_some, h2, Option.bind_some]
  simp [h3, h4]
theorem cls_of_exc {Q : Option Value → Shared → Prop} (T : L2.ExcC K D) (X : K.In s.heap) (I : InstAt s.heap x ox D (some od)) (q : Q (some (.ref D)) { s with toks := s.toks + 1 }) : wpAny (model prog w) A (getAttr? (.ref x) "__class__") Q E s := by
  have hf : findObj K D (some od) "__class__" = some (.bind (.builtin "getset_descriptor.__get__") (.builtin "object.__class__")) := find_data (by obtain ⟨cd, z, _⟩ := any_some T.hd; rw [z]; rfl) T.ha T.hn T.ht
  obtain ⟨hp, g, dd, t, os⟩ := s
  have ty := I.type (M := model prog w)
  have ga := looks_findIn (M := model prog w) X T.hg
  have gt := looks_findIn (M := model prog w) X T.hk
  have fd := looks_find (M := model prog w) X I hf
  have isx : Looks (model prog w) hp (isInstance (.ref x) (.type "BaseException")) true := ty.andThen (looks_subIn X T.hs)
  have no0 : (false && onTheHeap (Value.builtin "BaseException.__getattribute__")) = false := rfl
  have no1 : (Value.builtin "BaseException.__getattribute__" == Value.builtin "object.__getattribute__") = false := by decide +kernel
  have no2 : (onTheHeap (Value.ref D) && Value.builtin "BaseException.__getattribute__" == Value.builtin "object.__getattribute__") = false := by rw [no1]; rfl
  unfold getAttr? getAttrBy? getAttrBy
  refine wpAny_bind (wpAny_mkText (wpAny_bind (wpAny_attempt (wpAny_holding (wpAny_bind (ty.at (wpAny_bind (ga.at ?_))))))))
  show wpAny _ _ (if (onTheHeap (Value.ref D) && Value.builtin "BaseException.__getattribute__" == Value.builtin "object.__getattribute__") = true then _ else _) _ _ _
  rw [no2, if_neg Bool.false_ne_true]
  unfold getAttrByItsOwn hookBefore
  refine wpAny_bind ?_
  rw [if_pos (show onTheHeap (Value.ref D) = true from rfl)]
  refine gt.at ?_
  refine wpAny_bind (wpAny_attempt (wpAny_holding ?_))
  unfold callGetattribute
  rw [no0, if_neg Bool.false_ne_true]
  unfold boundAndCalled
  rw [PySem.F.excAttr_ValueError.ga.bind (.ref x)]
  refine wpAny_bind (wpAny_pure ?_)
  show wpAny _ _ (call (.builtin "BaseException.__getattribute__") [.ref x, .str "__class__" t]) _ _ _
  refine wpAny_call (codeAny_call_builtin PySem.F.excAttr_ValueError.ga.plain PySem.F.entry_bexc_ga ?_)
  refine @check_slot (model prog w) _ _ ⟨hp, g, dd, t + 1, os⟩ "BaseException.__getattribute__" "BaseException" "__getattribute__" (.ref x) [.str "__class__" t] [] _ (by decide +kernel) (by decide +kernel) isx (PySem.F.args_bexc_ga (.ref x) (.str "__class__" t)) ?_
  unfold Builtin.«object.__getattribute__»
  refine wpAny_bind (wpAny_of_eq (a := ((Value.ref x : Value), [Value.str "__class__" t])) (by first | rfl | (simp only [slotArgs]; rfl)) ?_)
  refine wpAny_bind (wpAny_pure (wpAny_bind (ty.at (wpAny_bind (fd.at ?_)))))
  show wpAny _ _ (holding [Value.builtin "object.__class__"] (call (.builtin "getset_descriptor.__get__") [.builtin "object.__class__", .ref x, .ref D]) >>= ret) _ _ _
  refine wpAny_bind (wpAny_holding (wpAny_call (class_get (s := ⟨hp, g, dd, t + 1, os⟩) (ox := ox) (od := some od) X I T.hm ?_)))
  refine wpAny_pure ?_
  show wpAny _ _ (handedOut (.ref D)) _ _ _
  rw [handedOut_of (v := .ref D) rfl]
  first
    | exact wpAny_pure (wpAny_pure q)
    | exact wpAny_pure q
    | exact wpAny_pure (wpAny_bind (wpAny_pure (wpAny_pure q)))
theorem kitx (T : L2.ExcC K D) : KitX K (.ref x) (.ref D) (fun h => InstAt h x ox D (some od)) where
  ty := fun _ _ _ I => I.type
  it := fun _ _ X _ => by
    obtain ⟨cdD, hcD, _⟩ := any_some T.hd
    unfold clsIn at hcD
    split at hcD
    · rename_i c' d' cd' sl' ho
      intro A' Q' E' s' k q
      unfold isType loadHead
      exact wpAny_bind (wpAny_loadPart (k _ _ (X _ _ ho)) (wpAny_pure q))
    · cases hcD
  ne := fun h tp dd its n sl X htp => by
    obtain ⟨cdD, hcD, _⟩ := any_some T.hd
    refine Bool.eq_false_iff.mpr fun q => ?_
    have e : D = tp := Value.ref.inj (beq_iff_eq.mp q)
    subst e
    unfold clsIn at hcD
    split at hcD
    · rename_i c' d' cd' sl' ho
      have z := (X _ _ ho).symm.trans htp
      cases z
    · cases hcD
  ca := fun X I k => cls_of_exc T X I k
end
end PyE
namespace PyE
open PySem PySem.Spec PyProof.Rows L2 PyD PyT
/-- isinstance(e, c): e what the suite holds, of the class cls, with the dict d -/
def rIsX (K : PySem.W.Frag) (a : Addr) (cls : Value) (d : Option Addr) : List V → Hp → VK → Prop := fun xs H Q => ∃ (D dd : Addr) (fs : List (Str × V)) (c : V) (cv : Value) (b : Bool), cls = .ref D ∧ d = some dd ∧ H dd = some (.xd fs) ∧ ExcC K D ∧ xs = [.ref a, c] ∧ (∀ u, RelV c u → u = cv) ∧ PySem.W.kitOne K (.ref D) cv = some b ∧ Q (.bl b) H
theorem call_isX {X : Cx} {a : Addr} {cls : Value} {d : Option Addr} {oe : Obj} {pn : List (Addr × Obj)} (hz : Zc cls d oe) (hf : ∃ vs, oe.data = .fields vs) : CallR (X.suite a ((a, oe) :: pn)) (.builtin "isinstance") (rIsX X.K a cls d) := by
  intro pins s σ H xs us Q I r h
  obtain ⟨D, dd, fs, c, cv, b, rfl, rfl, hdd, C, rfl, hcv, e, q⟩ := h
  cases r with
  | cons rx rr =>
    cases rr with
    | cons rt rr =>
      cases rr
      cases rx
      have ec := hcv _ rt
      subst ec
      obtain ⟨hget, _⟩ := I.pin (a, oe) (List.mem_append.mpr (.inl List.mem_cons_self))
      obtain ⟨vs, hv⟩ := hf
      have hx : ObjOk X.prog X.w H s.heap dd (.xd fs) := I.hok dd _ hdd
      obtain ⟨mA, hns, _⟩ := hx
      obtain ⟨od, ho, _⟩ := lookIn_ns hns
      have J : PySem.W.InstAt s.heap a oe D (some od) := ⟨hget, hz.1, by unfold PySem.W.notCls; rw [hv] <;> rfl, by rw [hz.2]; exact ho⟩
      exact PySem.W.kia_one (kitx C) I.kIn J e (fun z => nomatch z) fun tk => ⟨.bl b, H, I.kept (t' := tk) fun _ _ z => z, rfl, q⟩
def tTry (K : PySem.W.Frag) (Wout : WX) (l : List Cl) (tb : WX → TS) : TS := fun D σ H => tb (wCls K Wout D l) D σ H
section
variable {K : PySem.W.Frag} {W : WX} {ex : Ek} {G : Gm} {O : Ow} {P : D → Ow → Prop} {E : EnD} {ta te : TE} {t u : TS} {aa : TA}
theorem wpS_raise {C : Addr} {at_ : Str} {okV : V → Prop} (h : wpA K W ex aa G O fun ds O1 => ∃ d, ds = [d] ∧ (∀ F v, Rp K F d v → okV v) ∧ ex ⟨C, [(at_, d)]⟩ G O1) : wpS K W ex (tRaiseX C at_ okV W aa) G O E := fun Z F H σ X S s D0 q =>
  h Z F H σ X S s _ fun ds vs F1 H1 O1 S1 e1 r1 ⟨d, hd, hok, he⟩ => by
    subst hd
    cases r1 with
    | cons rv rn =>
      cases rn
      refine ⟨_, rfl, hok _ _ rv, fun dd hdd => ?_⟩
      have nF := S1.ex.none hdd
      refine X ⟨C, [(at_, d)]⟩ (some dd) _ _ σ G O1 (e1.trans (Ex.new nF)) (S1.frz _ hdd) (s.mono (e1.trans (Ex.new nF))) (fun a => ?_) he
      exact .exc1 upd_same rfl (.cons (rv.mono (Ex.new nF)) .nil)
def goneE (E : EnD) (i : Nat) : EnD := { nx := fun G O => E.nx (G.set i none) O, rt := E.rt, bk := fun G O => E.bk (G.set i none) O, ct := fun G O => E.ct (G.set i none) O }
/-- what becomes of an exception at the clauses -/
def exCls (K : PySem.W.Frag) (W : WX) (ex : Ek) (E : EnD) : List Cl → Ek
  | [] => ex
  | (c, i, ts) :: r => fun x G O => ∃ hit, PySem.W.exmOne K (.ref x.cls) c = some hit ∧ (hit = true → ∀ a d, wpS K W ex (ts a (.ref x.cls) d) (G.set i (some (.exc a x.cls d x.fs))) O (goneE E i)) ∧ (hit = false → exCls K W ex E r x G O)
theorem exCls_ok {Z : En0} {F : Hp} {D0 : Ends} (X : XOk K Z F ex W) (q : EnOk K Z F E D0) : ∀ l : List Cl, XOk K Z F (exCls K W ex E l) (wCls K W D0 l)
  | [] => X
  | (c, i, ts) :: r => fun x d F1 H σ G O e1 S s xr h => by
    obtain ⟨hit, h1, h2, h3⟩ := h
    refine ⟨hit, h1, fun hh a _ => ?_, fun hh => exCls_ok X q r x d F1 H σ G O e1 S s xr (h3 hh)⟩
    exact h2 hh a d Z F1 H _ (X.mono e1) S (s.set (xr a)) _ ⟨fun F2 H2 σ2 G2 O2 e2 S2 s2 p2 => q.nx F2 H2 _ _ O2 (e1.trans e2) S2 s2.unset p2, (q.mono e1).rt, fun F2 H2 σ2 G2 O2 e2 S2 s2 p2 => q.bk F2 H2 _ _ O2 (e1.trans e2) S2 s2.unset p2,
      fun F2 H2 σ2 G2 O2 e2 S2 s2 p2 => q.ct F2 H2 _ _ O2 (e1.trans e2) S2 s2.unset p2⟩
theorem wpS_try {l : List Cl} {tb : WX → TS} (h : ∀ W', wpS K W' (exCls K W ex E l) (tb W') G O E) : wpS K W ex (tTry K W l tb) G O E := fun Z F H σ X S s D0 q => h _ Z F H σ (exCls_ok X q l) S s D0 q
/-- a caught error's attribute -/
theorem wpE_xf {a C C' : Addr} {cls : Value} {d : Option Addr} {f : Str} {fs : List (Str × D)} (hc : cls = .ref C) (h : wpE K W ex te G O fun x O1 => x = .exc a C' d fs ∧ ∃ v, fs.lookup f = some v ∧ P v O1) : wpE K W ex (tXf a cls d C f te) G O P := fun Z F H σ X S s Q q =>
  h Z F H σ X S s _ fun x vx F1 H1 O1 S1 e1 r1 ⟨hx, v, hl, p⟩ => by
    subst hx
    have look : ∀ {fs : List (Str × D)} {gs : List (Str × V)}, fs.map (·.1) = gs.map (·.1) → Rps K F1 (fs.map (·.2)) (gs.map (·.2)) → ∀ {v}, fs.lookup f = some v → ∃ u, gs.lookup f = some u ∧ Rp K F1 v u := by
      intro fs
      induction fs with
      | nil => intro gs _ _ v hv; cases hv
      | cons p fs ih =>
        intro gs e r v hv
        cases gs with
        | nil => cases e
        | cons g gs =>
          rw [List.map_cons, List.map_cons, List.cons.injEq] at e
          cases r with
          | cons ra rb =>
            obtain ⟨k, dv⟩ := p
            obtain ⟨k2, gv⟩ := g
            obtain ⟨e1, e2⟩ := e
            dsimp only at e1
            subst e1
            rw [List.lookup_cons] at hv ⊢
            cases hk : f == k with
            | true =>
              rw [hk] at hv
              cases hv
              exact ⟨gv, rfl, ra⟩
            | false =>
              rw [hk] at hv
              exact ih e2 rb hv
    cases r1 with
    | exc0 => cases hl
    | exc1 h1 h2 h3 =>
      obtain ⟨u, hu, ru⟩ := look h2 h3 hl
      exact ⟨rfl, hc, _, _, u, rfl, S1.ex _ _ h1, hu, q v u F1 H1 O1 S1 e1 ru p⟩
end
end PyE
namespace PyH
open PySem PySem.Spec PyProof.Rows L2 PySem.HandSPX
def cellB (K : PySem.W.Frag) (a C : Addr) : Bool := match K.lookup a with
  | some ⟨_, _, .cell (some (.ref b)), _⟩ => decide (b = C)
  | _ => false
abbrev FnI : Type := Option (Str × Str × Arguments × FuncBody × Scope × Addr × List (Str × Bool) × Addr)
/-- an own exception class: its name, its attribute, its __init__ -/
structure ExD where
  x : Str
  at_ : Str
  qual : Str
  st : Stmt
abbrev iAd (K : PySem.W.Frag) (x : Str) : Addr := He.ma K (He.ga K x) "__init__"
def initW (K : PySem.W.Frag) (x : Str) : FnI := match K.lookup (iAd K x) with
  | some ⟨_, _, .func fd, _⟩ => some (fd.name, fd.qualname, fd.params, fd.body, fd.scope, fd.globals, fd.closure.map fun q => (q.1, cellB K q.2 (He.ga K x)), fd.builtins)
  | _ => none
def ExD.val (d : ExD) : FnI := some ("__init__", d.qual, defArgs d.st, .stmts (defBody d.st), defScope d.st, mainGlobals, [("__class__", true)], builtinsNs)
def noneB : Value → Bool
  | .none => true
  | _ => false
theorem noneB_ok {v : Value} (h : noneB v = true) : v = .none := by
  cases v <;> first | rfl | cases h
def fileB (K : PySem.W.Frag) (cd : Value) (file : Str) : Bool := match cd with
  | .ref c => (match K.lookup c with
    | some ⟨_, _, .fields vs, _⟩ => (match (vs[2]? : Option Value) with
      | some (.str f _) => decide (file = f)
      | _ => false)
    | _ => false)
  | _ => false
theorem fileB_ok {K : PySem.W.Frag} {cd : Value} {file : Str} (h : fileB K cd file = true) : ∃ (c : Addr) (ccl : Value) (cdd : Option Addr) (vs : Array Value) (ccs : Array (Option Value)) (tf : Tok), cd = .ref c ∧ K.lookup c = some ⟨ccl, cdd, .fields vs, ccs⟩ ∧ vs[2]? = some (.str file tf) := by
  unfold fileB at h
  cases cd with
  | ref c =>
    dsimp only at h
    cases q : K.lookup c with
    | none => rw [q] at h; cases h
    | some o =>
      obtain ⟨ccl, cdd, dt, ccs⟩ := o
      rw [q] at h
      cases dt with
      | fields vs =>
        dsimp only at h
        cases e : vs[2]? with
        | none => rw [e] at h; cases h
        | some v =>
          rw [e] at h
          cases v with
          | str f tf =>
            have hf : file = f := of_decide_eq_true h
            subst hf
            exact ⟨c, ccl, cdd, vs, ccs, tf, rfl, q, e⟩
          | _ => cases h
      | _ => cases h
  | _ => cases h
def clsB (K : PySem.W.Frag) (C : Addr) : Bool := match K.lookup C with
  | some ⟨.type "type", _, .cls cd, sl⟩ => (match cd.mro, sl.toList with
    | .ref C' :: bm, [_, _, _, _, some (.builtin n), _] => decide (C' = C) && (decide (n = "ValueError.__new__") && (!cd.hasDel && (refsVE bm && cd.hasDict)))
    | _, _ => false)
  | _ => false
theorem clsB_ok {K : PySem.W.Frag} {C : Addr} (h : clsB K C = true) : ∃ nm q N bs bm sn sub ab col dd k0 k1 k2 k3 k5, K.lookup C = some (excClassObj nm q C N bs bm true sn sub ab col dd k0 k1 k2 k3 k5 "ValueError.__new__") ∧ refsVE bm = true := by
  unfold clsB at h
  split at h
  · rename_i dd cd sl ho
    split at h
    · rename_i C' bm k0 k1 k2 k3 n k5 hm hs
      obtain ⟨h1, h⟩ := He.ba h
      obtain ⟨h2, h⟩ := He.ba h
      obtain ⟨h3, h⟩ := He.ba h
      obtain ⟨h4, h5⟩ := He.ba h
      obtain rfl := of_decide_eq_true h1
      obtain rfl := of_decide_eq_true h2
      have h6 : cd.hasDel = false := by simpa using h3
      obtain ⟨nm, bs, mro, ns, qn, hd, sn, sub, ab, col, del⟩ := cd
      dsimp only at hm h6 h5
      subst hm h6 h5
      have hsl : sl = #[k0, k1, k2, k3, some (.builtin "ValueError.__new__"), k5] := by
        obtain ⟨l⟩ := sl
        simp only at hs
        rw [hs]
      subst hsl
      exact ⟨nm, qn, ns, bs, bm, sn, sub, ab, col, dd, k0, k1, k2, k3, k5, ho, h4⟩
    · cases h
  · cases h
def ExD.ok (file : Str) (K : PySem.W.Frag) (d : ExD) : Bool :=
  let C := He.ga K d.x
  let f := iAd K d.x
  clsB K C && (He.eqO (PySem.W.findIn K (.ref C) "__setattr__") (some (some (.builtin "object.__setattr__"))) && (He.eqO (PySem.W.findIn K (.ref C) d.at_) (some none) && (He.eqO (PySem.W.findIn K (.ref C) "__init__") (some (some (.ref f))) &&
  (decide (PySem.W.typeIn K (.ref f) = some (.type "function")) && (He.eqO (PySem.W.nsIn K cStatics "thirdparty.any") (some none) && (He.eqO (PySem.W.ks_superIn K C C "__init__") (some (some (.builtin "ValueError.__init__"))) &&
  (decide (PySem.W.subIn K (.ref C) (.type "ValueError") = some true) && (decide (PySem.W.mroIn K C (.ref C) = some true) && (match K.lookup f with
    | some ⟨_, _, .func fd, _⟩ => noneB fd.defaults && (noneB fd.kwdefaults && (PySem.W.codeIn K fd.code d.qual && fileB K fd.code file))
    | _ => false)))))))))
/-- an own exception class, as its instances are raised and asked -/
structure ExC2 (K : PySem.W.Frag) (C : Addr) (at_ : Str) : Prop where
  kp : PySem.W.keepIn K (.ref C) = true
  sb : PySem.W.subIn K (.ref C) (.type "BaseException") = some true
  ty : PySem.W.typeIn K (.ref C) = some (.type "type")
  xf : XfC K C
  ex : ExcC K C
  no : PySem.W.findIn K (.ref C) at_ = some none
def ex2B (K : PySem.W.Frag) (C : Addr) (at_ : Str) : Bool := PySem.W.keepIn K (.ref C) && (decide (PySem.W.subIn K (.ref C) (.type "BaseException") = some true) && (decide (PySem.W.typeIn K (.ref C) = some (.type "type")) && (xfB K C && (He.eqO (PySem.W.findIn K (.ref C) at_) (some none) &&
  (He.eqO (PySem.W.findIn K (.ref C) "__class__") (some (some (.builtin "object.__class__"))) && (He.eqO (PySem.W.specialIn K (.builtin "object.__class__") "__get__") (some (some (.builtin "getset_descriptor.__get__"))) && (decide (PySem.W.takesIn K (.builtin "object.__class__") = some true) && decide (PySem.W.mroIn K C (.type "object") = some true))))))))
theorem ex2B_ok {K : PySem.W.Frag} {C : Addr} {at_ : Str} (h : ex2B K C at_ = true) : ExC2 K C at_ := by
  obtain ⟨h1, h⟩ := He.ba h
  obtain ⟨h2, h⟩ := He.ba h
  obtain ⟨h3, h⟩ := He.ba h
  obtain ⟨h4, h⟩ := He.ba h
  obtain ⟨h5, h⟩ := He.ba h
  obtain ⟨h6, h⟩ := He.ba h
  obtain ⟨h7, h⟩ := He.ba h
  obtain ⟨h8, h9⟩ := He.ba h
  have x := xfB_ok h4
  exact ⟨h1, of_decide_eq_true h2, of_decide_eq_true h3, x, ⟨x.ga, x.gg, x.exC, x.hdC, He.eqO_ok h6, He.eqO_ok h7, of_decide_eq_true h8, of_decide_eq_true h9⟩, He.eqO_ok h5⟩
theorem ex_txt {prog : Program} {K : PySem.W.Frag} {d : ExD} {msg : Expr} {file : Str} {p1 p2 q0 q1 qq2 q3 q4 r1 r2 r3 r4 : Pos} (e : initW K d.x = d.val) (c : d.ok file K = true)
    (hA : defArgs d.st = OwnX.iA d.at_ p1 p2) (hB : defBody d.st = OwnX.iB d.at_ msg q0 q1 qq2 q3 q4 r1 r2 r3 r4) (hS : defScope d.st = OwnX.iS d.at_) (sup : OwnX.SupOk msg q0 q1 qq2 q3)
    (ok : (d.at_ == ("self" : Str)) = false ∧ (d.at_ == ("super" : Str)) = false ∧ (d.at_ == ("__class__" : Str)) = false ∧ (d.at_ == ("__debug__" : Str)) = false)
    (bnd : ∀ (qual : Str) (p1 p2 : Pos) (body : List Stmt) (doc pm : Value) (an : Option Addr) (cdv ct : Value) (cc : Addr) (a v : Value), bindArgs (PySem.W.fnX "__init__" qual (OwnX.iA d.at_ p1 p2) body (OwnX.iS d.at_) [("__class__", cc)] .none .none doc pm an cdv ct) ⟨[a, v], []⟩ = pure ([(("self" : Str), a), (d.at_, v)] : List (Str × Value)))
    (top : (prog.main.scope.names.lookup ("super" : Str)).isSome = false) (hfile : ((prog.main.file : Str) == file) = true) : OwnX.Txt prog K d.at_ msg (He.ga K d.x) (iAd K d.x) := by
  unfold ExD.ok at c
  obtain ⟨c1, c⟩ := He.ba c
  obtain ⟨c2, c⟩ := He.ba c
  obtain ⟨c3, c⟩ := He.ba c
  obtain ⟨c4, c⟩ := He.ba c
  obtain ⟨c5, c⟩ := He.ba c
  obtain ⟨c6, c⟩ := He.ba c
  obtain ⟨c7, c⟩ := He.ba c
  obtain ⟨c8, c⟩ := He.ba c
  obtain ⟨c9, c⟩ := He.ba c
  refine ⟨clsB_ok c1, He.eqO_ok c2, He.eqO_ok c3, He.eqO_ok c4, of_decide_eq_true c5, He.eqO_ok c6, He.eqO_ok c7, of_decide_eq_true c8, of_decide_eq_true c9, ok, bnd, top, ?_⟩
  unfold initW at e
  cases q : K.lookup (iAd K d.x) with
  | none => rw [q] at c; cases c
  | some o =>
    obtain ⟨oc, od, dt, osl⟩ := o
    rw [q] at c e
    cases dt with
    | func fd =>
      obtain ⟨n1, n2, n3, n4, n5, n6, n7, n8, n9, n10, n11, n12, n13, n14, n15⟩ := fd
      have e2 : (some (n1, n2, n3, n4, n5, n6, n7.map fun q => (q.1, cellB K q.2 (He.ga K d.x)), n15) : FnI) = (some ("__init__", d.qual, defArgs d.st, FuncBody.stmts (defBody d.st), defScope d.st, mainGlobals, [("__class__", true)], builtinsNs) : FnI) := e
      simp only [Option.some.injEq, Prod.mk.injEq] at e2
      obtain ⟨h1, h2, h3, h4, h5, h6, h7, h8⟩ := e2
      subst h1 h2 h3 h4 h5 h6 h8
      obtain ⟨k1, k⟩ := He.ba c
      obtain ⟨k2, k⟩ := He.ba k
      obtain ⟨k3, k4⟩ := He.ba k
      obtain rfl := noneB_ok k1
      obtain rfl := noneB_ok k2
      obtain ⟨cda, ccl, cdd, vs, ccs, tf, rfl, l1, l2⟩ := fileB_ok k4
      cases n7 with
      | nil => cases h7
      | cons p ps =>
        cases ps with
        | cons _ _ => simp at h7
        | nil =>
          obtain ⟨nm, cc⟩ := p
          simp only [List.map_cons, List.map_nil, List.cons.injEq, Prod.mk.injEq, and_true] at h7
          obtain ⟨h71, h7⟩ := h7
          unfold cellB at h7
          cases q2 : K.lookup cc with
          | none => rw [q2] at h7; cases h7
          | some o2 =>
            obtain ⟨cl, cld, dt2, csl⟩ := o2
            rw [q2] at h7
            cases dt2 with
            | cell ov =>
              cases ov with
              | none => cases h7
              | some v =>
                cases v with
                | ref b =>
                  have hb : b = He.ga K d.x := of_decide_eq_true h7
                  subst hb
                  exact ⟨oc, od, n10, n11, n12, cda, cc, n14, osl, d.qual, p1, p2, q0, q1, qq2, q3, q4, r1, r2, r3, r4, ccl, cl, cdd, cld, vs, ccs, csl, file, tf, by rw [hA, hB, hS, h71], k3, l1, l2, hfile, q2, sup⟩
                | _ => cases h7
            | _ => cases h7
    | _ => cases c
end PyH
namespace PyD
open PySem PySem.Spec L2
section
variable {K : PySem.W.Frag} {W : WX} {ex : Ek} {G : Gm} {O : Ow} {P : D → Ow → Prop} {aa : TA} {X : Cx} {i j : Int}
def rSubA : R2 := rI0 fun i j => .int (i - j)
theorem opA_sub : OpR X (binaryOp .Sub) rSubA := op_sub
theorem wpR_sub (p : P (.int (i - j)) O) : wpR K rSubA (.int i) (.int j) O P := wpR_I0i (f := fun i j => i - j) p
def rMulA : R2 := fun x y H Q => rI CMul (fun i j => .int (i * j)) x y H Q ∨ rI CMulW (fun i j => .int (i * j)) x y H Q
theorem opA_mul : OpR X (binaryOp .Mult) rMulA := OpR.or op_mul op_mulW
theorem wpR_mul (h : CMul i j) (p : P (.int (i * j)) O) : wpR K rMulA (.int i) (.int j) O P := wpR_or1 (wpR_Ii (f := fun i j => i * j) h p)
def rDivA : R2 := rI CDivW fun i j => .int (i / j)
theorem opA_div : OpR X (binaryOp .FloorDiv) rDivA := op_fdivW
theorem wpR_div (h0 : 0 < j) (h : j < 4611686018427387904) (p : P (.int (i / j)) O) : wpR K rDivA (.int i) (.int j) O P := wpR_Ii (f := fun i j => i / j) (wide_div (b := 62) h0 (by omega) (by decide) (by decide)) p
def rModA : R2 := rI (fun _ j => 0 < j) fun i j => .int (i % j)
theorem opA_mod : OpR X (binaryOp .Mod) rModA := op_mod
theorem wpR_mod (h0 : 0 < j) (p : P (.int (i % j)) O) : wpR K rModA (.int i) (.int j) O P := wpR_Ii (C := fun _ j => 0 < j) (f := fun i j => i % j) h0 p
def rLtA : R2 := rI0 fun i j => .bl (decide (i < j))
theorem opA_lt : OpR X (compareOp .Lt) rLtA := op_lt
theorem wpR_lt (p : P (.bl (decide (i < j))) O) : wpR K rLtA (.int i) (.int j) O P := wpR_I0b (f := fun i j => decide (i < j)) p
def rLeA : R2 := rI0 fun i j => .bl (decide (i ≤ j))
theorem opA_le : OpR X (compareOp .LtE) rLeA := op_le
theorem wpR_le (p : P (.bl (decide (i ≤ j))) O) : wpR K rLeA (.int i) (.int j) O P := wpR_I0b (f := fun i j => decide (i ≤ j)) p
def rGtA : R2 := rI0 fun i j => .bl (decide (j < i))
theorem opA_gt : OpR X (compareOp .Gt) rGtA := op_gt
theorem wpR_gt (p : P (.bl (decide (j < i))) O) : wpR K rGtA (.int i) (.int j) O P := wpR_I0b (f := fun i j => decide (j < i)) p
def rGeA : R2 := rI0 fun i j => .bl (decide (j ≤ i))
theorem opA_ge : OpR X (compareOp .GtE) rGeA := op_ge
theorem wpR_ge (p : P (.bl (decide (j ≤ i))) O) : wpR K rGeA (.int i) (.int j) O P := wpR_I0b (f := fun i j => decide (j ≤ i)) p
def rNegA : V → Hp → VK → Prop := rU fun i => .int (-i)
theorem unA_neg : UnR X (unaryOp .USub) rNegA := un_neg
theorem wpU_neg (p : P (.int (-i)) O) : wpU K rNegA (.int i) O P := wpU_int (f := fun i => -i) p
def rPowA : R2 := rI CPow fun i j => .int (i ^ j.toNat)
theorem opA_pow : OpR X (binaryOp .Pow) rPowA := op_pow
theorem wpR_pow (h : CPow i j) (p : P (.int (i ^ j.toNat)) O) : wpR K rPowA (.int i) (.int j) O P := wpR_Ii (f := fun i j => i ^ j.toNat) h p
theorem callOr {f : Value} {r r' : List V → Hp → VK → Prop} (h : CallR X f r) (h' : CallR X f r') : CallR X f (fun xs H Q => r xs H Q ∨ r' xs H Q) := by
  intro pins s σ H xs us Q I rv q
  rcases q with q | q
  · exact h pins s σ H xs us Q I rv q
  · exact h' pins s σ H xs us Q I rv q
/-- sorted: ints | pairs of ints -/
def rSortA (K : PySem.W.Frag) : List V → Hp → VK → Prop := fun xs H Q => rSortedI K xs H Q ∨ rSortedPQ K xs H Q
theorem callA_sorted : CallR X (.builtin "sorted") (rSortA X.K) := callOr cr_sortedI cr_sortedPQ
theorem wpC_sortAI (fr : Bool) {x : D} {ns : List Int} (hx : seqOf O x (ns.map D.int)) (p : ∀ ms : List Int, ms.Perm ns → ms.Pairwise (· ≤ ·) → lcEnd fr (ms.map D.int) O P) : wpC K (rSortA K) [x] O P := wpC_or1 (wpC_sortI fr hx p)
/-- .. where no exception is let out -/
theorem wpE_call0E {sp : DSp} {dvs : List V} {dds : List D} (hd : ∀ F, Rps K F dds dvs) (h : wpA K W ex aa G O fun ds O1 => sp (ds ++ dds) [] (fun d N => P d (N ++ O1)) (fun _ _ => False)) :
    wpE K W ex (tCallSD (toSp K sp) dvs (fun _ => E0) aa) G O P := fun Z F H σ X S s Q q =>
  h Z F H σ X S s _ fun ds vs F1 H1 O1 S1 e1 r1 p1 => by
    refine ⟨ds ++ dds, F1, [], _, _, S1.call0, fun _ h => (by cases h), r1.app (hd F1), p1, fun d N v F' H' S' r' k => ?_, fun x N dd F' H' S' r' k => k.elim⟩
    obtain ⟨S2, e2⟩ := S1.back0 S'
    exact q d v F' H' _ S2 (e1.trans e2) r' k
end
end PyD
namespace PyH
open PySem PySem.Spec PyProof.Rows L2
abbrev AlK : Type := He.AlD × (List FnI × Bool)
def obsK (fa : List He.Fa) (fn : List He.DefD) (xs : List ExD) (ex : List (PySem.W.Frag → Bool)) (K : PySem.W.Frag) : AlK := (He.obsD fa fn K, (xs.map fun d => initW K d.x, ex.all fun f => f K))
def valK (fn : List He.DefD) (xs : List ExD) : AlK := (He.valD fn, (xs.map ExD.val, true))
def SaysK (fa : List He.Fa) (fn : List He.DefD) (xs : List ExD) (ex : List (PySem.W.Frag → Bool)) (K : PySem.W.Frag) : Prop := obsK fa fn xs ex K = valK fn xs
section
variable {fa : List He.Fa} {fn : List He.DefD} {xs : List ExD} {ex : List (PySem.W.Frag → Bool)} {K : PySem.W.Frag}
theorem SaysK.d (c : SaysK fa fn xs ex K) : He.SaysD fa fn K := congrArg (fun z : AlK => z.1) c
theorem SaysK.exs (c : SaysK fa fn xs ex K) (i : Nat) {f : PySem.W.Frag → Bool} (h : ex[i]? = some f := by rfl) : f K = true := by
  have e : (ex.all fun f => f K) = true := congrArg (fun z : AlK => z.2.2) c
  exact List.all_eq_true.mp e f (List.mem_of_getElem? h)
theorem SaysK.init (c : SaysK fa fn xs ex K) (i : Nat) {d : ExD} (h : xs[i]? = some d := by rfl) : initW K d.x = d.val := by
  have e : (xs.map fun d => initW K d.x) = xs.map ExD.val := congrArg (fun z : AlK => z.2.1) c
  have h1 : (xs.map fun d => initW K d.x)[i]? = some (initW K d.x) := by rw [List.getElem?_map, h]; rfl
  have h2 : (xs.map ExD.val)[i]? = some d.val := by rw [List.getElem?_map, h]; rfl
  rw [e, h2] at h1
  exact (Option.some.inj h1).symm
end
structure FE (P : Program) (w : World) (K : PySem.W.Frag) (mg : Str → Option Value) (base : Heap) (k : Nat) (x : Str) (ps : List Str) (dvs : List V) (sp : Sp) : Prop where
  kp : PySem.W.keepIn K (.ref (He.ga K x)) = true
  g : mg x = some (.ref (He.ga K x))
  ok : ∃ (fd : FuncData) (ds : List Value), FnOk P w K mg base (L2.CX P w) k (He.ga K x) fd ps sp ∧ Binds K fd ps ds ∧ Vals dvs ds
section
variable {X : Cx} {k : Nat} {ps : List Str} {sp : Sp} {dvs : List V} {E : L2.St → XK} {x : Str} {p pos : Pos} {e : Expr} {es : List Expr} {t : TA}
theorem pe_fe (F : FE X.prog X.w X.K X.mg X.base k x ps dvs sp) (hr : Room k X.A) (hg : Gl X x) (hx : ∀ σ, PassesAt (L2.CX X.prog X.w) X σ (E σ)) (ha : PA X (e :: es) t) (hdb : (x == ("__debug__" : Str)) = false := by decide)
    (he : starEach (e :: es) X.env = (false, eval e X.env) :: starEach es X.env := by rfl) (hpl : (backTo pos (starEach es X.env)).any (·.1) = false := by rfl) : PE X (.Call (.Name x p) (e :: es) [] pos) (tCallSD sp dvs E t) := by
  obtain ⟨fd, ds, ok, hb, hd⟩ := F.ok
  exact pe_callSD ok hr hg F.g F.kp hb hd hx ha hdb he hpl
theorem passE {X : Cx} (σ : L2.St) : PassesAt (L2.CX X.prog X.w) X σ E0 := fun pins H s e s' I c => passL pins σ H s e s' I c
end
/-- a def's body: from its walk to FE -/
theorem fe_of {P : Program} {w : World} {K : PySem.W.Frag} {mg : Str → Option Value} {base : Heap} {x : Str} {st : Stmt} {N ps : List Str} {k : Nat} {dvs : List V} {sp : PyD.DSp} {ts : WX → TS} (F : ∃ fd, FunD K x x (defArgs st) (defBody st) (defScope st) dvs [] (He.ga K x) fd) (g : mg x = some (.ref (He.ga K x)))
    (S : FnScope N ps (defScope st)) (len : ∀ ds O k x, sp ds O k x → ds.length = ps.length)
    (hb : ∀ fd, FunD K x x (defArgs st) (defBody st) (defScope st) dvs [] (He.ga K x) fd → ∃ ds, Binds K fd ps ds ∧ Vals dvs ds)
    (der : ∀ (cdv : Value) (A : Around) (outer : List Env) (s : Shared) (H : Hp) (E : XK), Room k (A.deeper (envOfC x (defScope st) s.heap.objs.size (He.ga K x) cdv)) →
      PSs (cxOf (L2.CX P w) P w K mg base N x (defScope st) (He.ga K x) cdv A outer s H E) (defBody st) (ts fun cls d _ H => E cls d H))
    (walk : ∀ W ds O k x, sp ds O k x → (∀ p ∈ O, p.loc = false) → PyD.wpS K W (fun e _ O' => x e O') (ts W) (PyD.startD N.length ds) O { nx := fun _ O' => k .non O', rt := k }) : FE P w K mg base (k + 1) x ps dvs (PyD.toSp K sp) := by
  obtain ⟨fd, F⟩ := F
  obtain ⟨ds, hb1, hb2⟩ := hb fd F
  refine ⟨F.kp, g, fd, ds, F.ok S (PyD.toSp_len len) (fun cdv A outer s H vs Q E hr h => ⟨_, der cdv A outer s H E hr, PyD.body_ok walk vs H Q E h⟩), hb1, hb2⟩
theorem binds0 {K : PySem.W.Frag} {x : Str} {st : Stmt} {ps : List Str} {f : Addr} {fd : FuncData} (F : FunD K x x (defArgs st) (defBody st) (defScope st) [] [] f fd)
    (h : ∀ (kV doc pm : Value) (an : Option Addr) (cdv ct : Value) (us : List Value), us.length = ps.length → bindArgs (PySem.W.fnOf x x (defArgs st) (defBody st) (defScope st) .none kV doc pm an cdv ct) ⟨us, []⟩ = pure (ps.zip us)) : ∃ ds, Binds K fd ps ds ∧ Vals [] ds :=
  ⟨[], F.bindsN h, .nil⟩
theorem walk_ofEB {l : PySem.W.OpenLaw} {n k : Nat} {q : Program} {loose : List Str} {XP : (Str → Option Value) → Heap → Prop} {YP : World → Heap → Prop} {d : DefRec} {CX : World → CXT} {x : Str}
    (hn : l.most = some n) (hn2 : n ≤ sizeLine) (hdf : d.params.defaults = []) (hr : Room k callerA)
    (F : ∀ (w : World) (mg : Str → Option Value) (fa : Addr) (h : Heap), YP w h → h.Ns mainGlobals mg → mg d.name = some (.ref fa) →
      ∃ (K : PySem.W.Frag) (fd : FuncData) (sp : Sp), K.In h ∧ (∀ (s : Shared) (u : Value), BindsTo s fd ⟨[u], []⟩ [(x, u)]) ∧
        (∀ (H : Hp) (a : Addr) (ns : List Int), ns.length ≤ n → (∀ z ∈ ns, Builtin.Int.intBits z ≤ 1048576) → Only H → SqL K H a (ns.map V.int) → sp [.ref a] H (fun v _ => v = .bl true) fun _ _ _ => False) ∧
        ∀ base : Heap, K.In base → base.Ns mainGlobals mg → FnOk l.prog w K mg base (CX w) k fa fd [x] sp)
    (hCX : ∀ (w : World) (H : Hp) (s : Shared) (e : Value) (s' : Shared), CX w [] H s (fun _ _ _ => False) e s' → False) :
    PySem.W.WalkO q loose XP YP l.row.toRowW d [] (fun f vs => PySem.call f vs) := by
  refine Att.attach_callB hn hdf fun w s₀ s₁ mg mb fa o pm cd doc a vs ns G Y ho hd hcd hmg hobj hints hlen hbits hg => ?_
  obtain ⟨K, fd, sp, KX, hb, hsp, hF⟩ := F w mg fa _ Y G.T.g hmg
  exact law_call KX G.T.g G.T.b G.T.builtins G.T.nolimit hg hobj hints (Nat.le_trans hlen hn2) hr hF hb (fun H hO hS => hsp H a ns hlen hbits hO hS) fun H e s' => hCX w H s₁ e s'
end PyH
namespace PyD
open PySem PySem.Spec L2
section
variable {K : PySem.W.Frag} {W : WX} {ex : Ek} {G : Gm} {O : Ow} {P : D → Ow → Prop} {PT : Bool → Ow → Prop} {E : EnD} {tt uu : TT} {t u : TS} {te : TE}
/-- a test whose answer is c, nothing changed -/
theorem wpT_join (c : Bool) (h : wpT K W ex tt G O fun b O' => b = c ∧ O' = O) (p : PT c O) : wpT K W ex tt G O PT := wpT_mono h fun b O' ⟨h1, h2⟩ => by rw [h1, h2]; exact p
theorem wpE_join (d : D) (h : wpE K W ex te G O fun b O' => b = d ∧ O' = O) (p : P d O) : wpE K W ex te G O P := wpE_mono h fun b O' ⟨h1, h2⟩ => by rw [h1, h2]; exact p
theorem wpS_ite (c : Bool) (h : wpT K W ex tt G O fun b O' => b = c ∧ O' = O) (ht : c = true → wpS K W ex t G O E) (hf : c = false → wpS K W ex u G O E) : wpS K W ex (tIfS tt t u) G O E := wpS_if (wpT_join c h ⟨ht, hf⟩)
theorem atI_int {ns : List Int} {i : Int} (h0 : 0 ≤ i) (h1 : i < (ns.length : Int)) : atI (ns.map D.int) i = some (.int (ns.getD i.toNat 0)) := by
  refine atI_nn h0 ?_
  have h : i.toNat < ns.length := by omega
  rw [List.getElem?_map, List.getElem?_eq_getElem h, List.getD_eq_getElem?_getD, List.getElem?_eq_getElem h] <;> rfl
theorem wpR_ixI {x : D} {ns : List Int} {i : Int} (hx : seqOf O x (ns.map D.int)) (h0 : 0 ≤ i) (h1 : i < (ns.length : Int)) (p : P (.int (ns.getD i.toNat 0)) O) : wpR K (rIxLT K) x (.int i) O P := wpR_ixA (.inl hx) (atI_int h0 h1) p
theorem wpC_lenI {x : D} {ns : List Int} (hx : seqOf O x (ns.map D.int)) (p : P (.int (ns.length : Int)) O) : wpC K (rLenA K) [x] O P := wpC_lenL hx (by rw [List.length_map]; exact p)
/-- what stands between two parts -/
theorem wpS_mid (M : Gm → Ow → Prop) (h : wpS K W ex t G O { E with nx := M }) (k : ∀ G' O', M G' O' → wpS K W ex u G' O' E) : wpS K W ex (tSeq t u) G O E := wpS_seq (wpS_mono h k (fun _ _ z => z) (fun _ _ z => z) (fun _ _ z => z))
end
end PyD
namespace PyD
open PySem PySem.Spec L2
section
variable {K : PySem.W.Frag} {W : WX} {ex : Ek} {G : Gm} {O : Ow} {P : D → Ow → Prop} {PT : Bool → Ow → Prop} {E : EnD} {tt uu : TT} {t u : TS} {te tk tv : TE} {aa : TA} {α : Type}
theorem take_fm {β : Type} {as : List α} {f : α → Option β} {i : Nat} {a : α} (h : as[i]? = some a) : (as.take (i + 1)).filterMap f = (as.take i).filterMap f ++ (f a).toList := by
  have hl : i < as.length := (List.getElem?_eq_some_iff.mp h).1
  rw [List.take_succ, h, List.filterMap_append]
  congr 1
theorem map_get {enc : α → D} {as : List α} {i : Nat} {x : D} (h : (as.map enc)[i]? = some x) : ∃ a, as[i]? = some a ∧ x = enc a := by
  rw [List.getElem?_map] at h
  cases e : as[i]? with
  | none => rw [e] at h; cases h
  | some a =>
    rw [e] at h
    exact ⟨a, rfl, (Option.some.inj h).symm⟩
/-- for over as, coded by enc -/
theorem wpS_forA {wi : TI} {g : TG} (as : List α) (enc : α → D) (I : Nat → Gm → Ow → Prop) (h : wpI K W ex wi G O fun xs C O1 => xs = as.map enc ∧ I 0 G O1 ∧ (∀ i G' O', i ≤ as.length → I i G' O' → C O') ∧
      (∀ (i : Nat) (a : α) G' O', as[i]? = some a → I i G' O' → wpG K g (enc a) G' O' fun G2 O2 => wpS K W ex t G2 O2 { E with nx := I (i + 1), ct := I (i + 1), bk := E.nx }) ∧ ∀ G' O', I as.length G' O' → E.nx G' O') :
    wpS K W ex (tFor wi g t) G O E := by
  refine wpS_for fun Z F H σ X S s R q => h Z F H σ X S s R fun J xs C F1 H1 O1 S1 e1 w p => q J xs C F1 H1 O1 S1 e1 w ?_
  obtain ⟨rfl, h0, hC, ht, hd⟩ := p
  refine ⟨I, h0, fun i G' O' hi hI => hC i G' O' (by rw [List.length_map] at hi; exact hi) hI, fun i x G' O' hx hI => ?_, fun G' O' hI => hd G' O' (by rw [List.length_map] at hI; exact hI)⟩
  obtain ⟨a, ha, rfl⟩ := map_get hx
  exact ht i a G' O' ha hI
/-- .. as told behind the walked thing -/
theorem wpS_forE {wi : TI} {g : TG} (h : wpI K W ex wi G O fun xs C O1 => ∃ (as : List α) (enc : α → D) (I : Nat → Gm → Ow → Prop), xs = as.map enc ∧ I 0 G O1 ∧ (∀ i G' O', i ≤ as.length → I i G' O' → C O') ∧
      (∀ (i : Nat) (a : α) G' O', as[i]? = some a → I i G' O' → wpG K g (enc a) G' O' fun G2 O2 => wpS K W ex t G2 O2 { E with nx := I (i + 1), ct := I (i + 1), bk := E.nx }) ∧ ∀ G' O', I as.length G' O' → E.nx G' O') :
    wpS K W ex (tFor wi g t) G O E := by
  refine wpS_for fun Z F H σ X S s R q => h Z F H σ X S s R fun J xs C F1 H1 O1 S1 e1 w p => q J xs C F1 H1 O1 S1 e1 w ?_
  obtain ⟨as, enc, I, rfl, h0, hC, ht, hd⟩ := p
  refine ⟨I, h0, fun i G' O' hi hI => hC i G' O' (by rw [List.length_map] at hi; exact hi) hI, fun i x G' O' hx hI => ?_, fun G' O' hI => hd G' O' (by rw [List.length_map] at hI; exact hI)⟩
  obtain ⟨a, ha, rfl⟩ := map_get hx
  exact ht i a G' O' ha hI
theorem wpE_lcE {wi : TI} {g : TG} {vs : List Nat} (fr : Bool) (hg : gIn vs g) (gm : gMono g)
    (h : wpI K W ex wi G O fun xs C O1 => ∃ (as : List α) (enc : α → D) (f : α → Option D), xs = as.map enc ∧ as.length < sizeLine ∧ C O1 ∧
      (∀ (i : Nat) (a : α), as[i]? = some a → wpG K g (enc a) (wipeG G vs) O1 fun G2 O2 => O2 = O1 ∧ wpT K W ex tt G2 O1 fun b O3 => O3 = O1 ∧ (b = true → wpE K W ex te G2 O1 fun y O4 => f a = some y ∧ O4 = O1) ∧ (b = false → f a = none)) ∧
      lcEnd fr (as.filterMap f) O1 P) : wpE K W ex (tLc wi g tt te vs) G O P := by
  refine wpE_lc fr hg gm fun Z F H σ X S s R q => h Z F H σ X S s R fun J xs C F1 H1 O1 S1 e1 w p => q J xs C F1 H1 O1 S1 e1 w ?_
  obtain ⟨as, enc, f, rfl, hz, hC, ht, hd⟩ := p
  refine ⟨by rw [List.length_map]; exact hz, fun i acc O' => O' = O1 ∧ acc = (as.take i).filterMap f, ⟨rfl, by simp⟩, fun i acc O' _ hI => by rw [hI.1]; exact hC, fun i x acc O' hx hI => ?_, fun acc O' hI => ?_⟩
  · obtain ⟨rfl, rfl⟩ := hI
    obtain ⟨a, ha, rfl⟩ := map_get hx
    intro Z F H σ v S s r Q q
    refine ht i a ha Z F H σ v S s r Q fun F' H' σ' G' O' S' s' e' p' => q F' H' σ' G' O' S' s' e' ?_
    obtain ⟨rfl, p'⟩ := p'
    refine wpT_mono p' fun b O3 hb => ?_
    obtain ⟨rfl, h1, h2⟩ := hb
    refine ⟨fun hb => wpE_mono (h1 hb) fun y O4 hy => ⟨hy.2, ?_⟩, fun hb => ⟨rfl, ?_⟩⟩
    · rw [take_fm ha, hy.1] <;> rfl
    · rw [take_fm ha, h2 hb]
      simp
  · obtain ⟨rfl, rfl⟩ := hI
    rw [List.length_map, List.take_length]
    exact hd
theorem enumD_map (enc : α → D) (as : List α) : enumD (as.map enc) = as.zipIdx.map fun p => D.tup [.int (p.2 : Nat), enc p.1] := by
  unfold enumD
  rw [List.zipIdx_map, List.map_map]
  rfl
theorem zip_get {as : List α} {i : Nat} {p : α × Nat} (h : as.zipIdx[i]? = some p) : as[i]? = some p.1 ∧ p.2 = i := by
  rw [List.getElem?_zipIdx] at h
  cases e : as[i]? with
  | none => rw [e] at h; cases h
  | some a =>
    rw [e] at h
    have h2 := Option.some.inj h
    rw [← h2]
    exact ⟨rfl, by simp⟩
theorem range_get {n i j : Nat} (h : (List.range n)[i]? = some j) : j = i ∧ i < n := by
  by_cases hi : i < n
  · rw [List.getElem?_range hi] at h
    exact ⟨(Option.some.inj h).symm, hi⟩
  · rw [List.getElem?_eq_none (by simpa using hi)] at h
    cases h
theorem get_D {ns : List Int} {i : Nat} {z : Int} (h : ns[i]? = some z) : ns.getD i 0 = z := by
  rw [List.getD_eq_getElem?_getD, h] <;> rfl
theorem wpT_yes (p : PT true O) : wpT K W ex tYes G O PT := fun Z F H σ _ S s Q q => q true F H O S (Ex.refl F) p
theorem wpPut_I {j : Nat} {a : Addr} {b : Bool} {ns : List Int} {i z : Int} {PO : Ow → Prop} (hj : O[j]? = some ⟨a, b, .lst (ns.map D.int)⟩) (h0 : 0 ≤ i) (hi : i < (ns.length : Int)) (p : PO (O.set j ⟨a, b, L (ns.set i.toNat z)⟩)) : wpPut K rSetL (.mut a) (.int i) (.int z) O PO := by
  refine wpPut_lst hj h0 (by rw [List.length_map]; exact hi) ?_
  have e : (ns.map D.int).set i.toNat (D.int z) = (ns.set i.toNat z).map D.int := by rw [List.map_set]
  rw [e]
  exact p
theorem wpR_neLd {x y : D} {ns ms : List Int} (hx : viewOf O x (L ns)) (hy : viewOf O y (L ms)) (p : P (.bl (!decide (ns = ms))) O) : wpR K (rNeA K) x y O P := wpR_neL hx hy fun b h => by
  have e : b = decide (ns = ms) := by
    cases b with
    | true => rw [decide_eq_true (h.mp rfl)]
    | false => rw [decide_eq_false fun z => by cases h.mpr z]
  rw [e]
  exact p
theorem wpM_appendI {j : Nat} {a : Addr} {b : Bool} {ns : List Int} {z : Int} (hj : O[j]? = some ⟨a, b, .lst (ns.map D.int)⟩) (hl : ns.length < 1000) (p : P .non (O.set j ⟨a, b, L (ns ++ [z])⟩)) : wpM K rAppend (.mut a) [.int z] O P := by
  refine wpM_append hj (small1000 (by rw [List.length_map]; omega)) ?_
  have e : ns.map D.int ++ [D.int z] = (ns ++ [z]).map D.int := by rw [List.map_append] <;> rfl
  rw [e]
  exact p
theorem eraseIdx_map {β : Type} (f : α → β) : ∀ (xs : List α) (i : Nat), (xs.map f).eraseIdx i = (xs.eraseIdx i).map f
  | [], _ => rfl
  | _ :: _, 0 => rfl
  | x :: xs, i + 1 => by
    show f x :: (xs.map f).eraseIdx i = f x :: (xs.eraseIdx i).map f
    rw [eraseIdx_map f xs i]
theorem wpM_popAtI {j : Nat} {a : Addr} {b : Bool} {ns : List Int} {i : Int} (hj : O[j]? = some ⟨a, b, .lst (ns.map D.int)⟩) (h0 : 0 ≤ i) (hi : i < (ns.length : Int)) (hl : ns.length < 1000) (p : P (.int (ns.getD i.toNat 0)) (O.set j ⟨a, b, L (ns.eraseIdx i.toNat)⟩)) : wpM K rPopAt (.mut a) [.int i] O P := by
  have h : i.toNat < ns.length := by omega
  refine wpM_popAt (y := .int (ns.getD i.toNat 0)) hj h0 (by omega) ?_ ?_
  · rw [List.getElem?_map, List.getElem?_eq_getElem h, List.getD_eq_getElem?_getD, List.getElem?_eq_getElem h] <;> rfl
  · rw [eraseIdx_map]
    exact p
theorem wpM_reverseI {j : Nat} {a : Addr} {b : Bool} {ns : List Int} (hj : O[j]? = some ⟨a, b, .lst (ns.map D.int)⟩) (p : P .non (O.set j ⟨a, b, L ns.reverse⟩)) : wpM K rReverse (.mut a) [] O P := by
  refine wpM_reverse hj ?_
  rw [← List.map_reverse]
  exact p
theorem cut_take {ns : List Int} {n : Nat} (h : ns.length ≤ n) : cutD (ns.map D.int) none (some (n : Int)) = ns.map D.int := by
  unfold cutD
  rw [HT.sIx_nat, HT.sIx_none, List.length_map, Nat.min_eq_right h, List.drop_zero, Nat.sub_zero]
  exact List.take_of_length_le (by rw [List.length_map]; exact Nat.le_refl _)
theorem wpC_isX {a C Cc : Addr} {cls : Value} {d : Option Addr} {fs : List (Str × D)} {b : Bool} {f : Str} {v : D} (hc : cls = .ref C) (T : ExcC K C) (hk : PySem.W.kitOne K (.ref C) (.ref Cc) = some b) (p : P (.bl b) O) :
    wpC K (PyE.rIsX K a cls d) [.exc a C d ((f, v) :: fs), .ref Cc] O P := fun Z F H vs S r Q q => by
  cases r with
  | cons ra rb =>
    cases rb with
    | cons rc rd =>
      cases rc
      cases rd
      cases ra with
      | exc1 h1 h2 h3 => exact ⟨C, _, _, .ref Cc, .ref Cc, b, hc, rfl, S.ex _ _ h1, T, rfl, fun _ z => z, hk, q _ _ F H O S (Ex.refl F) (.bl b) p⟩
theorem wpC_isXt {a C : Addr} {n : String} {cls : Value} {d : Option Addr} {fs : List (Str × D)} {b : Bool} {f : Str} {v : D} (hc : cls = .ref C) (T : ExcC K C) (hk : PySem.W.kitOne K (.ref C) (.type n) = some b) (p : P (.bl b) O) :
    wpC K (PyE.rIsX K a cls d) [.exc a C d ((f, v) :: fs), .ty n] O P := fun Z F H vs S r Q q => by
  cases r with
  | cons ra rb =>
    cases rb with
    | cons rc rd =>
      cases rc
      cases rd
      cases ra with
      | exc1 h1 h2 h3 => exact ⟨C, _, _, .ty n, .type n, b, hc, rfl, S.ex _ _ h1, T, rfl, fun _ z => z, hk, q _ _ F H O S (Ex.refl F) (.bl b) p⟩
theorem wpE_xfA {a C C' : Addr} {cls : Value} {d : Option Addr} {f : Str} {fs : List (Str × D)} {v : D} {i : Nat} (hc : cls = .ref C) (hg : G[i]? = some (some (.exc a C' d fs))) (hl : fs.lookup f = some v) (p : P v O) : wpE K W ex (tXf a cls d C f (tVar i)) G O P :=
  PyE.wpE_xf hc (wpE_var hg ⟨rfl, v, hl, p⟩)
theorem shal_pr (p : Int × Int) : shalN 1 (prD p) := shalN_tup (n := 0) fun x hx => by
  rcases List.mem_cons.mp hx with rfl | hx
  · exact shalN_int
  · rcases List.mem_cons.mp hx with rfl | hx
    · exact shalN_int
    · cases hx
theorem toPd_pr {p q : Int × Int} (h : toPd (prD p) = toPd (prD q)) : p = q := by
  obtain ⟨a, b⟩ := p
  obtain ⟨c, d⟩ := q
  simp [prD, toPd, toPds] at h
  rw [h.1, h.2]
theorem wpR_eqPd {p q : Int × Int} (h : P (.bl (decide (p = q))) O) : wpR K (rEqA K) (prD p) (prD q) O P := wpR_eqD view_self view_self ((shal_pr p).ok (by decide)) ((shal_pr q).ok (by decide)) fun b hb => by
  have e : b = decide (p = q) := by
    cases b with
    | true => rw [decide_eq_true (toPd_pr (hb.mp rfl))]
    | false => rw [decide_eq_false fun z => by cases hb.mpr (by rw [z])]
  rw [e]
  exact h
end
end PyD
namespace PyH
open PySem PySem.Spec PyProof.Rows L2
theorem fn_ofL {P : Program} {w : World} {K : PySem.W.Frag} {mg : Str → Option Value} {base : Heap} {x : Str} {st : Stmt} {N ps : List Str} {k : Nat} {dvs : List V} {sp : PyD.DSp} {ts : WX → TS} {fd : FuncData} (F : FunD K x x (defArgs st) (defBody st) (defScope st) dvs [] (He.ga K x) fd)
    (S : FnScope N ps (defScope st)) (len : ∀ ds O k x, sp ds O k x → ds.length = ps.length)
    (der : ∀ (cdv : Value) (A : Around) (outer : List Env) (s : Shared) (H : Hp) (E : XK), Room k (A.deeper (envOfC x (defScope st) s.heap.objs.size (He.ga K x) cdv)) →
      PSs (cxOf (L2.CX P w) P w K mg base N x (defScope st) (He.ga K x) cdv A outer s H E) (defBody st) (ts fun cls d _ H => E cls d H))
    (walk : ∀ W ds O k x, sp ds O k x → (∀ p ∈ O, p.loc = false) → PyD.wpS K W (fun e _ O' => x e O') (ts W) (PyD.startD N.length ds) O { nx := fun _ O' => k .non O', rt := k }) : FnOk P w K mg base (L2.CX P w) (k + 1) (He.ga K x) fd ps (PyD.toSp K sp) :=
  F.ok S (PyD.toSp_len len) (fun cdv A outer s H vs Q E hr h => ⟨_, der cdv A outer s H E hr, PyD.body_ok walk vs H Q E h⟩)
theorem cx_no {P : Program} {w : World} (H : Hp) (s : Shared) (e : Value) (s' : Shared) (h : L2.CX P w [] H s (fun _ _ _ => False) e s') : False := by
  obtain ⟨_, _, _, _, _, _, _, _, _, _, _, _, z⟩ := h
  exact z.elim
theorem law_sp {K : PySem.W.Frag} {sp : PyD.DSp} {H : Hp} {a : Addr} {ns : List Int} (hS : SqL K H a (ns.map V.int)) (h : sp [.kl (ns.map PyD.D.int)] [] (fun d _ => d = .bl true) (fun _ _ => False)) : PyD.toSp K sp [.ref a] H (fun v _ => v = .bl true) fun _ _ _ => False := by
  refine ⟨[.kl (ns.map PyD.D.int)], H, [], _, _, ⟨PyD.Ex.refl H, fun _ _ _ e => e, fun _ _ => .inl rfl, fun _ h => (by cases h), fun _ h => (by cases h), .nil⟩, fun _ h => (by cases h), .cons (.kl hS (PyD.Rps.of_ints ns)) .nil, h, fun d O' v F' H' _ r e => ?_, fun _ _ _ _ _ _ _ z => z.elim⟩
  subst e
  cases r
  rfl
end PyH
namespace PyI
open PySem PySem.Spec PySem.Calls PyProof.Rows L2
/-- a method as it stands, with what it promises -/
structure FM (P : Program) (w : World) (K : PySem.W.Frag) (mg : Str → Option Value) (base : Heap) (k : Nat) (C : Addr) (m : Str) (ps : List Str) (dvs : List V) (sp : Sp) : Prop where
  me : Meth K C m (He.ma K C m)
  ok : ∃ (fd : FuncData) (ds : List Value), FnOk P w K mg base (L2.CX P w) k (He.ma K C m) fd ps sp ∧ Binds K fd ps ds ∧ Vals dvs ds
section
variable {X : Cx} {k : Nat} {C f : Addr} {fd : FuncData} {ps : List Str} {sp : Sp} {dvs : List V} {ds : List Value} {E : L2.St → XK} {x m : Str} {p pos apos : Pos} {e o a b : Expr} {es : List Expr} {ta tb : TE} {t : TA}
abbrev CXr (X : Cx) : CXT := L2.CX X.prog X.w
/-- o.m(e, ..) -/
def tMethA (C : Addr) (m : Str) (sp : Sp) (dvs : List V) (E : L2.St → XK) (ta : TE) (t : TA) : TE := fun σ H Q => ta σ H fun x H1 => ∃ a dx fs, x = .ref a ∧ H1 a = some (.ins C dx fs) ∧ fs.lookup m = none ∧ t σ H1 fun vs H2 => sp (x :: (vs ++ dvs)) H2 Q (E σ)
theorem pe_methA {pl : Sem Bool} (he : PE X o ta) (c : Cls X.K C) (F : FM X.prog X.w X.K X.mg X.base k C m ps dvs sp) (hr : Room k X.A) (hx : ∀ σ, PassesAt (CXr X) X σ (E σ)) (ha : PA X (e :: es) t)
    (hst : starEach (e :: es) X.env = (false, eval e X.env) :: starEach es X.env := by rfl) (hpl : (backTo pos (starEach es X.env)).any (·.1) = false := by rfl)
    (ht : eval (.Call (.Attribute o m apos) (e :: es) [] pos) X.env = (do
      let ov ← eval o X.env
      standAt apos.atName
      let (f, first) ← holding [ov] (getMethod ov m pl)
      callWith pos f first (backTo pos (starEach (e :: es) X.env)) (backToKw pos (keywordEach [] X.env))) := by rfl) :
    PE X (.Call (.Attribute o m apos) (e :: es) [] pos) (tMethA C m sp dvs E ta t) := by
  obtain ⟨fd, ds, ok, hb, hd⟩ := F.ok
  refine ⟨fun pins s σ H Q I h => ?_⟩
  refine PySem.W.methodCall_KW (pl := pl) (thn (he.run pins s σ H _ I h) fun u s1 hh => ?_) ht
  obtain ⟨v, H1, I1, rx, a, dx, fs, ex, ea, l, q⟩ := hh
  subst ex
  obtain rfl : u = Value.ref a := rx
  refine getmeth_ok I1 ea c F.me l ?_
  refine PySem.W.callWith_K (first := [.ref a]) (h₀ := X.base) I.ok.mod.kin F.me.kp (thn (ha.run pos pins s1 σ H1 _ I1 q) fun us s2 hh => ?_) hst hpl
  obtain ⟨vs, H2, I2, r, q2⟩ := hh
  exact ⟨I2.kIn, run_fnSD (us := .ref a :: us) (vs := .ref a :: vs) ok hr hb hd (hx σ) I2 (.cons rfl r) q2⟩
theorem pe_meth0A {pl : Sem Bool} (he : PE X o ta) (c : Cls X.K C) (F : FM X.prog X.w X.K X.mg X.base k C m ps dvs sp) (hr : Room k X.A) (hx : ∀ σ, PassesAt (CXr X) X σ (E σ))
    (ht : eval (.Call (.Attribute o m apos) [] [] pos) X.env = (do
      let ov ← eval o X.env
      standAt apos.atName
      let (f, first) ← holding [ov] (getMethod ov m pl)
      callWith pos f first (backTo pos (starEach [] X.env)) (backToKw pos (keywordEach [] X.env))) := by rfl) :
    PE X (.Call (.Attribute o m apos) [] [] pos) (tMethA C m sp dvs E ta tNil) := by
  obtain ⟨fd, ds, ok, hb, hd⟩ := F.ok
  refine ⟨fun pins s σ H Q I h => ?_⟩
  refine PySem.W.methodCall_KW (pl := pl) (thn (he.run pins s σ H _ I h) fun u s1 hh => ?_) ht
  obtain ⟨v, H1, I1, rx, a, dx, fs, ex, ea, l, q⟩ := hh
  subst ex
  obtain rfl : u = Value.ref a := rx
  refine getmeth_ok I1 ea c F.me l ?_
  exact PySem.W.callWith_K0 (first := [.ref a]) I1.kIn F.me.kp (run_fnSD (us := [.ref a]) (vs := [.ref a]) ok hr hb hd (hx σ) I1 (.cons rfl .nil) q)
/-- C(e, ..) -/
def tMakeA (C : Addr) (sp : Sp) (dvs : List V) (E : L2.St → XK) (t : TA) : TE := fun σ H Q => t σ H fun vs H1 => ∀ x dx, H1 x = none → H1 dx = none → dx ≠ x → sp (.ref x :: (vs ++ dvs)) (upd (upd H1 dx (.own x)) x (.ins C dx [])) (fun v H2 => v = .non ∧ Q (.ref x) H2) (E σ)
theorem run_makeA {pins : List (Addr × Obj)} {σ : L2.St} {H : Hp} {s : Shared} {Q : VK} {us : List Value} {vs : List V} (M : Mk X.K C f) (F : FnOk X.prog X.w X.K X.mg X.base (CXr X) k f fd ps sp) (hr : Room (k + 1) X.A) (hb : Binds X.K fd ps ds) (hd : Vals dvs ds)
    (hx : PassesAt (CXr X) X σ (E σ)) (I : Inv X pins σ H s) (r : Vals vs us)
    (h : ∀ x dx, H x = none → H dx = none → dx ≠ x → sp (.ref x :: (vs ++ dvs)) (upd (upd H dx (.own x)) x (.ins C dx [])) (fun v H2 => v = .non ∧ Q (.ref x) H2) (E σ)) :
    wpAny (model X.prog X.w) X.A (call (.ref C) us) (EP X pins σ Q) X.xe s := by
  have hq := h (s.heap.objs.size + 1) s.heap.objs.size (I.hok.fresh (Nat.le_succ _)) (I.hok.fresh (Nat.le_refl _)) (Nat.ne_of_lt (Nat.lt_succ_self _))
  have J := Inv.made (C := C) I
  have rr : Vals (V.ref (s.heap.objs.size + 1) :: (vs ++ dvs)) (Value.ref (s.heap.objs.size + 1) :: (us ++ ds)) := .cons rfl (r.append hd)
  have hl : (Value.ref (s.heap.objs.size + 1) :: us ++ ds).length = ps.length := by
    have e := rr.length
    rw [F.len _ _ _ _ hq] at e
    exact e.symm
  refine wpAny_call (make_map (f := f) I.kIn M.makes M.init (beq_iff_eq.mp M.fn) (codeAny_mono (F.run _ X.stack _ _ ⟨Value.ref (s.heap.objs.size + 1) :: us, []⟩ (Value.ref (s.heap.objs.size + 1) :: (us ++ ds)) _ _ (E σ) (hr.make C us [])
    (J.env0.make C us []) (hb _ (Value.ref (s.heap.objs.size + 1) :: us) J.kIn hl) rr hq) fun r s' hq' => ?_))
  cases r with
  | error er => exact hx pins _ _ er s' J hq'
  | ok fl =>
    cases fl with
    | ret u =>
      obtain ⟨v, H', I3, rv, ev, q3⟩ := J.after hq'
      subst ev
      exact ⟨rv, ⟨V.ref (s.heap.objs.size + 1), H', I3, rfl, q3⟩⟩
    | next => exact hq'.elim
    | brk => exact hq'.elim
    | cont => exact hq'.elim
theorem pe_makeA (M : Mk X.K C (He.ma X.K C "__init__")) (F : FM X.prog X.w X.K X.mg X.base k C "__init__" ps dvs sp) (hr : Room (k + 1) X.A) (hg : Gl X x) (hm : X.mg x = some (.ref C)) (hx : ∀ σ, PassesAt (CXr X) X σ (E σ))
    (ha : PA X (e :: es) t) (hdb : (x == ("__debug__" : Str)) = false := by decide) (he : starEach (e :: es) X.env = (false, eval e X.env) :: starEach es X.env := by rfl) (hpl : (backTo pos (starEach es X.env)).any (·.1) = false := by rfl) :
    PE X (.Call (.Name x p) (e :: es) [] pos) (tMakeA C sp dvs E t) := by
  obtain ⟨fd, ds, ok, hb, hd⟩ := F.ok
  refine ⟨fun pins s σ H Q I h => ?_⟩
  refine wpAny_Call_Name_kw (ld_glob I hg hm ?_ hdb)
  refine PySem.W.callWith_K (h₀ := X.base) I.ok.mod.kin M.kp (thn (ha.run pos pins s σ H _ I h) fun us s1 hh => ?_) he hpl
  obtain ⟨vs, H1, I1, r, q⟩ := hh
  exact ⟨I1.kIn, run_makeA M ok hr hb hd (hx σ) I1 r q⟩
end
end PyI
namespace PyI
open PySem PySem.Spec PySem.Calls PyProof.Rows L2
section
variable {X : Cx} {k : Nat} {C : Addr} {ps : List Str} {sp : Sp}
/-- len(x), x of the class C -/
def rLenI (C : Addr) (sp : Sp) : List V → Hp → VK → Prop := fun xs H Q => ∃ a dx fs, xs = [.ref a] ∧ H a = some (.ins C dx fs) ∧ sp [.ref a] H (fun v H' => ∃ n : Int, v = .int n ∧ 0 ≤ n ∧ n < 2 ^ 63 ∧ Q (.int n) H') E0
theorem call_lenI (F : FM X.prog X.w X.K X.mg X.base k C "__len__" ps [] sp) (hr : Room (k + 1) X.A) : CallR X (.builtin "len") (rLenI C sp) := by
  obtain ⟨fd, ds, ok, hb, hd⟩ := F.ok
  cases hd
  intro pins s σ H xs us Q I r h
  obtain ⟨a, dx, fs, rfl, ea, q⟩ := h
  cases r with
  | cons ra rb =>
    cases rb
    cases ra
    obtain ⟨mA, J, _⟩ := ins_get I.hok ea
    obtain ⟨od, J, _⟩ := J.look
    obtain ⟨mm, hF⟩ := I.fr
    refine PySem.W.len_K hF I.ok.mod.kin J F.me.at_ F.me.fn ?_
    have hl := ok.len _ _ _ _ q
    refine wpAny_call (codeAny_mono (ok.run X.A.in1 X.stack s H ⟨[.ref a], []⟩ [.ref a] [.ref a] _ E0 hr.in1 I.env0.in1 (by
      have z := hb s [.ref a] I.kIn (by simpa using hl)
      simpa using z) (.cons rfl .nil) q) fun r s' hq => ?_)
    cases r with
    | error e => exact PyH.passE (X := X) σ pins H s e s' I hq
    | ok fl =>
      cases fl with
      | ret u =>
        obtain ⟨z, H', I', rz, n, rfl, n0, n1, q3⟩ := I.after hq
        obtain ⟨t, rfl⟩ := rz
        exact ⟨⟨n0, n1⟩, .int n, H', I'.tok _, ⟨_, rfl⟩, q3⟩
      | next => exact hq.elim
      | brk => exact hq.elim
      | cont => exact hq.elim
end
end PyI
namespace PyC
open PySem PySem.Spec PySem.Calls PyProof.Rows L2
structure Cla where
  t : Expr
  i : Expr
  ifs : List Expr
  wi : TI
  g : TG
  tt : TT
  vs : List Nat
abbrev TEm := L2.St → Hp → (Hp → Prop) → Prop
end PyC
namespace PyC
open PySem PySem.Spec PySem.Calls PyProof.Rows L2
end PyC
namespace PyC
open PySem PySem.Spec PySem.Calls PyProof.Rows L2
end PyC
namespace PyD
open PySem PySem.Spec L2 PyC
section
variable {K : PySem.W.Frag} {W : WX} {ex : Ek} {G : Gm} {O : Ow} {P : D → Ow → Prop} {E : EnD} {ta tb te tc tk tv : TE} {tt uu tt1 : TT} {aa : TA}
theorem Mu.at_ {F H : Hp} {a : Addr} {d : D} (h : Mu K F H a d) : ∃ o, H a = Option.some o ∧ (∀ vs, o ≠ .tup vs) ∧ ∀ F' H', Ex F F' → H' a = Option.some o → Mu K F' H' a d := by
  obtain ⟨o, ho⟩ := h.some
  exact ⟨o, ho, fun vs e => h.notup vs (by rw [ho, e]), fun F' H' e h' => h.mono e fun u hu => by rw [ho] at hu; cases hu; exact h'⟩
/-- a new entry -/
def putEnd (acc y z : D) (N : D → Prop) : Prop := (∃ kds k, acc = .dK kds ∧ y = kD k ∧ kds.length < sizeLine ∧ N (.dK (putD kds k z))) ∨ ∃ kds k, acc = .dT kds ∧ y = .tup (k.map kD) ∧ kds.length < sizeLine ∧ N (.dT (putD kds k z))
theorem putEnd.put {F H : Hp} {Dl : Addr} {acc y z : D} {vy vz : V} {N : D → Prop} (h : putEnd acc y z N) (e : Ex F H) (m : Mu K F H Dl acc) (ry : Rp K F y vy) (rz : Rp K F z vz) : ∃ o acc', N acc' ∧ DPut H Dl vy vz (upd H Dl o) ∧ Mu K F (upd H Dl o) Dl acc' := by
  rcases h with ⟨kds, k, rfl, rfl, hl, n⟩ | ⟨kds, k, rfl, rfl, hl, n⟩
  · obtain ⟨kvs, h1, h2, h3⟩ := m
    obtain rfl := kD_v ry
    have rk : RKv K F kds kvs := ⟨h2, h3⟩
    have rp := rk.put (k := k) rz
    exact ⟨_, _, n, .inl ⟨kvs, k, h1, rfl, by rw [← rk.len]; exact hl, rfl⟩, ⟨_, upd_same, rp.1, rp.2⟩⟩
  · obtain ⟨kvs, h1, h2, h3⟩ := m
    have rk : RKv K F kds kvs := ⟨h2, h3⟩
    have rp := rk.put (k := k) rz
    cases ry with
    | @tup b vs _ ht rv =>
      obtain rfl := kDs_v rv
      exact ⟨_, _, n, .inr ⟨kvs, k, b, h1, rfl, e _ _ ht, by rw [← rk.len]; exact hl, rfl⟩, ⟨_, upd_same, rp.1, rp.2⟩⟩
theorem Mu.freeze {F H : Hp} {a : Addr} {d : D} (m : Mu K F H a d) (hF : F a = none) (hd : ∀ C fs, d ≠ .ins C fs) : ∃ o, H a = Option.some o ∧ Rp K (upd F a o) d (.ref a) := by
  cases d <;> first
    | exact m.elim
    | (obtain ⟨vs, h1, h2⟩ := m; exact ⟨_, h1, .lst upd_same (h2.mono (Ex.new hF))⟩)
    | (obtain ⟨vs, h1, h2, h3⟩ := m; exact ⟨_, h1, .dK (.inl upd_same) h2 (h3.mono (Ex.new hF))⟩)
    | (obtain ⟨vs, h1, h2, h3⟩ := m; exact ⟨_, h1, .dT (.inl upd_same) h2 (h3.mono (Ex.new hF))⟩)
    | exact absurd rfl (hd _ _)
end
end PyD
namespace PyD
open PySem PySem.Spec L2 PyC PyI
section
variable {K : PySem.W.Frag} {W : WX} {ex : Ek} {G : Gm} {O : Ow} {P : D → Ow → Prop} {PT : Bool → Ow → Prop} {E : EnD} {ta tb te tc tk tv td : TE} {tt uu tt1 : TT} {t u : TS} {aa : TA}
/-- A: what of O is handed over -/
structure Lent (O A : Ow) : Prop where
  mem : ∀ p ∈ A, ∃ b, (⟨p.a, b, p.d⟩ : Ob) ∈ O
  nd : (A.map Ob.a).Nodup
  lo : ∀ p ∈ A, p.loc = false
theorem S0.callN {Z : En0} {F H : Hp} (S : S0 K Z F H O) {A : Ow} (hA : Lent O A) : S0 K (entry F H A) F H A where
  ex := S.ex
  frame := fun _ _ _ e => e
  fz := fun _ _ => .inl rfl
  alive := fun x hx => by
    obtain ⟨p, hp, rfl⟩ := List.mem_map.mp hx
    obtain ⟨b, hb⟩ := hA.mem p hp
    obtain ⟨o, ho⟩ := (S.own _ hb).2.1.some
    have ho : H p.a = some o := ho
    rw [ho]
    intro z
    cases z
  own := fun p hp => by
    obtain ⟨b, hb⟩ := hA.mem p hp
    obtain ⟨h1, h2, _⟩ := S.own _ hb
    exact ⟨h1, h2, (fun e => by rw [hA.lo p hp] at e; cases e), fun _ => List.mem_map_of_mem hp⟩
  nd := hA.nd
/-- what has been written into what was handed over -/
def putO (O A : Ow) : Ow := O.map fun p => match A.find? (fun q => decide (q.a = p.a)) with
  | some q => ⟨p.a, p.loc, q.d⟩
  | none => p
theorem putO_a (O A : Ow) : (putO O A).map Ob.a = O.map Ob.a := by
  unfold putO
  rw [List.map_map]
  refine List.map_congr_left fun p _ => ?_
  show Ob.a (match A.find? (fun q => decide (q.a = p.a)) with
    | some q => ⟨p.a, p.loc, q.d⟩
    | none => p) = p.a
  split <;> rfl
theorem nd_one {O : Ow} (nd : (O.map Ob.a).Nodup) {p q : Ob} (hp : p ∈ O) (hq : q ∈ O) (e : p.a = q.a) : p = q := by
  obtain ⟨j, hj, rfl⟩ := List.getElem_of_mem hq
  have h : O[j]? = some ⟨O[j].a, O[j].loc, O[j].d⟩ := List.getElem?_eq_getElem hj
  exact nd_idx nd h hp e
theorem putO_same {O A : Ow} (nd : (O.map Ob.a).Nodup) (hA : Lent O A) : putO O A = O := by
  unfold putO
  conv => rhs; rw [← List.map_id O]
  refine List.map_congr_left fun p hp => ?_
  show (match A.find? (fun q => decide (q.a = p.a)) with
    | some q => (⟨p.a, p.loc, q.d⟩ : Ob)
    | none => p) = p
  cases e : A.find? (fun q => decide (q.a = p.a)) with
  | none => rfl
  | some q =>
    have h1 := List.mem_of_find?_eq_some e
    have h2 : q.a = p.a := by simpa using List.find?_some e
    obtain ⟨b, hb⟩ := hA.mem q h1
    have h3 := nd_one nd hb hp h2
    show (⟨p.a, p.loc, q.d⟩ : Ob) = p
    rw [← h3]
theorem S0.backN {Z : En0} {F H F' H' : Hp} {N A A' : Ow} (S : S0 K Z F H O) (hA : Lent O A) (ea : A'.map Ob.a = A.map Ob.a) (S' : S0 K (entry F H A) F' H' (N ++ A')) : S0 K Z F' H' (N ++ putO O A') ∧ Ex F F' := by
  have inM : ∀ x, x ∈ (entry F H A).M ↔ x ∈ A.map Ob.a := fun x => Iff.rfl
  have keep : ∀ x o, x ∉ A.map Ob.a → H x = some o → H' x = some o := fun x o hx e => S'.frame x o hx e
  have eF : Ex F F' := fun x o e => by
    have h1 := S.ex x o e
    exact S'.fzk e (by show H x ≠ none; rw [h1]; intro z; cases z)
  have nd' := S'.nd
  rw [List.map_append, ea] at nd'
  have nda : ∀ p ∈ N, p.a ∉ A.map Ob.a := fun p hp h => (List.nodup_append.mp nd').2.2 p.a (List.mem_map_of_mem hp) p.a h rfl
  have loc : ∀ p ∈ N, p.loc = true ∧ H p.a = none := fun p hp => by
    obtain ⟨_, _, h3, h4⟩ := S'.own p (List.mem_append_left _ hp)
    cases hb : p.loc with
    | true => exact ⟨rfl, h3 hb⟩
    | false => exact absurd (h4 hb) (nda p hp)
  have alive' : ∀ x ∈ A.map Ob.a, H' x ≠ none := fun x hx => S'.alive x hx
  have inZ : ∀ x ∈ A.map Ob.a, ∀ o, Z.H x = some o → x ∈ Z.M := fun x hx o e => by
    obtain ⟨p, hp, rfl⟩ := List.mem_map.mp hx
    obtain ⟨b, hb⟩ := hA.mem p hp
    obtain ⟨_, _, h3, h4⟩ := S.own _ hb
    cases b with
    | true =>
      have h5 : Z.H p.a = none := h3 rfl
      rw [h5] at e
      cases e
    | false => exact h4 rfl
  refine ⟨⟨S'.ex, fun x o hm e => ?_, fun x e => ?_, fun x hm e => ?_, fun p hp => ?_, ?_⟩, eF⟩
  · exact keep x o (fun hx => hm (inZ x hx o e)) (S.frame x o hm e)
  · have h1 : H x ≠ none := fun z => e (S.fresh z)
    exact S.fzt S' e h1
  · by_cases hx : x ∈ A.map Ob.a
    · exact alive' x hx e
    · cases e2 : H x with
      | none => exact S.alive x hm e2
      | some o =>
        rw [keep x o hx e2] at e
        cases e
  · rcases List.mem_append.mp hp with hp | hp
    · obtain ⟨h1, h2, _, _⟩ := S'.own p (List.mem_append_left _ hp)
      obtain ⟨l1, l2⟩ := loc p hp
      exact ⟨h1, h2, fun _ => S.fresh l2, fun e => by rw [l1] at e; cases e⟩
    · obtain ⟨r, hr, rfl⟩ := List.mem_map.mp hp
      obtain ⟨k1, k2, k3⟩ := S.own r hr
      obtain ⟨o, ho⟩ := k2.some
      have hn : H r.a ≠ none := by rw [ho]; intro z; cases z
      cases e : A'.find? (fun q => decide (q.a = r.a)) with
      | some q =>
        have h1 := List.mem_of_find?_eq_some e
        have h2 : q.a = r.a := by simpa using List.find?_some e
        obtain ⟨_, m2, _, _⟩ := S'.own q (List.mem_append_right _ h1)
        rw [h2] at m2
        exact ⟨S'.fzn k1 hn m2 rfl, m2, k3⟩
      | none =>
        have hx : r.a ∉ A.map Ob.a := fun hx => by
          rw [← ea] at hx
          obtain ⟨q, hq, e2⟩ := List.mem_map.mp hx
          have h3 := List.find?_eq_none.mp e q hq
          simp [e2] at h3
        have hk := keep _ o hx ho
        refine ⟨S'.fzn k1 hn k2 (by show H r.a = H' r.a; rw [ho, hk]), k2.mono eF (fun u hu => keep _ u hx hu), k3⟩
  · rw [List.map_append, putO_a]
    refine List.nodup_append.mpr ⟨(List.nodup_append.mp nd').1, S.nd, fun x hx y hy e => ?_⟩
    subst e
    obtain ⟨p, hp, rfl⟩ := List.mem_map.mp hx
    obtain ⟨r, hr, e⟩ := List.mem_map.mp hy
    obtain ⟨o, ho⟩ := (S.own r hr).2.1.some
    rw [e, (loc p hp).2] at ho
    cases ho
theorem lent_nil : Lent O [] := ⟨fun _ h => (by cases h), .nil, fun _ h => (by cases h)⟩
/-- a promise is called upon: A is handed over, none of it is written -/
theorem sp_goN {sp : DSp} {Z : En0} {F H : Hp} {A : Ow} {ds : List D} {vs : List V} {k : D → Ow → Prop} {x : Xc → Ow → Prop} {Q : VK} {E0 : XK} (S : S0 K Z F H O) (hA : Lent O A) (r : Rps K F ds vs)
    (h : sp ds A (fun d N => ∃ M, N = M ++ A ∧ k d (M ++ O)) (fun e N => ∃ M, N = M ++ A ∧ x e (M ++ O))) (qk : ∀ d O' v F' H', S0 K Z F' H' O' → Ex F F' → Rp K F' d v → k d O' → Q v H')
    (qx : ∀ e O' dd F' H', S0 K Z F' H' O' → Ex F F' → XR K F' e dd → x e O' → E0 (.ref e.cls) dd H') : toSp K sp vs H Q E0 := by
  refine ⟨ds, F, A, _, _, S.callN hA, hA.lo, r, h, fun d N v F' H' S' r' hk => ?_, fun e N dd F' H' S' r' hk => ?_⟩
  · obtain ⟨M, rfl, hk⟩ := hk
    obtain ⟨S2, e2⟩ := S.backN hA rfl S'
    rw [putO_same S.nd hA] at S2
    exact qk d _ v F' H' S2 e2 r' hk
  · obtain ⟨M, rfl, hk⟩ := hk
    obtain ⟨S2, e2⟩ := S.backN hA rfl S'
    rw [putO_same S.nd hA] at S2
    exact qx e _ dd F' H' S2 e2 r' hk
theorem sp_go0 {sp : DSp} {Z : En0} {F H : Hp} {ds : List D} {vs : List V} {k : D → Ow → Prop} {x : Xc → Ow → Prop} {Q : VK} {E0 : XK} (S : S0 K Z F H O) (r : Rps K F ds vs)
    (h : sp ds [] (fun d N => k d (N ++ O)) (fun e N => x e (N ++ O))) (qk : ∀ d O' v F' H', S0 K Z F' H' O' → Ex F F' → Rp K F' d v → k d O' → Q v H')
    (qx : ∀ e O' dd F' H', S0 K Z F' H' O' → Ex F F' → XR K F' e dd → x e O' → E0 (.ref e.cls) dd H') : toSp K sp vs H Q E0 := by
  refine ⟨ds, F, [], _, _, S.call0, fun _ h => (by cases h), r, h, fun d N v F' H' S' r' hk => ?_, fun e N dd F' H' S' r' hk => ?_⟩
  · obtain ⟨S2, e2⟩ := S.back0 S'
    exact qk d _ v F' H' S2 e2 r' hk
  · obtain ⟨S2, e2⟩ := S.back0 S'
    exact qx e _ dd F' H' S2 e2 r' hk
def insOf (O : Ow) (x : D) (C : Addr) (fs : List (Str × D)) : Prop := x = .ins C fs ∨ ∃ a b, x = .mut a ∧ (⟨a, b, .ins C fs⟩ : Ob) ∈ O
theorem ins_l {C : Addr} {fs : List (Str × D)} : insOf O (.ins C fs) C fs := .inl rfl
theorem insOf.at {Z : En0} {F H : Hp} {x : D} {C : Addr} {fs : List (Str × D)} {v : V} (h : insOf O x C fs) (S : S0 K Z F H O) (r : Rp K F x v) : ∃ a dx gs, v = .ref a ∧ H a = some (.ins C dx gs) ∧ fs.map (·.1) = gs.map (·.1) ∧ Rps K F (fs.map (·.2)) (gs.map (·.2)) := by
  rcases h with rfl | ⟨a, b, rfl, hm⟩
  · cases r with
    | ins h1 h2 h3 => exact ⟨_, _, _, rfl, S.ex _ _ h1, h2, h3⟩
  · cases r
    obtain ⟨_, ⟨dx, vs, h2, h3, h4⟩, _⟩ := S.own _ hm
    exact ⟨_, dx, vs, rfl, h2, h3, h4⟩
theorem fld_some {F : Hp} {f : Str} : ∀ {fs : List (Str × D)} {gs : List (Str × V)}, fs.map (·.1) = gs.map (·.1) → Rps K F (fs.map (·.2)) (gs.map (·.2)) → ∀ {v}, fs.lookup f = some v → ∃ u, gs.lookup f = some u ∧ Rp K F v u
  | [], _, _, _, v, hv => by cases hv
  | p :: fs, [], e, _, v, hv => by cases e
  | (k, dv) :: fs, (k2, gv) :: gs, e, r, v, hv => by
    rw [List.map_cons, List.map_cons, List.cons.injEq] at e
    obtain ⟨e1, e2⟩ := e
    dsimp only at e1
    subst e1
    cases r with
    | cons ra rb =>
      rw [List.lookup_cons] at hv ⊢
      cases hk : f == k with
      | true =>
        rw [hk] at hv
        cases hv
        exact ⟨gv, rfl, ra⟩
      | false =>
        rw [hk] at hv
        exact fld_some e2 rb hv
theorem fld_none {f : Str} : ∀ {fs : List (Str × D)} {gs : List (Str × V)}, fs.map (·.1) = gs.map (·.1) → fs.lookup f = none → gs.lookup f = none
  | [], [], _, _ => rfl
  | [], _ :: _, e, _ => by cases e
  | _ :: _, [], e, _ => by cases e
  | (k, dv) :: fs, (k2, gv) :: gs, e, h => by
    rw [List.map_cons, List.map_cons, List.cons.injEq] at e
    obtain ⟨e1, e2⟩ := e
    dsimp only at e1
    subst e1
    rw [List.lookup_cons] at h ⊢
    cases hk : f == k with
    | true => rw [hk] at h; cases h
    | false =>
      rw [hk] at h
      exact fld_none e2 h
def putA (f : Str) (v : D) : List (Str × D) → List (Str × D)
  | [] => [(f, v)]
  | (g, x) :: r => if g = f then (g, v) :: r else (g, x) :: putA f v r
theorem putA_rp {F : Hp} {f : Str} {v : D} {u : V} (rv : Rp K F v u) : ∀ {fs : List (Str × D)} {gs : List (Str × V)}, fs.map (·.1) = gs.map (·.1) → Rps K F (fs.map (·.2)) (gs.map (·.2)) → (putA f v fs).map (·.1) = (putF f u gs).map (·.1) ∧ Rps K F ((putA f v fs).map (·.2)) ((putF f u gs).map (·.2))
  | [], [], _, _ => ⟨rfl, .cons rv .nil⟩
  | [], _ :: _, e, _ => by cases e
  | _ :: _, [], e, _ => by cases e
  | (k, dv) :: fs, (k2, gv) :: gs, e, r => by
    rw [List.map_cons, List.map_cons, List.cons.injEq] at e
    obtain ⟨e1, e2⟩ := e
    dsimp only at e1
    subst e1
    cases r with
    | cons ra rb =>
      unfold putA putF
      by_cases hk : k = f
      · rw [if_pos hk, if_pos hk]
        exact ⟨by rw [List.map_cons, List.map_cons, e2], .cons rv rb⟩
      · rw [if_neg hk, if_neg hk]
        obtain ⟨h1, h2⟩ := putA_rp rv e2 rb
        exact ⟨by rw [List.map_cons, List.map_cons, h1], .cons ra h2⟩
/-- x.f -/
theorem wpE_fld {f : Str} {C : Addr} (c : Cls K C) (n : NoAttr K C f) (h : wpE K W ex ta G O fun x O1 => ∃ fs v, insOf O1 x C fs ∧ fs.lookup f = some v ∧ P v O1) : wpE K W ex (tFld K ta f) G O P := fun Z F H σ X S s Q q =>
  h Z F H σ X S s _ fun x vx F1 H1 O1 S1 e1 r1 ⟨fs, v, hi, hl, p⟩ => by
    obtain ⟨a, dx, gs, rfl, ha, h2, h3⟩ := hi.at S1 r1
    obtain ⟨w, hw, rw'⟩ := fld_some h2 h3 hl
    exact ⟨a, C, dx, gs, w, rfl, ha, c, n, hw, q v w F1 H1 O1 S1 e1 rw' p⟩
/-- x.f = v -/
theorem wpS_fld {f : Str} {C : Addr} (c : Cls K C) (n : NoAttr K C f) (h : wpE K W ex tv G O fun v O1 => wpE K W ex ta G O1 fun x O2 => ∃ (j : Nat) (a : Addr) (b : Bool) (fs : List (Str × D)), x = .mut a ∧ O2[j]? = some ⟨a, b, .ins C fs⟩ ∧ fs.length < 1000 ∧ E.nx G (O2.set j ⟨a, b, .ins C (putA f v fs)⟩)) :
    wpS K W ex (sFld K ta tv f) G O E := fun Z F H σ X S s D0 q =>
  h Z F H σ X S s _ fun v vv F1 H1 O1 S1 e1 r1 p1 => p1 Z F1 H1 σ (X.mono e1) S1 (s.mono e1) _ fun x vx F2 H2 O2 S2 e2 r2 ⟨j, a, b, fs, hx, hj, hl, p⟩ => by
    subst hx
    cases r2
    obtain ⟨_, ⟨dx, gs, h2, h3, h4⟩, _⟩ := S2.own _ (List.mem_of_getElem? hj)
    obtain ⟨k1, k2⟩ := putA_rp (f := f) (r1.mono e2) h3 h4
    have hlen : gs.length < 1000 := by
      have e := congrArg List.length h3
      simp only [List.length_map] at e
      omega
    exact ⟨a, C, dx, gs, rfl, h2, c, n, hlen, q.nx F2 _ σ G _ (e1.trans e2) (S2.write hj (d' := .ins C (putA f v fs)) ⟨dx, _, upd_same, k1, k2⟩) (s.mono (e1.trans e2)) p⟩
theorem putO_head {O A : Ow} {x : Addr} {d d' : D} (nd : ((⟨x, true, d⟩ :: O : Ow).map Ob.a).Nodup) (hA : Lent O A) : putO (⟨x, true, d⟩ :: O) (⟨x, false, d'⟩ :: A) = ⟨x, true, d'⟩ :: O := by
  have nd2 : (O.map Ob.a).Nodup := (List.nodup_cons.mp nd).2
  have nx : ∀ p ∈ O, p.a ≠ x := fun p hp e => (List.nodup_cons.mp nd).1 (List.mem_map.mpr ⟨p, hp, e⟩)
  have e := putO_same nd2 hA
  have h1 : putO (⟨x, true, d⟩ :: O) (⟨x, false, d'⟩ :: A) = ⟨x, true, d'⟩ :: putO O (⟨x, false, d'⟩ :: A) := by
    unfold putO
    rw [List.map_cons]
    simp
  have h2 : putO O (⟨x, false, d'⟩ :: A) = putO O A := by
    unfold putO
    refine List.map_congr_left fun p hp => ?_
    have h3 : decide (x = p.a) = false := decide_eq_false fun z => nx p hp z.symm
    rw [List.find?_cons]
    simp only [h3]
  rw [h1, h2, e]
theorem lent_head {A : Ow} {x : Addr} {d : D} (hA : Lent O A) (nx : ∀ q ∈ O, q.a ≠ x) : Lent (⟨x, true, d⟩ :: O) (⟨x, false, d⟩ :: A) where
  mem := fun p hp => by
    rcases List.mem_cons.mp hp with rfl | hp
    · exact ⟨true, List.mem_cons_self⟩
    · obtain ⟨b, hb⟩ := hA.mem p hp
      exact ⟨b, List.mem_cons_of_mem _ hb⟩
  nd := by
    rw [List.map_cons, List.nodup_cons]
    refine ⟨fun h => ?_, hA.nd⟩
    obtain ⟨p, hp, e⟩ := List.mem_map.mp h
    obtain ⟨b, hb⟩ := hA.mem p hp
    exact nx _ hb e
  lo := fun p hp => by
    rcases List.mem_cons.mp hp with rfl | hp
    · rfl
    · exact hA.lo p hp
/-- C(e, ..): the new instance stays as its __init__ leaves it -/
theorem wpE_make {C : Addr} {sp : DSp} {dvs : List V} {dds : List D} (hd : ∀ F, Rps K F dds dvs) (h : wpA K W ex aa G O fun ds O1 => ∃ A, Lent O1 A ∧ ∀ x, (∀ q ∈ O1, q.a ≠ x) → sp (.mut x :: (ds ++ dds)) (⟨x, false, .ins C []⟩ :: A)
      (fun r N => r = .non ∧ ∃ M fs, N = M ++ ⟨x, false, .ins C fs⟩ :: A ∧ P (.ins C fs) (M ++ O1)) (fun e N => ∃ M d, N = M ++ ⟨x, false, d⟩ :: A ∧ ex e G (M ++ O1))) : wpE K W ex (tMakeA C (toSp K sp) dvs (WE W) aa) G O P := fun Z F H σ X S s Q q =>
  h Z F H σ X S s _ fun ds vs F1 H1 O1 S1 e1 r1 p1 x dx hx hdx hne => by
    obtain ⟨A, hA, p1⟩ := p1
    have nx := S1.freshO hx
    have hx2 : (upd H1 dx (.own x)) x = none := by rw [upd_ne (fun z => hne z.symm)]; exact hx
    have Sn := (S1.junk (.own x) hdx).new (.ins C dx []) (.ins C []) hx2 ⟨dx, [], upd_same, rfl, .nil⟩
    have hA2 : Lent (⟨x, true, .ins C []⟩ :: O1) (⟨x, false, .ins C []⟩ :: A) := lent_head hA nx
    refine ⟨.mut x :: (ds ++ dds), F1, _, _, _, Sn.callN hA2, hA2.lo, .cons (.mut x) (r1.app (hd F1)), p1 x nx, fun d N v F' H' S' r' hk => ?_, fun e N dd F' H' S' r' hk => ?_⟩
    · obtain ⟨rfl, M, fs, rfl, hk⟩ := hk
      obtain ⟨S2, e2⟩ := Sn.backN (A' := ⟨x, false, .ins C fs⟩ :: A) hA2 rfl S'
      rw [putO_head Sn.nd hA] at S2
      cases r'
      have hj : (M ++ ⟨x, true, .ins C fs⟩ :: O1)[M.length]? = some ⟨x, true, .ins C fs⟩ := by rw [List.getElem?_append_right (Nat.le_refl _), Nat.sub_self] <;> rfl
      obtain ⟨F3, e3, S3, r3⟩ := S2.freeze hj
      have er : (M ++ ⟨x, true, .ins C fs⟩ :: O1).eraseIdx M.length = M ++ O1 := by
        rw [List.eraseIdx_append_of_length_le (Nat.le_refl _), Nat.sub_self] <;> rfl
      rw [er] at S3
      exact ⟨rfl, q _ _ F3 H' _ S3 (e1.trans (e2.trans e3)) r3 hk⟩
    · obtain ⟨M, d, rfl, hk⟩ := hk
      obtain ⟨S2, e2⟩ := Sn.backN (A' := ⟨x, false, d⟩ :: A) hA2 rfl S'
      rw [putO_head Sn.nd hA] at S2
      have S3 := S2.sub (O' := M ++ O1) ((List.Sublist.refl M).append (List.sublist_cons_self _ _))
      exact X e dd F' H' σ G _ (e1.trans e2) S3 (s.mono (e1.trans e2)) r' hk
/-- x.m(e, ..), x an instance that stays -/
theorem wpE_meth {C : Addr} {m : Str} {sp : DSp} {dvs : List V} {dds : List D} (hd : ∀ F, Rps K F dds dvs) (h : wpE K W ex ta G O fun x O1 => ∃ fs, x = .ins C fs ∧ fs.lookup m = none ∧ wpA K W ex aa G O1 fun ds O2 => ∃ A, Lent O2 A ∧
      sp (x :: (ds ++ dds)) A (fun d N => ∃ M, N = M ++ A ∧ P d (M ++ O2)) (fun e N => ∃ M, N = M ++ A ∧ ex e G (M ++ O2))) : wpE K W ex (tMethA C m (toSp K sp) dvs (WE W) ta aa) G O P := fun Z F H σ X S s Q q =>
  h Z F H σ X S s _ fun x vx F1 H1 O1 S1 e1 r1 ⟨fs, hx, hm, p1⟩ => by
    subst hx
    obtain ⟨a, dx, gs, rfl, ha, h2, h3⟩ := (ins_l (O := O1)).at S1 r1
    refine ⟨a, dx, gs, rfl, ha, fld_none h2 hm, p1 Z F1 H1 σ (X.mono e1) S1 (s.mono e1) _ fun ds vs F2 H2 O2 S2 e2 r2 hp => ?_⟩
    obtain ⟨A, hA, p2⟩ := hp
    have e12 := e1.trans e2
    exact sp_goN (x := fun e O' => ex e G O') S2 hA (.cons (r1.mono e2) (r2.app (hd F2))) p2 (fun d O' v F' H' S' e' r' hk => q d v F' H' O' S' (e12.trans e') r' hk) fun e O' dd F' H' S' e' r' hk => X e dd F' H' σ G O' (e12.trans e') S' (s.mono (e12.trans e')) r' hk
/-- len(x), x of the class C -/
theorem wpC_lenO {C : Addr} {sp : DSp} {fs : List (Str × D)} (h : sp [.ins C fs] [] (fun d N => ∃ n : Int, d = .int n ∧ 0 ≤ n ∧ n < 2 ^ 63 ∧ P (.int n) (N ++ O)) (fun _ _ => False)) : wpC K (rLenI C (toSp K sp)) [.ins C fs] O P := fun Z F H vs S r Q q => by
  cases r with
  | cons r1 rb =>
    cases rb
    obtain ⟨a, dx, gs, rfl, ha, _, _⟩ := (ins_l (O := O)).at S r1
    refine ⟨a, dx, gs, rfl, ha, sp_go0 (k := fun d O' => ∃ n : Int, d = .int n ∧ 0 ≤ n ∧ n < 2 ^ 63 ∧ P (.int n) O') (x := fun _ _ => False) S (.cons r1 .nil) h (fun d O' v F' H' S' e' r' hk => ?_) fun e O' dd F' H' S' e' r' hk => hk.elim⟩
    obtain ⟨n, rfl, n0, n1, hk⟩ := hk
    cases r'
    exact ⟨n, rfl, n0, n1, q _ _ F' H' O' S' e' (.int n) hk⟩
end
end PyD
namespace PyD
open PySem PySem.Spec L2 PyC
def DictH (u : HO) : Prop := (∃ kvs, u = .dK kvs) ∨ ∃ kvs, u = .dT kvs
/-- the same but for locks -/
def Like (F F2 : Hp) : Prop := ∀ x o, F x = some o → F2 x = some o ∨ ∃ od u, DictH u ∧ (o = u ∨ ∃ od0, o = .frz od0 u) ∧ (F2 x = some u ∨ F2 x = some (.frz od u))
theorem Like.of {F F2 : Hp} {a : Addr} {o : HO} (l : Like F F2) (h : F a = some o) (n1 : ∀ u, DictH u → o ≠ u) (n2 : ∀ od u, DictH u → o ≠ .frz od u) : F2 a = some o := by
  rcases l a o h with k | ⟨od, u, hu, k | ⟨od0, k⟩, _⟩
  · exact k
  · exact absurd k (n1 u hu)
  · exact absurd k (n2 od0 u hu)
theorem DictH.no {u : HO} {P : Prop} (h : DictH u) (k1 : ∀ kvs, u ≠ .dK kvs) (k2 : ∀ kvs, u ≠ .dT kvs) : P := by
  rcases h with ⟨kvs, e⟩ | ⟨kvs, e⟩
  · exact absurd e (k1 kvs)
  · exact absurd e (k2 kvs)
theorem Like.dict {F F2 : Hp} {a : Addr} {u : HO} (l : Like F F2) (hu : DictH u) (h : Rd F a u) : Rd F2 a u := by
  rcases h with h | ⟨od, h⟩
  · rcases l a _ h with k | ⟨od, u2, h2, k, k2⟩
    · exact .inl k
    · have e : u = u2 := by
        rcases k with k | ⟨od0, k⟩
        · exact k
        · subst k
          rcases hu with ⟨_, e⟩ | ⟨_, e⟩ <;> cases e
      subst e
      rcases k2 with k2 | k2
      · exact .inl k2
      · exact .inr ⟨_, k2⟩
  · rcases l a _ h with k | ⟨od, u2, h2, k, k2⟩
    · exact .inr ⟨_, k⟩
    · have e : u = u2 := by
        rcases k with k | ⟨od0, k⟩
        · subst k
          rcases h2 with ⟨_, e⟩ | ⟨_, e⟩ <;> cases e
        · cases k
          rfl
      subst e
      rcases k2 with k2 | k2
      · exact .inl k2
      · exact .inr ⟨_, k2⟩
theorem Like.seq {K : PySem.W.Frag} {F F2 : Hp} {a : Addr} {vs : List V} (l : Like F F2) (h : SqL K F a vs) : SqL K F2 a vs := by
  rcases h with (h | ⟨o, h⟩) | h
  · exact .inl (.inl (l.of h (fun u hu e => hu.no (fun _ z => by rw [z] at e; cases e) fun _ z => by rw [z] at e; cases e) fun _ u hu e => by cases e))
  · refine .inl (.inr ⟨o, l.of h (fun u hu e => hu.no (fun _ z => by rw [z] at e; cases e) fun _ z => by rw [z] at e; cases e) fun _ u hu e => ?_⟩)
    cases e
    exact hu.no (fun _ z => by cases z) fun _ z => by cases z
  · exact .inr h
end PyD
namespace PyD
open PySem PySem.Spec L2 PyC PyI
section
variable {K : PySem.W.Frag} {W : WX} {ex : Ek} {G : Gm} {O : Ow} {P : D → Ow → Prop} {PT : Bool → Ow → Prop} {E : EnD} {ta tb te tc tk tv td : TE} {tt uu tt1 : TT} {t u : TS} {aa : TA}
def pick (O : Ow) : List Nat → Ow
  | [] => []
  | j :: js => match O[j]? with
    | some p => ⟨p.a, false, p.d⟩ :: pick O js
    | none => pick O js
def bk : Ow → List D → Ow
  | p :: A, d :: ds => ⟨p.a, false, d⟩ :: bk A ds
  | A, _ => A
theorem pick_mem {O : Ow} : ∀ {js : List Nat} {p : Ob}, p ∈ pick O js → ∃ j ∈ js, ∃ b, O[j]? = some ⟨p.a, b, p.d⟩ ∧ p.loc = false
  | [], p, h => by cases h
  | j :: js, p, h => by
    unfold pick at h
    cases e : O[j]? with
    | none =>
      rw [e] at h
      obtain ⟨i, hi, k⟩ := pick_mem h
      exact ⟨i, List.mem_cons_of_mem _ hi, k⟩
    | some q =>
      rw [e] at h
      rcases List.mem_cons.mp h with rfl | h
      · exact ⟨j, List.mem_cons_self, q.loc, e, rfl⟩
      · obtain ⟨i, hi, k⟩ := pick_mem h
        exact ⟨i, List.mem_cons_of_mem _ hi, k⟩
theorem pick_lent {O : Ow} (nd : (O.map Ob.a).Nodup) : ∀ {js : List Nat}, js.Nodup → Lent O (pick O js)
  | [], _ => lent_nil
  | j :: js, h => by
    have ih := pick_lent nd (List.nodup_cons.mp h).2
    unfold pick
    cases e : O[j]? with
    | none => exact ih
    | some q =>
      refine ⟨fun p hp => ?_, ?_, fun p hp => ?_⟩
      · rcases List.mem_cons.mp hp with rfl | hp
        · exact ⟨q.loc, List.mem_of_getElem? e⟩
        · exact ih.mem p hp
      · rw [List.map_cons, List.nodup_cons]
        refine ⟨fun z => ?_, ih.nd⟩
        obtain ⟨p, hp, z⟩ := List.mem_map.mp z
        obtain ⟨i, hi, b, k, _⟩ := pick_mem hp
        have h1 : (O.map Ob.a)[i]? = some q.a := by rw [List.getElem?_map, k]; exact congrArg some z
        have h2 : (O.map Ob.a)[j]? = some q.a := by rw [List.getElem?_map, e]; rfl
        have h3 := nd_ix nd h1 h2
        subst h3
        exact (List.nodup_cons.mp h).1 hi
      · rcases List.mem_cons.mp hp with rfl | hp
        · rfl
        · exact ih.lo p hp
mutual
def subD (a : Addr) (c : D) : D → D
  | .mut b => if b = a then c else .mut b
  | .lst xs => .lst (subDs a c xs)
  | .tup xs => .tup (subDs a c xs)
  | d => d
def subDs (a : Addr) (c : D) : List D → List D
  | [] => []
  | x :: xs => subD a c x :: subDs a c xs
end
mutual
theorem Rp.sub {F : Hp} {a : Addr} {c : D} (hc : Rp K F c (.ref a)) : ∀ {d : D} {v : V}, Rp K F d v → Rp K F (subD a c d) v
  | _, _, .non => .non
  | _, _, .bl b => .bl b
  | _, _, .int i => .int i
  | _, _, .str s => .str s
  | _, _, .ref a => .ref a
  | _, _, .mut b => by
    unfold subD
    by_cases h : b = a
    · rw [if_pos h, h]
      exact hc
    · rw [if_neg h]
      exact .mut b
  | _, _, .ty n => .ty n
  | _, _, .lst h r => .lst h (Rps.sub hc r)
  | _, _, .kl h r => .kl h r
  | _, _, .tup h r => .tup h (Rps.sub hc r)
  | _, _, .dK h k r => .dK h k r
  | _, _, .dT h k r => .dT h k r
  | _, _, .ins h k r => .ins h k r
  | _, _, .exc0 a C => .exc0 a C
  | _, _, .exc1 h k r => .exc1 h k r
theorem Rps.sub {F : Hp} {a : Addr} {c : D} (hc : Rp K F c (.ref a)) : ∀ {ds : List D} {vs : List V}, Rps K F ds vs → Rps K F (subDs a c ds) vs
  | _, _, .nil => .nil
  | _, _, .cons h r => .cons (Rp.sub hc h) (Rps.sub hc r)
end
def subG (a : Addr) (c : D) (G : Gm) : Gm := G.map fun x => x.map (subD a c)
theorem Slots.sub {F : Hp} {σ : L2.St} {a : Addr} {c : D} (hc : Rp K F c (.ref a)) (s : Slots K F G σ) : Slots K F (subG a c G) σ := by
  refine ⟨by unfold subG; rw [List.length_map]; exact s.len, fun i d h => ?_⟩
  unfold subG at h
  rw [List.getElem?_map] at h
  cases e : G[i]? with
  | none => rw [e] at h; cases h
  | some x =>
    rw [e] at h
    cases x with
    | none => cases h
    | some d0 =>
      have h2 : subD a c d0 = d := by simpa using h
      obtain ⟨v, h3, h4⟩ := s.at_ i d0 e
      exact ⟨v, h3, h2 ▸ Rp.sub hc h4⟩
theorem wpE_nd (h : (O.map Ob.a).Nodup → wpE K W ex te G O P) : wpE K W ex te G O P := fun Z F H σ X S s Q q => h S.nd Z F H σ X S s Q q
def tOrE (t u : TE) : TE := fun σ H Q => t σ H Q ∨ u σ H Q
theorem pc_or {X : Cx} {op : CmpOp} {a b : Expr} (h : PC X op a b ta) (h' : PC X op a b tb) : PC X op a b (tOrE ta tb) := ⟨fun pins s σ H Q I q => by
  rcases q with q | q
  · exact h.run pins s σ H Q I q
  · exact h'.run pins s σ H Q I q⟩
theorem wpE_or1 (h : wpE K W ex ta G O P) : wpE K W ex (tOrE ta tb) G O P := fun Z F H σ X S s Q q => .inl (h Z F H σ X S s Q q)
theorem wpE_or2 (h : wpE K W ex tb G O P) : wpE K W ex (tOrE ta tb) G O P := fun Z F H σ X S s Q q => .inr (h Z F H σ X S s Q q)
theorem wpG_lst {n : Nat} {gs : TGs} {x : D} {ds : List D} {PG : Gm → Ow → Prop} (hx : seqOf O x ds) (hn : ds.length = n) (h : wpGs K gs ds G O PG) : wpG K (gLst K n gs) x G O PG := fun Z F H σ v S s r Q q => by
  obtain ⟨a, vs, rfl, ha, rv⟩ := hx.at S r
  exact ⟨a, vs, rfl, ha, by rw [← rv.length]; exact hn, h Z F H σ _ S s rv Q q⟩
theorem wpE_chain {r r' : R2} (h : wpE K W ex ta G O fun x O1 => wpE K W ex tb G O1 fun y O2 => wpR K r x y O2 fun z O3 => ∃ k, z = .bl k ∧ (k = true → wpE K W ex tc G O3 fun w O4 => wpR K r' y w O4 P) ∧ (k = false → P (.bl false) O3)) : wpE K W ex (tChain r r' ta tb tc) G O P := fun Z F H σ X S s Q q =>
  h Z F H σ X S s _ fun x vx F1 H1 O1 S1 e1 r1 p1 => p1 Z F1 H1 σ (X.mono e1) S1 (s.mono e1) _ fun y vy F2 H2 O2 S2 e2 r2 p2 => p2 Z F2 H2 vx vy S2 (r1.mono e2) r2 _ fun z vz F3 H3 O3 S3 e3 r3 p3 => by
    obtain ⟨k, rfl, pt, pf⟩ := p3
    cases r3
    have e13 := e1.trans (e2.trans e3)
    refine ⟨k, rfl, ?_⟩
    cases k with
    | false => exact q _ _ F3 H3 O3 S3 e13 (.bl false) (pf rfl)
    | true => exact pt rfl Z F3 H3 σ (X.mono e13) S3 (s.mono e13) _ fun w vw F4 H4 O4 S4 e4 r4 p4 => p4 Z F4 H4 vy vw S4 ((r2.mono e3).mono e4) r4 Q fun d v F5 H5 O5 S5 e5 r5 p5 => q d v F5 H5 O5 S5 (e13.trans (e4.trans e5)) r5 p5
theorem Rps.reverse {F : Hp} : ∀ {ds : List D} {vs : List V}, Rps K F ds vs → Rps K F ds.reverse vs.reverse
  | _, _, .nil => .nil
  | _, _, .cons a r => by
    rw [List.reverse_cons, List.reverse_cons]
    exact (Rps.reverse r).app (.one a)
theorem wpE_cval {f : Str} {C : Addr} {mc : Value} {v : V} {u : Value} {d : D} (c : ClX.CRead K C mc) (k : ClX.CVal K C mc f v u) (hd : ∀ F, Rp K F d v) (h : wpE K W ex ta G O fun x O1 => x = .ref C ∧ P d O1) : wpE K W ex (ClX.tCVal K ta f) G O P := fun Z F H σ X S s Q q =>
  h Z F H σ X S s _ fun x vx F1 H1 O1 S1 e1 r1 ⟨hx, p⟩ => by
    subst hx
    cases r1
    exact ⟨C, mc, v, u, rfl, c, k, q d v F1 H1 O1 S1 e1 (hd F1) p⟩
/-- isinstance(x, C), x an instance of C -/
def rIsC (C : Addr) : List V → Hp → VK → Prop := fun xs H Q => ∃ a dx fs, xs = [.ref a, .ref C] ∧ H a = some (.ins C dx fs) ∧ Q (.bl true) H
theorem wpC_isC {C : Addr} {fs : List (Str × D)} (p : P (.bl true) O) : wpC K (rIsC C) [.ins C fs, .ref C] O P := fun Z F H vs S r Q q => by
  cases r with
  | cons ra rb =>
    cases rb with
    | cons rc rd =>
      cases rd
      cases rc
      obtain ⟨a, dx, gs, rfl, ha, _, _⟩ := (ins_l (O := O)).at S ra
      exact ⟨a, dx, gs, rfl, ha, q _ _ F H O S (Ex.refl F) (.bl _) p⟩
end
end PyD
namespace PyH
open PySem PySem.Spec PyProof.Rows L2 PyI
/-- a method's body: from its walk to FM -/
theorem fm_of {P : Program} {w : World} {K : PySem.W.Frag} {mg : Str → Option Value} {base : Heap} {C : Addr} {m qual : Str} {st : Stmt} {N ps : List Str} {k : Nat} {dvs : List V} {sp : PyD.DSp} {ts : WX → TS} (F : ∃ fd, FunD K m qual (defArgs st) (defBody st) (defScope st) dvs [] (He.ma K C m) fd) (M : Meth K C m (He.ma K C m))
    (S : FnScope N ps (defScope st)) (len : ∀ ds O k x, sp ds O k x → ds.length = ps.length)
    (hb : ∀ fd, FunD K m qual (defArgs st) (defBody st) (defScope st) dvs [] (He.ma K C m) fd → ∃ ds, Binds K fd ps ds ∧ Vals dvs ds)
    (der : ∀ (cdv : Value) (A : Around) (outer : List Env) (s : Shared) (H : Hp) (E : XK), Room k (A.deeper (envOfC qual (defScope st) s.heap.objs.size (He.ma K C m) cdv)) →
      PSs (cxOf (L2.CX P w) P w K mg base N qual (defScope st) (He.ma K C m) cdv A outer s H E) (defBody st) (ts fun cls d _ H => E cls d H))
    (walk : ∀ W ds O k x, sp ds O k x → (∀ p ∈ O, p.loc = false) → PyD.wpS K W (fun e _ O' => x e O') (ts W) (PyD.startD N.length ds) O { nx := fun _ O' => k .non O', rt := k }) : FM P w K mg base (k + 1) C m ps dvs (PyD.toSp K sp) := by
  obtain ⟨fd, F⟩ := F
  obtain ⟨ds, hb1, hb2⟩ := hb fd F
  exact ⟨M, fd, ds, F.ok S (PyD.toSp_len len) (fun cdv A outer s H vs Q E hr h => ⟨_, der cdv A outer s H E hr, PyD.body_ok walk vs H Q E h⟩), hb1, hb2⟩
theorem bindsM {K : PySem.W.Frag} {x qual : Str} {st : Stmt} {ps : List Str} {f : Addr} {fd : FuncData} (F : FunD K x qual (defArgs st) (defBody st) (defScope st) [] [] f fd)
    (h : ∀ (kV doc pm : Value) (an : Option Addr) (cdv ct : Value) (us : List Value), us.length = ps.length → bindArgs (PySem.W.fnOf x qual (defArgs st) (defBody st) (defScope st) .none kV doc pm an cdv ct) ⟨us, []⟩ = pure (ps.zip us)) : ∃ ds, Binds K fd ps ds ∧ Vals [] ds :=
  ⟨[], F.bindsN h, .nil⟩
def insCB (K : PySem.W.Frag) (C : Addr) : Bool := He.eqO (PySem.W.findIn K (.ref C) "__class__") (some (some (.builtin "object.__class__"))) && (He.eqO (PySem.W.specialIn K (.builtin "object.__class__") "__get__") (some (some (.builtin "getset_descriptor.__get__"))) && (decide (PySem.W.takesIn K (.builtin "object.__class__") = some true) && (decide (PySem.W.mroIn K C (.type "object") = some true) && decide (PySem.W.kitOne K (.ref C) (.ref C) = some true))))
theorem insCB_ok {K : PySem.W.Frag} {C : Addr} (h : insCB K C = true) (c : Cls K C) : C8.InsC K C := by
  obtain ⟨h1, h⟩ := He.ba h
  obtain ⟨h2, h⟩ := He.ba h
  obtain ⟨h3, h⟩ := He.ba h
  obtain ⟨h4, h5⟩ := He.ba h
  exact ⟨c, He.eqO_ok h1, He.eqO_ok h2, of_decide_eq_true h3, of_decide_eq_true h4, of_decide_eq_true h5⟩
def cvalB (K : PySem.W.Frag) (C : Addr) (f : Str) (i : Int) : Bool := PySem.W.readsIn K C (.type "type") && (He.eqO (PySem.W.specialIn K (.ref C) "__getattribute__") (some (some (.builtin "type.__getattribute__"))) && (match PySem.W.findCls K (.ref C) (.type "type") f with
  | some (.val (.int j _)) => decide (j = i)
  | _ => false))
theorem cvalB_ok {K : PySem.W.Frag} {C : Addr} {f : Str} {i : Int} (h : cvalB K C f i = true) : ClX.CRead K C (.type "type") ∧ ∃ u, ClX.CVal K C (.type "type") f (.int i) u := by
  obtain ⟨h1, h⟩ := He.ba h
  obtain ⟨h2, h⟩ := He.ba h
  refine ⟨⟨h1, He.eqO_ok h2⟩, ?_⟩
  split at h
  · rename_i j t e
    have hj : j = i := of_decide_eq_true h
    subst hj
    exact ⟨_, e, ⟨t, rfl⟩⟩
  · cases h
end PyH
namespace PyD
open PySem PySem.Spec L2 PyC PyI
theorem pc_R {X : Cx} {op : CmpOp} {r : R2} {a b : Expr} {ta tb : TE} (ho : OpR X (compareOp op) r) (ha : PE X a ta) (hb : PE X b tb) : PC X op a b (tOp r ta tb) :=
  ⟨fun pins s σ H Q I h => binT ha hb I h fun v u s2 x y H2 I2 rx ry q => ho pins s2 σ H2 x y v u Q I2 rx ry q⟩
theorem blkOk_in {N : List Str} {scope0 sc0 scope sc : Scope} {own : List (Str × Nat)} (e : sc = relS scope0 sc0) (h : blkC N (relS scope0 sc0) scope own = true) : BlkOk N sc scope own := by
  rw [e]
  exact blkOk_by h
section
variable {K : PySem.W.Frag} {W : WX} {ex : Ek} {G : Gm} {O : Ow} {P : D → Ow → Prop} {ta te : TE} {aa : TA}
/-- a method called where no exception is let out -/
theorem wpE_methE {C : Addr} {m : Str} {sp : DSp} {dvs : List V} {dds : List D} (hd : ∀ F, Rps K F dds dvs) (h : wpE K W ex ta G O fun x O1 => ∃ fs, x = .ins C fs ∧ fs.lookup m = none ∧ wpA K W ex aa G O1 fun ds O2 => ∃ A, Lent O2 A ∧
      sp (x :: (ds ++ dds)) A (fun d N => ∃ M, N = M ++ A ∧ P d (M ++ O2)) (fun _ _ => False)) : wpE K W ex (tMethA C m (toSp K sp) dvs (fun _ => E0) ta aa) G O P := fun Z F H σ X S s Q q =>
  h Z F H σ X S s _ fun x vx F1 H1 O1 S1 e1 r1 ⟨fs, hx, hm, p1⟩ => by
    subst hx
    obtain ⟨a, dx, gs, rfl, ha, h2, h3⟩ := (ins_l (O := O1)).at S1 r1
    refine ⟨a, dx, gs, rfl, ha, fld_none h2 hm, p1 Z F1 H1 σ (X.mono e1) S1 (s.mono e1) _ fun ds vs F2 H2 O2 S2 e2 r2 hp => ?_⟩
    obtain ⟨A, hA, p2⟩ := hp
    have e12 := e1.trans e2
    refine ⟨.ins C fs :: (ds ++ dds), F2, A, _, _, S2.callN hA, hA.lo, .cons (r1.mono e2) (r2.app (hd F2)), p2, fun d N v F' H' S' r' hk => ?_, fun e N dd F' H' S' r' hk => hk.elim⟩
    obtain ⟨M, rfl, hk⟩ := hk
    obtain ⟨S3, e3⟩ := S2.backN hA rfl S'
    rw [putO_same S2.nd hA] at S3
    exact q d v F' H' _ S3 (e12.trans e3) r' hk
end
end PyD
namespace L2
open PySem PySem.Spec PyProof.Rows
section
variable {X : Cx} {tg : Expr} {pos : Pos}
/-- a list or a tuple is walked -/
def iSeq (K : PySem.W.Frag) (tl : TE) : TI := fun σ H R => tl σ H fun x H1 => ∃ a, x = .ref a ∧ (((∃ xs, SqL K H1 a xs) ∧ R (Itl K a) H1) ∨ ((∃ xs, SqT K H1 a xs) ∧ R (Itt K a) H1))
/-- a, b, .. = a list or a tuple -/
def gSeq (K : PySem.W.Frag) (n : Nat) (t : TGs) : TG := fun v σ H Q => gLst K n t v σ H Q ∨ gTup K n t v σ H Q
end
end L2
namespace PyD
open PySem PySem.Spec L2
section
variable {K : PySem.W.Frag} {W : WX} {ex : Ek} {G : Gm} {O : Ow} {te : TE}
def sqOf (O : Ow) (d : D) (xs : List D) : Prop := seqOf O d xs ∨ d = .tup xs
theorem wpI_seq {PI : List D → (Ow → Prop) → Ow → Prop} (h : wpE K W ex te G O fun d O1 => ∃ xs, sqOf O1 d xs ∧ PI xs (fun O' => sqOf O' d xs) O1) : wpI K W ex (iSeq K te) G O PI := fun Z F H σ X S s R q =>
  h Z F H σ X S s _ fun d v F1 H1 O1 S1 e1 r1 ⟨xs, hsq, p⟩ => by
    rcases hsq with hsq | rfl
    · obtain ⟨a, vs, rfl, hv, rv⟩ := hsq.at S1 r1
      refine ⟨a, rfl, .inl ⟨⟨vs, hv⟩, q _ xs _ F1 H1 O1 S1 e1 ⟨fun Z F2 H2 O2 i x S2 e2 hC hx => ?_, fun Z F2 H2 O2 S2 e2 hC => ?_⟩ p⟩⟩
      · have hC : seqOf O2 d xs := hC.elim id fun e => by
          subst e
          rcases hsq with h | h | ⟨a, b, h, _⟩ <;> cases h
        obtain ⟨a', vs', ea, hv', rv'⟩ := hC.at S2 (r1.mono e2)
        cases ea
        obtain ⟨y, hy, ry⟩ := rv'.get hx
        refine ⟨⟨vs', y, hv', hy⟩, fun z H3 hz => ?_⟩
        obtain ⟨rfl, fz⟩ := hz
        have ez : z = y := Option.some.inj ((fz _ hv').symm.trans hy)
        subst ez
        exact ⟨F2, S2, Ex.refl _, ry⟩
      · have hC : seqOf O2 d xs := hC.elim id fun e => by
          subst e
          rcases hsq with h | h | ⟨a, b, h, _⟩ <;> cases h
        obtain ⟨a', vs', ea, hv', rv'⟩ := hC.at S2 (r1.mono e2)
        cases ea
        exact ⟨vs', hv', by rw [rv'.length]; exact Nat.le_refl _⟩
    · cases r1 with
      | @tup a vs _ ht0 rv =>
      have ht : SqT K F1 a vs := SqT.of ht0
      refine ⟨a, rfl, .inr ⟨⟨vs, ex_t S1.ex ht⟩, q _ xs _ F1 H1 O1 S1 e1 ⟨fun Z F2 H2 O2 i x S2 e2 hC hx => ?_, fun Z F2 H2 O2 S2 e2 hC => ?_⟩ p⟩⟩
      · obtain ⟨y, hy, ry⟩ := rv.get hx
        have hv' := ex_t S2.ex (ex_t e2 ht)
        refine ⟨⟨vs, y, hv', hy⟩, fun z H3 hz => ?_⟩
        obtain ⟨rfl, fz⟩ := hz
        have ez : z = y := Option.some.inj ((fz _ hv').symm.trans hy)
        subst ez
        exact ⟨F2, S2, Ex.refl _, ry.mono e2⟩
      · exact ⟨vs, ex_t S2.ex (ex_t e2 ht), by rw [rv.length]; exact Nat.le_refl _⟩
end
section
variable {K : PySem.W.Frag} {G : Gm} {O : Ow}
theorem wpG_seqL {n : Nat} {gs : TGs} {x : D} {ds : List D} {PG : Gm → Ow → Prop} (hx : seqOf O x ds) (hn : ds.length = n) (h : wpGs K gs ds G O PG) : wpG K (gSeq K n gs) x G O PG := fun Z F H σ v S s r Q q => .inl (wpG_lst hx hn h Z F H σ v S s r Q q)
theorem wpG_seqT {n : Nat} {gs : TGs} {ds : List D} {PG : Gm → Ow → Prop} (hn : ds.length = n) (h : wpGs K gs ds G O PG) : wpG K (gSeq K n gs) (.tup ds) G O PG := fun Z F H σ v S s r Q q => .inr (wpG_tup hn h Z F H σ v S s r Q q)
end
section
variable {K : PySem.W.Frag} {W : WX} {ex : Ek} {G : Gm} {O : Ow} {P : D → Ow → Prop} {PT : Bool → Ow → Prop} {E : EnD} {tt uu : TT} {t u : TS} {te tk tv : TE} {aa : TA} {α : Type}
theorem wpT_andP {c1 c2 : Bool} (h : wpT K W ex tt G O fun b O' => b = c1 ∧ O' = O) (h2 : c1 = true → wpT K W ex uu G O fun b O' => b = c2 ∧ O' = O) : wpT K W ex (tAnd tt uu) G O fun b O' => b = (c1 && c2) ∧ O' = O :=
  wpT_and (wpT_mono h fun b O' ⟨e1, e2⟩ => by
    subst e2
    refine ⟨fun hb => ?_, fun hb => ?_⟩
    · rw [hb] at e1
      refine wpT_mono (h2 e1.symm) fun b' O'' ⟨e3, e4⟩ => ⟨?_, e4⟩
      rw [← e1, e3]
      rfl
    · rw [hb] at e1
      rw [← e1]
      exact ⟨rfl, rfl⟩)
theorem wpT_orP {c1 c2 : Bool} (h : wpT K W ex tt G O fun b O' => b = c1 ∧ O' = O) (h2 : c1 = false → wpT K W ex uu G O fun b O' => b = c2 ∧ O' = O) : wpT K W ex (tOr tt uu) G O fun b O' => b = (c1 || c2) ∧ O' = O :=
  wpT_or (wpT_mono h fun b O' ⟨e1, e2⟩ => by
    subst e2
    refine ⟨fun hb => ?_, fun hb => ?_⟩
    · rw [hb] at e1
      rw [← e1]
      exact ⟨rfl, rfl⟩
    · rw [hb] at e1
      refine wpT_mono (h2 e1.symm) fun b' O'' ⟨e3, e4⟩ => ⟨?_, e4⟩
      rw [← e1, e3]
      rfl)
theorem wpS_iteP {c : Bool} (h : wpT K W ex tt G O fun b O' => b = c ∧ O' = O) (hk : (c = true → wpS K W ex t G O E) ∧ (c = false → wpS K W ex u G O E)) : wpS K W ex (tIfS tt t u) G O E := wpS_ite c h hk.1 hk.2
theorem wpE_joinP {d : D} (h : wpE K W ex te G O fun b O' => b = d ∧ O' = O) (p : P d O) : wpE K W ex te G O P := wpE_join d h p
theorem wpE_andP {ta tb : TE} {c1 c2 : Bool} (h : wpE K W ex ta G O fun d O' => d = .bl c1 ∧ O' = O) (h2 : c1 = true → wpE K W ex tb G O fun d O' => d = .bl c2 ∧ O' = O) : wpE K W ex (tAndV ta tb) G O fun d O' => d = .bl (c1 && c2) ∧ O' = O :=
  wpE_andV (wpE_mono h fun d O' ⟨e1, e2⟩ => by
    subst e1 e2
    refine ⟨c1, rfl, fun hb => ?_, fun hb => ?_⟩
    · refine wpE_mono (h2 hb) fun d' O'' ⟨e3, e4⟩ => ⟨?_, e4⟩
      rw [hb, e3]
      rfl
    · rw [hb]
      exact ⟨rfl, rfl⟩)
/-- [f a for a in as] -/
theorem wpE_mapP {wi : TI} {g : TG} {vs : List Nat} (fr : Bool) {as : List α} {enc : α → D} {f : α → D} (hg : gIn vs g) (gm : gMono g)
    (h : wpI K W ex wi G O fun xs C O1 => xs = as.map enc ∧ as.length < sizeLine ∧ C O1 ∧ (∀ (i : Nat) (a : α), as[i]? = some a → wpG K g (enc a) (wipeG G vs) O1 fun G2 O2 => O2 = O1 ∧ wpE K W ex te G2 O1 fun y O4 => y = f a ∧ O4 = O1) ∧ lcEnd fr (as.map f) O1 P) :
    wpE K W ex (tLc wi g tYes te vs) G O P := by
  refine wpE_lcE (α := α) fr hg gm fun Z F H σ X S s R q => h Z F H σ X S s R fun J xs C F1 H1 O1 S1 e1 w p => q J xs C F1 H1 O1 S1 e1 w ?_
  obtain ⟨h1, h2, h3, h4, h5⟩ := p
  refine ⟨as, enc, fun a => some (f a), h1, h2, h3, fun i a ha Z F H σ v S s r Q q => h4 i a ha Z F H σ v S s r Q fun F' H' σ' G' O' S' s' e' ⟨k1, k2⟩ => q F' H' σ' G' O' S' s' e' ⟨k1, wpT_yes ⟨rfl, fun _ => wpE_mono k2 fun y O4 ⟨z1, z2⟩ => ⟨by rw [z1], z2⟩, fun h => (by cases h)⟩⟩, ?_⟩
  rw [List.filterMap_eq_map']
  exact h5
theorem filt_map (as : List α) (c : α → Bool) {β : Type} (f : α → β) : as.filterMap (fun a => if c a = true then some (f a) else none) = (as.filter c).map f := by
  induction as with
  | nil => rfl
  | cons a as ih =>
    rw [List.filterMap_cons, List.filter_cons]
    cases c a <;> simp [ih]
/-- [f a for a in as if c a] -/
theorem wpE_filP {wi : TI} {g : TG} {vs : List Nat} (fr : Bool) {as : List α} {enc : α → D} {f : α → D} {c : α → Bool} (hg : gIn vs g) (gm : gMono g)
    (h : wpI K W ex wi G O fun xs C O1 => xs = as.map enc ∧ as.length < sizeLine ∧ C O1 ∧ (∀ (i : Nat) (a : α), as[i]? = some a → wpG K g (enc a) (wipeG G vs) O1 fun G2 O2 => O2 = O1 ∧ wpT K W ex tt G2 O1 (fun b O3 => b = c a ∧ O3 = O1) ∧ (c a = true → wpE K W ex te G2 O1 fun y O4 => y = f a ∧ O4 = O1)) ∧ lcEnd fr ((as.filter c).map f) O1 P) :
    wpE K W ex (tLc wi g tt te vs) G O P := by
  refine wpE_lcE (α := α) fr hg gm fun Z F H σ X S s R q => h Z F H σ X S s R fun J xs C F1 H1 O1 S1 e1 w p => q J xs C F1 H1 O1 S1 e1 w ?_
  obtain ⟨h1, h2, h3, h4, h5⟩ := p
  refine ⟨as, enc, fun a => if c a = true then some (f a) else none, h1, h2, h3, fun i a ha Z F H σ v S s r Q q => h4 i a ha Z F H σ v S s r Q fun F' H' σ' G' O' S' s' e' ⟨k1, k2, k3⟩ => q F' H' σ' G' O' S' s' e' ⟨k1, wpT_mono k2 fun b O3 ⟨z1, z2⟩ => ⟨z2, fun hb => wpE_mono (k3 (by rw [← z1]; exact hb)) fun y O4 ⟨y1, y2⟩ => ⟨?_, y2⟩, fun hb => ?_⟩⟩, ?_⟩
  · show (if c a = true then some (f a) else none) = some y
    rw [if_pos (by rw [← z1]; exact hb), y1]
  · show (if c a = true then some (f a) else none) = none
    rw [← z1, hb]
    rfl
  · rw [filt_map]
    exact h5
section
variable {wi : TI} {g : TG}
theorem set_selfG (G : Gm) (j : Nat) : G.set j (G[j]?).join = G := by
  apply List.ext_getElem?
  intro i
  rw [List.getElem?_set]
  by_cases h : j = i
  · subst h
    rw [if_pos rfl]
    by_cases hl : j < G.length
    · rw [if_pos hl, List.getElem?_eq_getElem hl] <;> rfl
    · rw [if_neg hl, List.getElem?_eq_none (by omega)]
  · rw [if_neg h]
theorem wpS_for1 (j1 : Nat) (J : Nat → Option D → Ow → Prop) {as : List α} {enc : α → D} (h : wpI K W ex wi G O fun xs C O1 => xs = as.map enc ∧ J 0 (G[j1]?).join O1 ∧ (∀ i q O', i ≤ as.length → J i q O' → C O') ∧
      (∀ (i : Nat) (a : α) q O', as[i]? = some a → J i q O' → wpG K g (enc a) (G.set j1 q) O' fun G2 O2 => wpS K W ex t G2 O2 { E with nx := fun G' O' => ∃ q, G' = G.set j1 q ∧ J (i + 1) q O', ct := fun G' O' => ∃ q, G' = G.set j1 q ∧ J (i + 1) q O', bk := E.nx }) ∧ ∀ q O', J as.length q O' → E.nx (G.set j1 q) O') :
    wpS K W ex (tFor wi g t) G O E := by
  refine wpS_forA as enc (fun i G' O' => ∃ q, G' = G.set j1 q ∧ J i q O') fun Z F H σ X S s R q => h Z F H σ X S s R fun J0 xs C F1 H1 O1 S1 e1 w p => q J0 xs C F1 H1 O1 S1 e1 w ?_
  obtain ⟨h1, h2, h3, h4, h5⟩ := p
  refine ⟨h1, ⟨_, (set_selfG G j1).symm, h2⟩, fun i G' O' hi ⟨q, _, hJ⟩ => h3 i q O' hi hJ, fun i a G' O' ha ⟨q, e, hJ⟩ => ?_, fun G' O' ⟨q, e, hJ⟩ => ?_⟩
  · subst e
    exact h4 i a q O' ha hJ
  · subst e
    exact h5 q O' hJ
theorem wpS_for2 (j1 j2 : Nat) (J : Nat → Option D → Option D → Ow → Prop) {as : List α} {enc : α → D} (h : wpI K W ex wi G O fun xs C O1 => xs = as.map enc ∧ J 0 (G[j1]?).join (G[j2]?).join O1 ∧ (∀ i q r O', i ≤ as.length → J i q r O' → C O') ∧
      (∀ (i : Nat) (a : α) q r O', as[i]? = some a → J i q r O' → wpG K g (enc a) ((G.set j1 q).set j2 r) O' fun G2 O2 => wpS K W ex t G2 O2 { E with nx := fun G' O' => ∃ q r, G' = (G.set j1 q).set j2 r ∧ J (i + 1) q r O', ct := fun G' O' => ∃ q r, G' = (G.set j1 q).set j2 r ∧ J (i + 1) q r O', bk := E.nx }) ∧ ∀ q r O', J as.length q r O' → E.nx ((G.set j1 q).set j2 r) O') :
    wpS K W ex (tFor wi g t) G O E := by
  refine wpS_forA as enc (fun i G' O' => ∃ q r, G' = (G.set j1 q).set j2 r ∧ J i q r O') fun Z F H σ X S s R q => h Z F H σ X S s R fun J0 xs C F1 H1 O1 S1 e1 w p => q J0 xs C F1 H1 O1 S1 e1 w ?_
  obtain ⟨h1, h2, h3, h4, h5⟩ := p
  refine ⟨h1, ⟨_, _, by rw [set_selfG, set_selfG], h2⟩, fun i G' O' hi ⟨q, r, _, hJ⟩ => h3 i q r O' hi hJ, fun i a G' O' ha ⟨q, r, e, hJ⟩ => ?_, fun G' O' ⟨q, r, e, hJ⟩ => ?_⟩
  · subst e
    exact h4 i a q r O' ha hJ
  · subst e
    exact h5 q r O' hJ
theorem wpS_for3 (j1 j2 j3 : Nat) (J : Nat → Option D → Option D → Option D → Ow → Prop) {as : List α} {enc : α → D} (h : wpI K W ex wi G O fun xs C O1 => xs = as.map enc ∧ J 0 (G[j1]?).join (G[j2]?).join (G[j3]?).join O1 ∧ (∀ i q r s O', i ≤ as.length → J i q r s O' → C O') ∧
      (∀ (i : Nat) (a : α) q r s O', as[i]? = some a → J i q r s O' → wpG K g (enc a) (((G.set j1 q).set j2 r).set j3 s) O' fun G2 O2 => wpS K W ex t G2 O2 { E with nx := fun G' O' => ∃ q r s, G' = ((G.set j1 q).set j2 r).set j3 s ∧ J (i + 1) q r s O', ct := fun G' O' => ∃ q r s, G' = ((G.set j1 q).set j2 r).set j3 s ∧ J (i + 1) q r s O', bk := E.nx }) ∧ ∀ q r s O', J as.length q r s O' → E.nx (((G.set j1 q).set j2 r).set j3 s) O') :
    wpS K W ex (tFor wi g t) G O E := by
  refine wpS_forA as enc (fun i G' O' => ∃ q r s, G' = ((G.set j1 q).set j2 r).set j3 s ∧ J i q r s O') fun Z F H σ X S s R q => h Z F H σ X S s R fun J0 xs C F1 H1 O1 S1 e1 w p => q J0 xs C F1 H1 O1 S1 e1 w ?_
  obtain ⟨h1, h2, h3, h4, h5⟩ := p
  refine ⟨h1, ⟨_, _, _, by rw [set_selfG, set_selfG, set_selfG], h2⟩, fun i G' O' hi ⟨q, r, s, _, hJ⟩ => h3 i q r s O' hi hJ, fun i a G' O' ha ⟨q, r, s, e, hJ⟩ => ?_, fun G' O' ⟨q, r, s, e, hJ⟩ => ?_⟩
  · subst e
    exact h4 i a q r s O' ha hJ
  · subst e
    exact h5 q r s O' hJ
theorem wpS_for4 (j1 j2 j3 j4 : Nat) (J : Nat → Option D → Option D → Option D → Option D → Ow → Prop) {as : List α} {enc : α → D} (h : wpI K W ex wi G O fun xs C O1 => xs = as.map enc ∧ J 0 (G[j1]?).join (G[j2]?).join (G[j3]?).join (G[j4]?).join O1 ∧ (∀ i q r s t O', i ≤ as.length → J i q r s t O' → C O') ∧
      (∀ (i : Nat) (a : α) q r s t' O', as[i]? = some a → J i q r s t' O' → wpG K g (enc a) ((((G.set j1 q).set j2 r).set j3 s).set j4 t') O' fun G2 O2 => wpS K W ex t G2 O2 { E with nx := fun G' O' => ∃ q r s t, G' = (((G.set j1 q).set j2 r).set j3 s).set j4 t ∧ J (i + 1) q r s t O', ct := fun G' O' => ∃ q r s t, G' = (((G.set j1 q).set j2 r).set j3 s).set j4 t ∧ J (i + 1) q r s t O', bk := E.nx }) ∧ ∀ q r s t O', J as.length q r s t O' → E.nx ((((G.set j1 q).set j2 r).set j3 s).set j4 t) O') :
    wpS K W ex (tFor wi g t) G O E := by
  refine wpS_forA as enc (fun i G' O' => ∃ q r s t, G' = (((G.set j1 q).set j2 r).set j3 s).set j4 t ∧ J i q r s t O') fun Z F H σ X S s R q => h Z F H σ X S s R fun J0 xs C F1 H1 O1 S1 e1 w p => q J0 xs C F1 H1 O1 S1 e1 w ?_
  obtain ⟨h1, h2, h3, h4, h5⟩ := p
  refine ⟨h1, ⟨_, _, _, _, by rw [set_selfG, set_selfG, set_selfG, set_selfG], h2⟩, fun i G' O' hi ⟨q, r, s, t, _, hJ⟩ => h3 i q r s t O' hi hJ, fun i a G' O' ha ⟨q, r, s, t, e, hJ⟩ => ?_, fun G' O' ⟨q, r, s, t, e, hJ⟩ => ?_⟩
  · subst e
    exact h4 i a q r s t O' ha hJ
  · subst e
    exact h5 q r s t O' hJ
end
theorem wpS_asg {g : TG} (h : wpE K W ex te G O fun d O1 => wpG K g d G O1 fun G2 O2 => E.nx G2 O2) : wpS K W ex (tAsg te g) G O E := fun Z F H σ X S s D0 q =>
  h Z F H σ X S s _ fun d v F1 H1 O1 S1 e1 r1 p1 => p1 Z F1 H1 σ v S1 (s.mono e1) r1 _ fun F2 H2 σ2 G2 O2 S2 s2 e2 p2 => q.nx F2 H2 σ2 G2 O2 (e1.trans e2) S2 s2 p2
theorem k_nil {k : D → Ow → Prop} {O1 : Ow} : (fun (d : D) (N : Ow) => ∃ M, N = M ++ [] ∧ k d (M ++ O1)) = fun d N => k d (N ++ O1) := by
  funext d N
  exact propext ⟨fun ⟨M, e, p⟩ => by rw [List.append_nil] at e; subst e; exact p, fun p => ⟨N, by rw [List.append_nil], p⟩⟩
theorem x_nil {k : Xc → Ow → Prop} {O1 : Ow} : (fun (d : Xc) (N : Ow) => ∃ M, N = M ++ [] ∧ k d (M ++ O1)) = fun d N => k d (N ++ O1) := by
  funext d N
  exact propext ⟨fun ⟨M, e, p⟩ => by rw [List.append_nil] at e; subst e; exact p, fun p => ⟨N, by rw [List.append_nil], p⟩⟩
/-- x.m(e, ..), nothing owned handed over -/
theorem wpE_meth0 {C : Addr} {m : Str} {sp : DSp} {dvs : List V} {dds : List D} {ta : TE} (hd : ∀ F, Rps K F dds dvs) (h : wpE K W ex ta G O fun x O1 => ∃ fs, x = .ins C fs ∧ fs.lookup m = none ∧ wpA K W ex aa G O1 fun ds O2 =>
      sp (x :: (ds ++ dds)) [] (fun d N => P d (N ++ O2)) (fun e N => ex e G (N ++ O2))) : wpE K W ex (PyI.tMethA C m (toSp K sp) dvs (WE W) ta aa) G O P := by
  refine wpE_meth hd (wpE_mono h fun x O1 ⟨fs, h1, h2, h3⟩ => ⟨fs, h1, h2, ?_⟩)
  intro Z F H σ X S s Q q
  refine h3 Z F H σ X S s Q fun d v F' H' O' S' e r p => q d v F' H' O' S' e r ⟨[], lent_nil, ?_⟩
  rw [k_nil, x_nil (k := fun e N => ex e G N)]
  exact p
theorem wpE_meth0E {C : Addr} {m : Str} {sp : DSp} {dvs : List V} {dds : List D} {ta : TE} (hd : ∀ F, Rps K F dds dvs) (h : wpE K W ex ta G O fun x O1 => ∃ fs, x = .ins C fs ∧ fs.lookup m = none ∧ wpA K W ex aa G O1 fun ds O2 =>
      sp (x :: (ds ++ dds)) [] (fun d N => P d (N ++ O2)) (fun _ _ => False)) : wpE K W ex (PyI.tMethA C m (toSp K sp) dvs (fun _ => E0) ta aa) G O P := by
  refine wpE_methE hd (wpE_mono h fun x O1 ⟨fs, h1, h2, h3⟩ => ⟨fs, h1, h2, ?_⟩)
  intro Z F H σ X S s Q q
  refine h3 Z F H σ X S s Q fun d v F' H' O' S' e r p => q d v F' H' O' S' e r ⟨[], lent_nil, ?_⟩
  rw [k_nil]
  exact p
theorem wpM_appendC {f : α → D} {xs : List α} {x : α} {y : D} {j : Nat} {a : Addr} {b : Bool} (hj : O[j]? = some ⟨a, b, .lst (xs.map f)⟩) (e : y = f x) (hl : xs.length < sizeLine) (p : P .non (O.set j ⟨a, b, .lst ((xs ++ [x]).map f)⟩)) : wpM K rAppend (.mut a) [y] O P := by
  subst e
  refine wpM_append hj (by rw [List.length_map]; exact hl) ?_
  rw [List.map_append] at p
  exact p
theorem wpE_fz (h : wpE K W ex te G O fun d O1 => ∃ c e O2, d = .mut c ∧ O1 = ⟨c, true, e⟩ :: O2 ∧ P e O2) : wpE K W ex te G O P := fun Z F H σ X S s Q q =>
  h Z F H σ X S s Q fun d v F1 H1 O1 S1 e1 r1 ⟨c, e, O2, hd, hO, p⟩ => by
    subst hd hO
    cases r1
    obtain ⟨F', ex', S', r'⟩ := S1.freeze (j := 0) rfl
    exact q e _ F' H1 _ S' (e1.trans ex') r' p
/-- some of what is owned is let go -/
theorem wpE_fgt (h : wpE K W ex te G O fun d O1 => ∃ O2, O2.Sublist O1 ∧ P d O2) : wpE K W ex te G O P := fun Z F H σ X S s Q q =>
  h Z F H σ X S s Q fun d v F1 H1 O1 S1 e1 r1 ⟨O2, hO, p⟩ => q d v F1 H1 O2 (S1.sub hO) e1 r1 p
end
end PyD
namespace PyH
open PySem PySem.Spec PyProof.Rows L2
noncomputable def mapO (K : PySem.W.Frag) (l : List He.DefD) : List He.FnW := List.rec (motive := fun _ => List He.FnW) [] (fun d _ r => He.fnW K d.at_ :: r) l
noncomputable def mapDV (l : List He.DefD) : List He.FnW := List.rec (motive := fun _ => List He.FnW) [] (fun d _ r => d.val :: r) l
noncomputable def mapX (K : PySem.W.Frag) (l : List ExD) : List FnI := List.rec (motive := fun _ => List FnI) [] (fun d _ r => initW K d.x :: r) l
noncomputable def mapXV (l : List ExD) : List FnI := List.rec (motive := fun _ => List FnI) [] (fun d _ r => d.val :: r) l
theorem mapO_eq (K : PySem.W.Frag) : ∀ fn : List He.DefD, mapO K fn = fn.map fun d => He.fnW K d.at_
  | [] => rfl
  | d :: ds => by rw [List.map_cons, ← mapO_eq K ds] <;> rfl
theorem mapDV_eq : ∀ fn : List He.DefD, mapDV fn = fn.map He.DefD.val
  | [] => rfl
  | d :: ds => by rw [List.map_cons, ← mapDV_eq ds] <;> rfl
theorem mapX_eq (K : PySem.W.Frag) : ∀ fn : List ExD, mapX K fn = fn.map fun d => initW K d.x
  | [] => rfl
  | d :: ds => by rw [List.map_cons, ← mapX_eq K ds] <;> rfl
theorem mapXV_eq : ∀ fn : List ExD, mapXV fn = fn.map ExD.val
  | [] => rfl
  | d :: ds => by rw [List.map_cons, ← mapXV_eq ds] <;> rfl
noncomputable def obsM (fa : List He.Fa) (fn : List He.DefD) (xs : List ExD) (ex : List (PySem.W.Frag → Bool)) (K : PySem.W.Frag) : AlK := (((fa.all fun f => f.ok K) && fn.all fun d => d.ok K, mapO K fn), (mapX K xs, ex.all fun f => f K))
noncomputable def valM (fn : List He.DefD) (xs : List ExD) : AlK := ((true, mapDV fn), (mapXV xs, true))
theorem obsM_eq {fa : List He.Fa} {fn : List He.DefD} {xs : List ExD} {ex : List (PySem.W.Frag → Bool)} {K : PySem.W.Frag} : obsM fa fn xs ex K = obsK fa fn xs ex K := by
  unfold obsM obsK He.obsD
  rw [mapO_eq, mapX_eq]
theorem valM_eq {fn : List He.DefD} {xs : List ExD} : valM fn xs = valK fn xs := by
  unfold valM valK He.valD
  rw [mapDV_eq, mapXV_eq]
/-- the objects that are reached from some, level by level; what is known stands in a number's bits -/
noncomputable def addN (as : List Addr) : Nat → List Addr → (Nat → List Addr → List Addr) → List Addr :=
  List.rec (motive := fun _ => Nat → List Addr → (Nat → List Addr → List Addr) → List Addr) (fun m acc k => k m acc)
    (fun a _ r m acc k => match Nat.testBit m a with
      | true => r m acc k
      | false => HandSHeadRun.frNat (Nat.lor m (Nat.shiftLeft 1 a)) fun m' => r m' (a :: acc) k) as
noncomputable def refsN (g : Addr → Option Obj) (fr : List Addr) : Nat → List Addr → (Nat → List Addr → List Addr) → List Addr :=
  List.rec (motive := fun _ => Nat → List Addr → (Nat → List Addr → List Addr) → List Addr) (fun m acc k => k m acc)
    (fun a _ r m acc k => match g a with
      | some o => addN (He.refsD o) m acc fun m' acc' => r m' acc' k
      | none => r m acc k) fr
noncomputable def bfs (g : Addr → Option Obj) : Nat → List Addr → Nat → List Addr := fun n =>
  Nat.rec (motive := fun _ => List Addr → Nat → List Addr) (fun fr _ => fr) (fun _ r fr m => fr ++ refsN g fr m [] fun m' nx => r nx m') n
noncomputable def asM (g : Addr → Option Obj) (n : Nat) : List Addr := addN [mainGlobals, cStatics] 0 [] fun m fr => bfs g n fr m
noncomputable def obsMG (n : Nat) (fa : List He.Fa) (fn : List He.DefD) (xs : List ExD) (ex : List (PySem.W.Frag → Bool)) (g : Addr → Option Obj) : AlK := obsM fa fn xs ex (He.frG g (asM g n))
noncomputable def hookM (n : Nat) (fa : List He.Fa) (fn : List He.DefD) (xs : List ExD) (ex : List (PySem.W.Frag → Bool)) : PySem.W.Hook where
  α := AlK
  obs := fun s => obsMG n fa fn xs ex s.heap.get?
  val := fun _ => valM fn xs
  says := fun _ h => ∃ K : PySem.W.Frag, K.In h ∧ SaysK fa fn xs ex K
  of := fun _ _ e => ⟨_, He.frG_in, obsM_eq.symm.trans (e.trans valM_eq)⟩
  keeps := fun _ _ _ ⟨K, hK, c⟩ k => ⟨K, PySem.W.Frag.In.keeps hK k, c⟩
theorem obsMG_eq {n : Nat} {fa : List He.Fa} {fn : List He.DefD} {xs : List ExD} {ex : List (PySem.W.Frag → Bool)} {g : Addr → Option Obj} {s : Shared} (h : ∀ a, g a = s.heap.get? a) : obsMG n fa fn xs ex g = (hookM n fa fn xs ex).obs s := by
  have e : g = s.heap.get? := funext h
  rw [e] <;> rfl
end PyH
namespace PyD
open PySem PySem.Spec L2
section
variable {K : PySem.W.Frag} {O : Ow} {P : D → Ow → Prop}
mutual
/-- data without objects -/
def plainB : D → Bool
  | .non => true
  | .bl _ => true
  | .int _ => true
  | .str s => PySem.PyData.strOk s
  | .lst xs => plainBs xs
  | .kl xs => plainBs xs
  | .tup xs => plainBs xs
  | _ => false
def plainBs : List D → Bool
  | [] => true
  | x :: xs => plainB x && plainBs xs
end
mutual
theorem Rp.dpB {F H : Hp} (e : Ex F H) : ∀ {d : D} {v : V}, Rp K F d v → plainB d = true → Dp K H v (toPd d)
  | _, _, .non, _ => .non
  | _, _, .bl b, _ => .bl b
  | _, _, .int i, _ => .int i
  | _, _, .str s, _ => .str s
  | _, _, .lst h r, p => .lst (SqL.of (e _ _ h)) (Rps.dpB e r p)
  | _, _, .kl h r, p => .lst (ex_l e h) (Rps.dpB e r p)
  | _, _, .tup h r, p => .tup (SqT.of (e _ _ h)) (Rps.dpB e r p)
  | _, _, .ref _, p => by cases p
  | _, _, .mut _, p => by cases p
  | _, _, .ty _, p => by cases p
  | _, _, .dK _ _ _, p => by cases p
  | _, _, .dT _ _ _, p => by cases p
  | _, _, .ins _ _ _, p => by cases p
  | _, _, .exc0 _ _, p => by cases p
  | _, _, .exc1 _ _ _, p => by cases p
theorem Rps.dpB {F H : Hp} (e : Ex F H) : ∀ {ds : List D} {vs : List V}, Rps K F ds vs → plainBs ds = true → DpAll K H vs (toPds ds)
  | _, _, .nil, _ => .nil
  | _, _, .cons a r, p => .cons (Rp.dpB e a (Bool.and_eq_true_iff.mp p).1) (Rps.dpB e r (Bool.and_eq_true_iff.mp p).2)
end
mutual
theorem canLay_pb : ∀ d : D, plainB d = true → (toPd d).canLay0 = true
  | .non, _ => rfl
  | .bl _, _ => rfl
  | .int _, _ => rfl
  | .str s, p => p
  | .lst xs, p => canLay_pbs xs p
  | .kl xs, p => canLay_pbs xs p
  | .tup xs, p => canLay_pbs xs p
  | .ref _, p => by cases p
  | .mut _, p => by cases p
  | .ty _, p => by cases p
  | .dK _, p => by cases p
  | .dT _, p => by cases p
  | .ins _ _, p => by cases p
  | .exc _ _ _ _, p => by cases p
theorem canLay_pbs : ∀ ds : List D, plainBs ds = true → PyData.canLayAll0 (toPds ds) = true
  | [], _ => rfl
  | d :: ds, p => Bool.and_eq_true_iff.mpr ⟨canLay_pb d (Bool.and_eq_true_iff.mp p).1, canLay_pbs ds (Bool.and_eq_true_iff.mp p).2⟩
end
mutual
theorem eqv_same : ∀ d : D, plainB d = true → PyData.eqv (toPd d) (toPd d) = true
  | .non, _ => by simp [toPd, PyData.eqv]
  | .bl b, _ => by simp [toPd, PyData.eqv]
  | .int i, _ => by simp [toPd, PyData.eqv]
  | .str s, _ => by simp [toPd, PyData.eqv]
  | .lst xs, p => by simp only [toPd, PyData.eqv]; exact eqvs_same xs p
  | .kl xs, p => by simp only [toPd, PyData.eqv]; exact eqvs_same xs p
  | .tup xs, p => by simp only [toPd, PyData.eqv]; exact eqvs_same xs p
  | .ref _, p => by cases p
  | .mut _, p => by cases p
  | .ty _, p => by cases p
  | .dK _, p => by cases p
  | .dT _, p => by cases p
  | .ins _ _, p => by cases p
  | .exc _ _ _ _, p => by cases p
theorem eqvs_same : ∀ ds : List D, plainBs ds = true → PyData.eqvAll (toPds ds) (toPds ds) = true
  | [], _ => by simp [toPds, PyData.eqvAll]
  | d :: ds, p => by
    simp only [toPds, PyData.eqvAll, Bool.and_eq_true]
    exact ⟨eqv_same d (Bool.and_eq_true_iff.mp p).1, eqvs_same ds (Bool.and_eq_true_iff.mp p).2⟩
end
theorem viewOf.dpB {Z : En0} {F H : Hp} {d e : D} {v : V} (h : viewOf O d e) (S : S0 K Z F H O) (r : Rp K F d v) (p : plainB e = true) : Dp K H v (toPd e) := by
  rcases h with rfl | ⟨a, b, xs, rfl, hm, rfl⟩
  · exact r.dpB S.ex p
  · cases r
    obtain ⟨_, ⟨vs, h2, h3⟩, _⟩ := S.own _ hm
    exact .lst (SqL.of h2) (h3.dpB S.ex p)
def shalB (d : D) : Prop := plainB d = true ∧ (toPd d).depth ≤ 64
theorem shalB.ok {d : D} (h : shalB d) : SeqAt.shaped (toPd d) = true := Bool.and_eq_true_iff.mpr ⟨canLay_pb d h.1, decide_eq_true h.2⟩
end
end PyD
namespace PyD
open PySem PySem.Spec L2 PyC PyI
section
variable {K : PySem.W.Frag} {W : WX} {ex : Ek} {G : Gm} {O : Ow} {P : D → Ow → Prop} {aa : TA}
section
variable {F : Hp} {A : Ow} (hA : ∀ y ∈ A.map Ob.a, ∃ ws, F y = some (.lst ws))
include hA
end
/-- owned lists told as they stand -/
inductive Tl (A : Ow) : List D → List D → Prop where
  | nil : Tl A [] []
  | same {d : D} {ds es : List D} : Tl A ds es → Tl A (d :: ds) (d :: es)
  | own {p : Ob} {ds es : List D} : p ∈ A → Tl A ds es → Tl A (.mut p.a :: ds) (p.d :: es)
theorem Tl.rp {F F1 : Hp} {A : Ow} (e : Ex F F1) (hA : ∀ p ∈ A, Rp K F1 p.d (.ref p.a)) : ∀ {ds es : List D} {vs : List V}, Tl A ds es → Rps K F ds vs → Rps K F1 es vs
  | _, _, _, .nil, r => by cases r; exact .nil
  | _, _, _, .same t, r => by
    cases r with
    | cons a r => exact .cons (a.mono e) (Tl.rp e hA t r)
  | _, _, _, .own hp t, r => by
    cases r with
    | cons a r =>
      cases a
      exact .cons (hA _ hp) (Tl.rp e hA t r)
end
end PyD
namespace L2
open PySem PySem.Spec PyProof.Rows
end L2
namespace PyD
open PySem PySem.Spec L2 PyC PyI
end PyD
namespace PySem
namespace OwnX0
open PySem.W PySem.Calls PyProof.Rows PySem.HandSPX
open OwnX (sup SupOk bw_call)
def iA (p1 : Pos) : Arguments := { posonlyargs := [], args := [{ arg := "self", annotation := none, pos := p1 }], vararg := none, kwonlyargs := [], kw_defaults := [], kwarg := none, defaults := [] }
def iB (msg : Expr) (q0 q1 q2 q3 q4 : Pos) : List Stmt := [sup q0 q1 q2 q3 q4 msg]
def iS : Scope := { kind := .function, names := [(PySem.Str.ofString "self", .local), (PySem.Str.ofString "__class__", .free), (PySem.Str.ofString "super", .globalImplicit)], isGenerator := false, isCoroutine := false, more := [] }
/-- what the written part says of the class at C and of its __init__, at fI -/
structure Txt (prog : Program) (K : Frag) (msg : Expr) (C fI : Addr) : Prop where
  cls : ∃ nm q N bs bm sn sub ab col dd k0 k1 k2 k3 k5, K.lookup C = some (excClassObj nm q C N bs bm true sn sub ab col dd k0 k1 k2 k3 k5 "ValueError.__new__") ∧ refsVE bm = true
  iC : findIn K (.ref C) "__init__" = some (some (.ref fI))
  tC : typeIn K (.ref fI) = some (.type "function")
  opq : nsIn K cStatics "thirdparty.any" = some none
  along : ks_superIn K C C "__init__" = some (some (.builtin "ValueError.__init__"))
  subB : subIn K (.ref C) (.type "ValueError") = some true
  subC : mroIn K C (.ref C) = some true
  top : (prog.main.scope.names.lookup ("super" : Str)).isSome = false
  fn : ∃ (oc : Value) (od : Option Addr) (doc pm : Value) (an : Option Addr) (cda cc : Addr) (ct : Value) (osl : Array (Option Value)) (qual : Str) (p1 q0 q1 q2 q3 q4 : Pos) (ccl cl : Value) (cdd cld : Option Addr) (vs : Array Value) (ccs csl : Array (Option Value)) (file : Str) (tf : Tok),
    K.lookup fI = some ⟨oc, od, .func (fnX "__init__" qual (iA p1) (iB msg q0 q1 q2 q3 q4) iS [("__class__", cc)] .none .none doc pm an (.ref cda) ct), osl⟩ ∧ codeIn K (.ref cda) qual = true ∧
    K.lookup cda = some ⟨ccl, cdd, .fields vs, ccs⟩ ∧ vs[2]? = some (.str file tf) ∧ ((prog.main.file : Str) == file) = true ∧ K.lookup cc = some ⟨cl, cld, .cell (some (.ref C)), csl⟩ ∧ SupOk msg q0 q1 q2 q3
/-- what __init__ leaves of a fresh exception at x -/
structure InitEnd (h h' : Heap) (x C t1 : Addr) : Prop where
  keep : ∀ b o, b ≠ x → h.get? b = some o → h'.get? b = some o
  obj : h'.get? x = some (excO C t1)
/-- the message's evaluation -/
def MsgOk (prog : Program) (w : World) (msg : Expr) : Prop :=
  ∀ (A : Around) (env : Env) (s : Shared) (Q : Value → Shared → Prop) (E : Value → Shared → Prop),
    (∀ v' h' tk, (∀ b o, s.heap.get? b = some o → h'.get? b = some o) → Q v' { s with heap := h', toks := tk }) → wpAny (model prog w) A (eval msg env) Q E s
section
variable {prog : Program} {w : World} {A : Around} {R : Result → Shared → Prop} {s : Shared} {K : Frag} {mg mb : Str → Option Value} {msg : Expr} {C fI : Addr}
theorem own_init (T : Txt prog K msg C fI) {x t0 : Addr} (X : K.In s.heap) (hlim : s.heap.NoLimit) (hG : s.heap.Ns mainGlobals mg) (hsup : mg "super" = none) (hB : s.heap.Ns builtinsNs mb) (hblt : ∀ x : Str, x ≠ "__name__" → mb x = bootBuiltins x)
    (hx : s.heap.get? x = some (excO C t0)) (hroom : A.depth < recursionLimit) (hmsg : MsgOk prog w msg)
    (hq : ∀ h' tk t1, InitEnd s.heap h' x C t1 → R (.ok (.ret .none)) { s with heap := h', toks := tk }) :
    codeAny (model prog w) A (.call (.ref fI) ⟨[.ref x], []⟩) R s := by
  obtain ⟨oc, od, doc, pm, an, cda, cc, ct, osl, qual, p1, q0, q1, q2, q3, q4, ccl, cl, cdd, cld, vs, ccs, csl, file, tf, ho, hcd, hcode, hvs, hfile, hcell, hmc⟩ := T.fn
  obtain ⟨nm, q, N, bs, bm, sn, sub, ab, col, dd, k0, k1, k2, k3, k5, hC, hbm⟩ := T.cls
  have hcl : clsIn K C = some { name := nm, bases := bs, mro := .ref C :: bm, ns := N, qualname := q, hasDict := true, slotNames := sn, subclasses := sub, abstract := ab, collection := col, hasDel := false } := by unfold clsIn; rw [hC] <;> rfl
  have lself : iS.names.lookup ("self" : Str) = some .local := rfl
  have lsup : iS.names.lookup ("super" : Str) = some .globalImplicit := by decide +kernel
  have lcls : iS.names.lookup ("__class__" : Str) = some .free := by decide +kernel
  obtain ⟨hp, g, dr, tk, os⟩ := s
  refine ks_codeAny_call_defAt (fd := fnX "__init__" qual (iA p1) (iB msg q0 q1 q2 q3 q4) iS [("__class__", cc)] .none .none doc pm an (.ref cda) ct) (body := iB msg q0 q1 q2 q3 q4) (binds := [(("self" : Str), .ref x)])
    hroom (X _ _ ho) rfl hlim (codeRec_of X hcd) rfl (BindsTo.of_eq ?_) ?_ ?_ (fun h1 hn k => ?_) rfl rfl rfl
  · rfl
  · intro y hy
    simp only [fnX, iS, List.mem_cons, List.not_mem_nil, or_false] at hy
    rcases hy with rfl | rfl | rfl <;> (intro z; cases z)
  · intro y hy
    simp only [List.mem_cons, List.not_mem_nil, or_false] at hy
    subst hy
    exact lself
  · have hx1 := k _ _ hx
    have X1 : K.In h1 := X.keeps k
    have xL : hp.objs.size ≠ x := Nat.ne_of_gt (Heap.lt_size hx)
    have mself : (([(("self" : Str), Value.ref x)] : List (Str × Value)).reverse.lookup ("self" : Str)) = some (.ref x) := rfl
    refine ks_wpAt_execs_cons (ks_wpAt_Expr_any ?_ rfl ?_)
    · obtain ⟨hstar, pl, hpl⟩ := hmc (callEnv (fnX "__init__" qual (iA p1) (iB msg q0 q1 q2 q3 q4) iS [("__class__", cc)] .none .none doc pm an (.ref cda) ct) hp.objs.size fI)
      refine ks_wpAt_MethodCall ?hh hpl
      · refine ks_wpAt_super_base (env := callEnv (fnX "__init__" qual (iA p1) (iB msg q0 q1 q2 q3 q4) iS [("__class__", cc)] .none .none doc pm an (.ref cda) ct) hp.objs.size fI)
          lsup lcls (by decide) rfl (X1 _ _ ho) rfl (ar := { arg := "self", annotation := none, pos := p1 }) rfl rfl (X1 _ _ hcode) rfl hvs hfile T.top ?_
        have G1 : h1.Ns mainGlobals mg := hG.keeps k
        have B1 : h1.Ns builtinsNs mb := hB.keeps k
        have I1 : InstAt h1 x (excO C t0) C none := ⟨hx1, rfl, rfl, trivial⟩
        refine ks_loadName_global rfl lsup (loadGlobal_builtin (env := callEnv _ hp.objs.size fI) G1 hsup B1 ((hblt _ (by decide +kernel)).trans (by first | boot_by_name | rfl | kernel_rfl)) ⟨rfl, ?_⟩)
        refine wpAny_loadName_free rfl lcls rfl ⟨_, X1 _ _ hcell, rfl⟩ ?_
        refine wpAny_loadName_local rfl lself hn mself ?_
        refine ks_wpAny_isType_cls (X1 _ _ hC) rfl ⟨rfl, ?_⟩
        refine ks_wpAny_call_super (X1 _ _ hC) rfl hx1 rfl (fun c e => by cases e) (looks_mroIn X1 T.subC) (fun h2 e2 k2 => ?_)
        have X2 : K.In h2 := X1.keeps k2
        have hx2 := k2 _ _ hx1
        have I2 : InstAt h2 x (excO C t0) C none := ⟨hx2, rfl, rfl, trivial⟩
        have hal := T.along
        unfold ks_superIn at hal
        rw [hcl] at hal
        refine kxs_getMethod kxs_ValueError e2 (looks_opaque X2 T.opq) (l₀ := .ref C :: bm) (fun A Q E s k q => wpAny_bind ((looks_clsIn X2 hcl) A _ E s k (wpAny_pure q))) rfl X2 hal (I2.type.andThen (looks_subIn X2 T.subB)) (ks_ne X2 I2 hcl) (by decide) ?_
        have k3 : ∀ b o, h2.get? b = some o → (h2.push (kxs_mw "ValueError.__init__" x)).get? b = some o := fun b o e => Heap.get?_push_of_some _ e
        have hu3 : (h2.push (kxs_mw "ValueError.__init__" x)).get? h2.objs.size = some (kxs_mw "ValueError.__init__" x) := Heap.get?_push_at rfl rfl
        show wpAny _ _ (callWith q3 (.ref h2.objs.size) [] (backTo q3 (starEach [msg] _)) []) _ _ _
        rw [hstar]
        refine kxs_callWith (i := "ValueError.__init__") (x := x) ?_ ?_
        · rfl
        · refine evalArgs_plain ?_
          refine Calls.spliced_cons ?_
          refine hmsg _ _ _ _ _ fun v' h4 tk4 k4 => ?_
          refine Calls.spliced_nil ?_
          have k24 : ∀ b o, h2.get? b = some o → h4.get? b = some o := fun b o e => k4 b o (k3 b o e)
          refine ⟨k4 _ _ hu3, ?_⟩
          refine bw_call (e := x) ((X2.keeps k24) _ _ hC) (k24 _ _ hx2) (k4 _ _ hu3) (by show 1 ≤ sizeLine; decide) fun h5 t1 k5 hx5 => ?_
          have k15 : ∀ b o, b ≠ x → h1.get? b = some o → h5.get? b = some o := fun b o hb e => k5 b o hb (k24 b o (k2 b o e))
          show wpAt _ _ _ (execs _ _) _ _ _
          exact wpAt_of_wpAny (wpAny_execs_nil (hq h5 tk4 t1 ⟨fun b o hb e => k15 b o hb (k b o e), hx5⟩))
    · rfl
/-- a made exception -/
structure OwnMade (h h' : Heap) (e C : Addr) : Prop where
  keep : ∀ b o, h.get? b = some o → h'.get? b = some o
  new : h.objs.size ≤ e
  obj : ∃ t1, h'.get? e = some (excO C t1)
theorem own_made (T : Txt prog K msg C fI) (X : K.In s.heap) (hlim : s.heap.NoLimit) (hG : s.heap.Ns mainGlobals mg) (hsup : mg "super" = none) (hB : s.heap.Ns builtinsNs mb) (hblt : ∀ x : Str, x ≠ "__name__" → mb x = bootBuiltins x)
    (hroom : A.depth + 1 < recursionLimit) (hmsg : MsgOk prog w msg)
    (hq : ∀ h' tk e, OwnMade s.heap h' e C → R (.ok (.ret (.ref e))) { s with heap := h', toks := tk }) :
    codeAny (model prog w) A (.call (.ref C) ⟨[], []⟩) R s := by
  obtain ⟨nm, q, N, bs, bm, sn, sub, ab, col, dd, k0, k1, k2, k3, k5, hC, hbm⟩ := T.cls
  obtain ⟨hp, g, dr, tk, os⟩ := s
  have k : ∀ b o, hp.get? b = some o → ((hp.push (kdv_tup [])).push (excO C hp.objs.size)).get? b = some o := fun b o e => Heap.get?_push_of_some _ (Heap.get?_push_of_some _ e)
  have hget : ((hp.push (kdv_tup [])).push (excO C hp.objs.size)).get? (hp.objs.size + 1) = some (excO C hp.objs.size) := by heap_get
  refine call_own F.excBase_ValueError (fun X => refsVE_contains X bm hbm) (X _ _ hC) (looks_findIn X T.iC) (fun self => bind_fn X self T.tC) (by show 0 ≤ sizeLine; exact Nat.zero_le _) ?_
  refine own_init (s := ⟨(hp.push (kdv_tup [])).push (excO C hp.objs.size), g, dr, tk, os⟩) T (X.keeps k) (hlim.keeps k) (hG.keeps k) hsup (hB.keeps k) hblt hget ?_ hmsg fun h' tk' t1 ⟨k', hx⟩ => ?_
  · show A.depth + 1 < recursionLimit
    exact hroom
  · have old : ∀ b o, hp.get? b = some o → h'.get? b = some o := fun b o e => k' b o (Nat.ne_of_lt (Nat.lt_succ_of_lt (Heap.lt_size e))) (k b o e)
    exact ⟨rfl, hq h' tk' (hp.objs.size + 1) ⟨old, Nat.le_succ _, t1, hx⟩⟩
end
end OwnX0
end PySem
namespace L2
open PySem PySem.Spec PyProof.Rows
end L2
namespace PyE
open PySem PySem.Spec PyProof.Rows L2 PyD PyT
end PyE
namespace PyH
open PySem PySem.Spec PyProof.Rows L2
end PyH
namespace L2
open PySem PySem.Spec PyProof.Rows
end L2
namespace PyD
open PySem PySem.Spec L2
end PyD
namespace PyD
open PySem PySem.Spec L2 PyC PyI
section
variable {K : PySem.W.Frag} {W : WX} {ex : Ek} {G : Gm} {O : Ow} {P : D → Ow → Prop} {tt : TT} {te : TE}
def ownOb (c : Addr) (o : List Int) : Ob := ⟨c, true, L o⟩
def ownOf (cs : List Addr) (gs : List (List Int)) : Ow := (List.zipWith ownOb cs gs).reverse
/-- [list(o) for o in gs], each row one's own -/
theorem wpE_lcOwn {wi : TI} {g : TG} {vs : List Nat} {gs : List (List Int)} (hg : gIn vs g) (gm : gMono g)
    (h : wpI K W ex wi G O fun xs C O1 => xs = gs.map L ∧ gs.length < sizeLine ∧ (∀ O2, C (O2 ++ O1)) ∧ (∀ (i : Nat) (a : List Int) (O2 : Ow), gs[i]? = some a → wpG K g (L a) (wipeG G vs) (O2 ++ O1) fun G2 O3 => O3 = O2 ++ O1 ∧ wpE K W ex te G2 (O2 ++ O1) fun y O4 => ∃ c, y = .mut c ∧ O4 = ownOb c a :: (O2 ++ O1)) ∧
      ∀ cs : List Addr, cs.length = gs.length → P (.lst (cs.map D.mut)) (ownOf cs gs ++ O1)) :
    wpE K W ex (tLc wi g tYes te vs) G O P := by
  refine wpE_lc true hg gm fun Z F H σ X S s R q => h Z F H σ X S s R fun J xs C F1 H1 O1 S1 e1 w p => q J xs C F1 H1 O1 S1 e1 w ?_
  obtain ⟨h1, h2, h3, h4, h5⟩ := p
  subst h1
  refine ⟨by rw [List.length_map]; exact h2, fun i acc O' => ∃ cs : List Addr, cs.length = i ∧ i ≤ gs.length ∧ acc = cs.map D.mut ∧ O' = ownOf cs (gs.take i) ++ O1, ⟨[], rfl, Nat.zero_le _, rfl, rfl⟩, ?_, ?_, ?_⟩
  · rintro i acc O' hi ⟨cs, _, _, _, rfl⟩
    exact h3 _
  · rintro i x acc O' hx ⟨cs, hc, hi, rfl, rfl⟩
    rw [List.getElem?_map] at hx
    cases ha : gs[i]? with
    | none => rw [ha] at hx; cases hx
    | some a =>
      rw [ha] at hx
      cases hx
      have hil := (List.getElem?_eq_some_iff.mp ha).1
      intro Z F H σ v S s r Q q
      refine h4 i a _ ha Z F H σ v S s r Q fun F' H' σ' G' O' S' s' e' ⟨k1, k2⟩ => q F' H' σ' G' O' S' s' e' ?_
      rw [k1]
      refine wpT_yes ⟨fun _ => wpE_mono k2 fun y O4 ⟨c, z1, z2⟩ => ⟨cs ++ [c], by rw [List.length_append, hc] <;> rfl, hil, ?_, ?_⟩, fun h => (by cases h)⟩
      · rw [z1, List.map_append] <;> rfl
      · have et : gs.take (i + 1) = gs.take i ++ [a] := by rw [List.take_succ, ha] <;> rfl
        have el : cs.length = (gs.take i).length := by rw [List.length_take, hc]; omega
        unfold ownOf
        rw [z2, et, List.zipWith_append el, List.reverse_append] <;> rfl
  · rintro acc O' ⟨cs, hc, _, rfl, rfl⟩
    rw [List.length_map] at hc
    rw [List.length_map, List.take_length]
    exact h5 cs hc
inductive views (O : Ow) : List D → List D → Prop where
  | nil : views O [] []
  | cons {d e : D} {ds es : List D} (h : viewOf O d e) (r : views O ds es) : views O (d :: ds) (e :: es)
theorem views.dpB {Z : En0} {F H : Hp} {ds es : List D} (h : views O ds es) (S : S0 K Z F H O) : ∀ {vs : List V}, Rps K F ds vs → plainBs es = true → DpAll K H vs (toPds es) := by
  induction h with
  | nil =>
    intro vs r p
    cases r
    exact .nil
  | cons h _ ih =>
    intro vs r p
    cases r with
    | cons ra rb => exact .cons (h.dpB S ra (Bool.and_eq_true_iff.mp p).1) (ih rb (Bool.and_eq_true_iff.mp p).2)
theorem wpR_neVs {x y : D} {ds es fs : List D} (ex' : x = .lst ds) (h : views O ds es) (hy : viewOf O y (.lst fs)) (sd : shalB (.lst es)) (se : shalB (.lst fs)) (p : P (.bl (!PyData.eqv (toPd (.lst es)) (toPd (.lst fs)))) O) : wpR K (rNeA K) x y O P := fun Z F H vx vy S rx ry Q q => by
  subst ex'
  cases rx with
  | lst h1 r1 =>
    refine .inr ⟨_, _, ?_, hy.dpB S ry se.1, sd.ok, se.ok, q _ _ F H O S (Ex.refl F) (.bl _) p⟩
    exact .lst (SqL.of (S.ex _ _ h1)) (h.dpB S r1 sd.1)
end
end PyD
namespace L2
open PySem PySem.Spec PyProof.Rows
def eqb (k : Bool) (v : Value) : Bool := match v with
  | .bool n => n == k
  | _ => false
theorem eqb_at {k : Bool} : ∀ {us : List Value} {ns : List Bool}, Vals (ns.map V.bl) us → (∀ (A : Around) (s : Shared), ∀ y ∈ us, SeqAt.EqAt A s y (.bool k) (eqb k y)) ∧ us.countP (eqb k) = ns.count k
  | us, [], r => by
    rw [List.map_nil] at r
    cases r
    exact ⟨fun A s y hy => (by cases hy), rfl⟩
  | us, n :: ns, r => by
    rw [List.map_cons] at r
    cases r with
    | cons r1 r2 =>
      cases r1
      obtain ⟨h1, h2⟩ := eqb_at (k := k) r2
      refine ⟨fun A s y hy => ?_, ?_⟩
      · rcases List.mem_cons.mp hy with rfl | hy
        · exact SeqAt.EqAt.bool_bool n k
        · exact h1 A s y hy
      · rw [List.countP_cons, List.count_cons, h2] <;> rfl
section
variable {X : Cx}
def rCntB (K : PySem.W.Frag) : V → List V → Hp → VK → Prop := fun x xs H Q => ∃ (p : Addr) (ns : List Bool) (k : Bool), x = .ref p ∧ xs = [.bl k] ∧ SqL K H p (ns.map V.bl) ∧ Q (.int (ns.count k : Nat)) H
theorem mt_bcount : MtR X "list.count" (rCntB X.K) := by
  intro pins s σ H x xs v us Q I rx rxs h
  obtain ⟨p, ns, k, rfl, rfl, hs, q⟩ := h
  cases rx
  obtain ⟨u, rfl, ru⟩ := rxs.one
  cases ru
  obtain ⟨its, rv, ⟨⟨cls, dd, data, sl⟩, n, ho, hc, hdn, hd⟩, hlen⟩ := I.list hs
  simp only at hc hd
  subst hc hd
  obtain ⟨e1, e2⟩ := eqb_at (k := k) rv
  refine call_meets PySem.F.slot_list_count ⟨_, ho, rfl⟩ PySem.F.entry_list_count (PySem.F.args_list_count_2 _ _)
    (SeqAt.list_countAt p its.toArray n dd sl (.bool k) (eqb k)) ⟨ho, fun y hy => e1 _ _ y (by simpa using hy), ?_⟩
  have ec : its.toArray.toList.countP (eqb k) = ns.count k := e2
  refine ⟨.int (ns.count k : Nat), H, I.tok _, ⟨s.toks, ?_⟩, q⟩
  show Value.int ((its.toArray.toList.countP (eqb k) : Nat) : Int) s.toks = Value.int ((ns.count k : Nat) : Int) s.toks
  rw [ec]
/-- l.count(x) of ints or of bools -/
def rCntA (K : PySem.W.Frag) : V → List V → Hp → VK → Prop := fun x xs H Q => rCntI K x xs H Q ∨ rCntB K x xs H Q
theorem mt_cnt : MtR X "list.count" (rCntA X.K) := fun pins s σ H x xs v us Q I rx rxs h => h.elim (fun h => mt_lcount pins s σ H x xs v us Q I rx rxs h) fun h => mt_bcount pins s σ H x xs v us Q I rx rxs h
end
end L2
namespace PyD
open PySem PySem.Spec L2
section
variable {K : PySem.W.Frag} {O : Ow} {P : D → Ow → Prop}
theorem wpM_countB {x : D} {ns : List Bool} {k : Bool} (hx : seqOf O x (ns.map D.bl)) (p : P (.int (ns.count k : Nat)) O) : wpM K (rCntA K) x [.bl k] O P := fun Z F H vx vs S rx r Q q => by
  cases r with
  | cons ra rb =>
    cases rb
    cases ra
    obtain ⟨a, vs, rfl, ha, rv⟩ := hx.at S rx
    have e := rv.bls
    subst e
    exact .inr ⟨a, ns, k, rfl, rfl, ha, q _ _ F H O S (Ex.refl F) (.int _) p⟩
end
end PyD
namespace L2
open PySem PySem.Spec PyProof.Rows
section
variable {prog : Program} {w : World} {A : Around} {E : Value → Shared → Prop} {s : Shared}
theorem collect_rawD {R : List Value → Shared → Prop} {d : Addr} {o : Obj} {es : Array DictEntry} {ep : Nat} (lo : (d == sysModules) = false) (hm : s.heap.get? d = some o) (hx : o.ExactDict) (hd : o.data = .dict es ep) (hh : A.handled = none) (hn : es.size ≤ sizeLine)
    (h : ∀ (h' : Heap) (tk : Nat) (acc : Array Value), (∀ b o, s.heap.get? b = some o → h'.get? b = some o) → s.heap.objs.size < h'.objs.size → ItemsOf (fun i v => ∃ en : DictEntry, es[i]? = some en ∧ v = en.key) acc es.size → R acc.toList { s with heap := h', toks := tk }) :
    wpAny (model prog w) A (collect (.ref d)) R E s := by
  have K := kdl_raw (prog := prog) (w := w) lo hx hd
  have hlt := K.there _ hm
  unfold collect
  refine wpAny_bind (wpAny_runValue (codeAny_builtin entry_proto_collect' ?_))
  rw [Around.under_plainId PySem.F.plain_proto_collect _]
  show wpAny _ A.in1 (newList [] >>= fun l => again (.builtin "list.__iadd__" ⟨[l, .ref d], []⟩)) _ _ s
  refine wpAny_bind (wpAny_newObj_type ?_)
  refine wpAny_pure ⟨plainId_quiet PySem.F.plain_list_iadd _, codeAny_builtin entry_list_iadd' ?_⟩
  rw [Around.under_plainId PySem.F.plain_list_iadd _]
  have hS : (s.heap.push { cls := .type "list", data := .seq ([] : List Value).toArray }).get? s.heap.objs.size = some { cls := .type "list", data := .seq #[] } := Heap.get?_push_size _ rfl
  show wpAny _ A.in1 (Builtin.List.listExtendWith (.ref s.heap.objs.size) (.ref d) (.ref s.heap.objs.size)) _ _ _
  have key := PySem.W.kdl_extend (A := A) (s := { s with heap := s.heap.push { cls := .type "list", data := .seq ([] : List Value).toArray } })
    (R := fun (q : Result) (s' : Shared) => ∃ (h' : Heap) (tk : Nat) (acc' : Array Value) (c' : Nat), q = .ok (.ret (.ref s.heap.objs.size)) ∧ s' = { s with heap := h', toks := tk } ∧
      (∀ b o, s.heap.get? b = some o → h'.get? b = some o) ∧ h'.get? s.heap.objs.size = some { cls := .type "list", dict := none, data := .seq acc' c', slots := #[] } ∧ ItemsOf (fun i v => ∃ en : DictEntry, es[i]? = some en ∧ v = en.key) acc' es.size)
    K hh (K.keep _ _ hm fun b _ o e => Heap.get?_push_of_some _ e) s.heap.objs.size (Nat.ne_of_gt hlt.1) (Nat.ne_of_gt hlt.2) (.ref s.heap.objs.size) 0 hS
    (fun h' tk acc' c' hk hS' hacc => ⟨h', tk, acc', c', rfl, rfl, fun b o e => hk b o (Nat.ne_of_lt (Heap.lt_size e)) (Heap.get?_push_of_some _ e), hS', hacc⟩) hn
  refine wpAny_mono key (fun fin s' x => ?_) fun e s' x => ?_
  · cases fin with
    | done f =>
      obtain ⟨h', tk, acc', c', e, rfl, hk, hS', hacc⟩ := x
      cases e
      show wpAny _ A (load s.heap.objs.size >>= _) _ _ _
      refine wpAny_bind (wpAny_load hS' ?_)
      exact wpAny_pure (h h' tk acc' hk (Heap.lt_size hS') hacc)
    | again c₁ =>
      refine ⟨x.1, codeAny_mono x.2 fun q s₂ y => ?_⟩
      obtain ⟨h', tk, acc', c', rfl, rfl, hk, hS', hacc⟩ := y
      show wpAny _ A (load s.heap.objs.size >>= _) _ _ _
      refine wpAny_bind (wpAny_load hS' ?_)
      exact wpAny_pure (h h' tk acc' hk (Heap.lt_size hS') hacc)
  · obtain ⟨_, _, _, _, e', _⟩ := x
    cases e'
theorem sorted_rawD {d : Addr} {o : Obj} {es : Array DictEntry} {ep : Nat} {k : Value → Int × Int} {Q : Value → Shared → Prop} {vs : List Value} (lo : (d == sysModules) = false) (hm : s.heap.get? d = some o) (hx : o.ExactDict) (hd : o.data = .dict es ep) (hh : A.handled = none)
    (hz : es.size ≤ sizeLine) (ev : vs = es.toList.map (·.key)) (hp : ∀ v ∈ vs, Srt.IsPair s.heap v (k v).1 (k v).2)
    (h : ∀ (h' : Heap) (tk : Nat) (d' : Addr) (out : List Value), SrtO.Srtd (fun v u => SrtO.lexB (k v) (k u)) out → SrtO.Stb (fun v u => SrtO.lexB (k v) (k u)) out vs → (∀ b o, s.heap.get? b = some o → h'.get? b = some o) → s.heap.objs.size ≤ d' → (∃ n, h'.get? d' = some (seqObj "list" out.toArray n)) → Q (.ref d') { s with heap := h', toks := tk }) :
    wpAny (model prog w) A (call (.builtin "sorted") [.ref d]) Q E s := by
  refine Calls.call_function_entry kind_sorted plain_sorted entry_sorted (args_sorted1 _) ?_
  unfold Builtin.«sorted»
  refine wpAny_bind (m := checkCount "sorted" 1 1 _) (wpAny_pure ?_)
  refine wpAny_bind (collect_rawD (A := A.in1) lo hm hx hd hh hz fun h' tk acc hk hlt hacc => ?_)
  have hl : vs.length = es.size := by rw [ev, List.length_map, Array.length_toList]
  have ea : acc.toList = vs := by
    have h1 : acc.toList.length = es.size := by rw [Array.length_toList]; exact hacc.1
    rw [ev]
    apply List.ext_getElem?
    intro j
    rw [List.getElem?_map]
    cases hj : acc.toList[j]? with
    | none =>
      have h2 := List.getElem?_eq_none_iff.mp hj
      rw [List.getElem?_eq_none (by rw [Array.length_toList]; omega)]
      rfl
    | some v =>
      obtain ⟨en, hen, hv⟩ := hacc.2 j v (by rw [← Array.getElem?_toList]; exact hj)
      rw [Array.getElem?_toList, hen, hv]
      rfl
  rw [ea]
  have hzv : vs.length ≤ sizeLine := by rw [hl]; exact hz
  refine wpAny_bind (wpAny_newList ?_ hzv)
  have hoL : (h'.push { cls := .type "list", data := .seq vs.toArray }).get? h'.objs.size = some (seqObj "list" vs.toArray 0) := Heap.get?_push_size _ rfl
  have keep : ∀ b o, s.heap.get? b = some o → b ≠ h'.objs.size ∧ (h'.push { cls := .type "list", data := .seq vs.toArray }).get? b = some o := fun b o q => ⟨Nat.ne_of_lt (Heap.lt_size (hk b o q)), Heap.get?_push_of_some _ (hk b o q)⟩
  refine wpAny_bind (wpAny_holding (wpAny_call_entry slot_list_sort ⟨_, hoL, rfl⟩ entry_list_sort (SrtO.list_sort_ord (SrtO.swo_lex k) hoL hzv (fun h2 => SrtO.pairs_sortableO (s := { s with heap := h'.push { cls := .type "list", data := .seq vs.toArray }, toks := tk }) (by omega) (fun v hm => (hp v hm).keeps fun b o e _ => (keep b o e).2) fun o e => ?_) fun out hs hb => ⟨_, rfl, ?_⟩) (args_list_sort _)))
  · have e' : some o = some (seqObj "list" vs.toArray 0) := e.symm.trans hoL
    cases e'
    intro c
    exact absurd (Value.type.inj c) (by decide)
  · refine wpAny_pure ⟨_, rfl, h _ tk _ out hs hb (fun b o e => ?_) ?_ (sortedHeap_at hoL)⟩
    · exact (sortedHeap_old (keep b o e).1 (Heap.lt_size (keep b o e).2)).trans (keep b o e).2
    · exact Nat.le_of_lt hlt
end
/-- sorted(d), the keys of d pairs of ints: ks the pairs with the places of the keys -/
def rSortTD (K : PySem.W.Frag) : List V → Hp → VK → Prop := fun vs H Q => ∃ (a : Addr) (kvs : List (List Key × V)) (ps : List (Int × Int)), vs = [V.ref a] ∧ Rd H a (.dT kvs) ∧ kvs.map (·.1) = ps.map (fun p => [(Sum.inl p.1 : Key), Sum.inl p.2]) ∧
  ∀ (ls : List (Addr × (Int × Int))) (p : Addr), (ls.map (·.2)).Perm ps → ls.Pairwise (fun x y => x.2.1 < y.2.1 ∨ x.2.1 = y.2.1 ∧ x.2.2 ≤ y.2.2) → (∀ q ∈ ls, H q.1 = some (.tup [.int q.2.1, .int q.2.2])) → H p = none → Q (.ref p) (upd H p (.lst (ls.map fun p => V.ref p.1)))
theorem ks_of {H : Hp} : ∀ {kvs : List (List Key × V)} {xs : List (List Key × Addr × Value)} {ps : List (Int × Int)}, KT H kvs xs → kvs.map (·.1) = ps.map (fun p => [(Sum.inl p.1 : Key), Sum.inl p.2]) →
    ∃ ks : List (Addr × (Int × Int)), ks.map (·.2) = ps ∧ ks.map (·.1) = xs.map (fun x => x.2.1) ∧ ∀ q ∈ ks, H q.1 = some (.tup [.int q.2.1, .int q.2.2])
  | _, _, ps, Paired.nil, e => by
    cases ps with
    | nil => exact ⟨[], rfl, rfl, fun _ h => nomatch h⟩
    | cons _ _ => cases e
  | _, _, ps, Paired.cons (a := p) (b := q) (l₁ := kvs) (l₂ := xs) h t, e => by
    cases ps with
    | nil => cases e
    | cons r ps =>
      rw [List.map_cons, List.map_cons] at e
      injection e with e1 e2
      obtain ⟨ks, h1, h2, h3⟩ := ks_of t e2
      refine ⟨(q.2.1, r) :: ks, by rw [List.map_cons, h1], by rw [List.map_cons, List.map_cons, h2], fun z hz => ?_⟩
      rcases List.mem_cons.mp hz with rfl | hz
      · have h4 := h.2.1
        rw [e1] at h4
        exact h4
      · exact h3 z hz
section
variable {X : Cx}
theorem cr_sortTD (hc : X.calm = true) : CallR X (.builtin "sorted") (rSortTD X.K) := by
  intro pins s σ H vs us Q I r h
  obtain ⟨a, kvs, ps, rfl, hd, hk, q⟩ := h
  obtain ⟨u, rfl, ru⟩ := vals1 r
  obtain rfl : u = Value.ref a := ru
  obtain ⟨z, hs, xs, pr, o, es, ep, ho, hx, hdt, he, hn⟩ := (show ObjOk X.prog X.w H s.heap a (.dT kvs) from hd.ok I.hok)
  have l1 : es.size = xs.length := size_of_entries he
  have l2 : kvs.length = xs.length := Paired.length pr
  obtain ⟨ks, k1, k2, k3⟩ := ks_of pr hk
  -- a place says its pair
  have one : ∀ p ∈ ks, ∀ p' ∈ ks, p.1 = p'.1 → p = p' := fun p hp p' hp' e => by
    have h1 := k3 p hp
    have h2 := k3 p' hp'
    rw [← e, h1] at h2
    obtain ⟨b, i, j⟩ := p
    obtain ⟨b', i', j'⟩ := p'
    dsimp only at e
    subst e
    simp at h2
    rw [h2.1, h2.2]
  let k : Addr → Int × Int := fun b => (ks.lookup b).getD (0, 0)
  have kk : ∀ p ∈ ks, k p.1 = p.2 := fun p hp => by
    show (ks.lookup p.1).getD (0, 0) = p.2
    have : ∃ v, ks.lookup p.1 = some v ∧ (p.1, v) ∈ ks := by
      clear q k1 k2 k3 one k
      induction ks with
      | nil => cases hp
      | cons r ks ih =>
        obtain ⟨b, v⟩ := r
        rw [List.lookup_cons]
        cases e : p.1 == b with
        | true =>
          refine ⟨v, rfl, ?_⟩
          rw [beq_iff_eq.mp e]
          exact List.mem_cons_self
        | false =>
          rcases List.mem_cons.mp hp with z | z
          · rw [z] at e
            simp at e
          · obtain ⟨v', h1, h2⟩ := ih z
            exact ⟨v', h1, List.mem_cons_of_mem _ h2⟩
    obtain ⟨v, h1, h2⟩ := this
    rw [h1]
    have h3 := one _ h2 _ hp rfl
    rw [← h3] <;> rfl
  let kv : Value → Int × Int := fun u => match u with
    | .ref b => k b
    | _ => (0, 0)
  have ev : ks.map (fun p => Value.ref p.1) = es.toList.map (·.key) := by
    have e1 : ks.map (fun p => Value.ref p.1) = (ks.map (·.1)).map Value.ref := by rw [List.map_map] <;> rfl
    rw [he, List.map_map, e1, k2, List.map_map] <;> rfl
  refine sorted_rawD (k := kv) hs ho hx hdt (I.ok.hd hc) (by omega) ev (fun v hv => ?_) fun h' tk d out h1 h2 kp hd' hn' => ?_
  · obtain ⟨p, hp, rfl⟩ := List.mem_map.mp hv
    obtain ⟨its2, r2, ⟨o2, ho2, hc2, n2, hd2⟩, _⟩ := I.tuple (xs := [.int p.2.1, .int p.2.2]) (SqT.of (k3 p hp))
    obtain ⟨u1, u2, rfl, ri, rj⟩ := vals2 r2
    obtain ⟨t1, rfl⟩ := ri
    obtain ⟨t2, rfl⟩ := rj
    refine ⟨p.1, o2, t1, t2, n2, rfl, ho2, hc2, ?_⟩
    show o2.data = .seq #[.int (k p.1).1 t1, .int (k p.1).2 t2] n2
    rw [kk p hp]
    exact hd2
  · have e2 : ∀ u ∈ ks.map (fun p => Value.ref p.1), ∃ a, u = Value.ref a := fun u hu => by
      obtain ⟨p, _, rfl⟩ := List.mem_map.mp hu
      exact ⟨_, rfl⟩
    have h3 : ∀ u ∈ out, ∃ a, u = Value.ref a := fun u hu => e2 u (h2.perm.mem_iff.mp hu)
    obtain ⟨n, hn'⟩ := hn'
    let g : Value → Addr × (Int × Int) := fun u => match u with
      | .ref b => (b, k b)
      | _ => (a, (0, 0))
    have eg : ∀ u ∈ out, V.ref (g u).1 = backV u := fun u hu => by
      obtain ⟨b, rfl⟩ := h3 u hu
      rfl
    have em : (out.map g).map (fun p => V.ref p.1) = out.map backV := by
      rw [List.map_map]
      exact List.map_congr_left eg
    have ek : (ks.map (fun p => Value.ref p.1)).map g = ks := by
      rw [List.map_map]
      conv => rhs; rw [← List.map_id ks]
      refine List.map_congr_left fun p hp => ?_
      show (p.1, k p.1) = p
      rw [kk p hp]
    have hp : (out.map g).Perm ks := by
      have h4 := h2.perm.map g
      rw [ek] at h4
      exact h4
    have hw : (out.map g).Pairwise (fun x y => x.2.1 < y.2.1 ∨ x.2.1 = y.2.1 ∧ x.2.2 ≤ y.2.2) := by
      refine List.pairwise_map.mpr (List.Pairwise.imp_of_mem ?_ h1)
      intro u v hu hv huv
      obtain ⟨b, rfl⟩ := h3 u hu
      obtain ⟨c, rfl⟩ := h3 v hv
      have z := SrtO.lexB_no.mp huv
      show (k b).1 < (k c).1 ∨ (k b).1 = (k c).1 ∧ (k b).2 ≤ (k c).2
      have z : ¬((k c).1 < (k b).1 ∨ (k c).1 = (k b).1 ∧ (k c).2 < (k b).2) := z
      omega
    refine ⟨.ref d, upd H d (.lst (out.map backV)), I.laid (t' := tk) kp hd' ⟨?_, out, n, vals_back h3, hn'⟩, rfl, ?_⟩
    · rw [List.length_map, h2.perm.length_eq, List.length_map, ← List.length_map (f := fun x : Addr × (Int × Int) => x.1), k2, List.length_map]
      omega
    · rw [← em]
      refine q _ d ?_ hw (fun z hz => k3 z (hp.mem_iff.mp hz)) (I.hok.fresh hd')
      rw [← k1]
      exact hp.map _
end
end L2
namespace PyD
open PySem PySem.Spec L2
section
variable {K : PySem.W.Frag} {O : Ow} {P : D → Ow → Prop}
theorem tups_in {Z : En0} {F H : Hp} : ∀ {ls : List (Addr × (Int × Int))}, S0 K Z F H O → (∀ q ∈ ls, H q.1 = some (.tup [.int q.2.1, .int q.2.2])) → ∃ F', S0 K Z F' H O ∧ Ex F F' ∧ Rps K F' ((ls.map (·.2)).map prD) (ls.map fun p => V.ref p.1)
  | [], S, _ => ⟨F, S, Ex.refl F, .nil⟩
  | q :: ls, S, h => by
    obtain ⟨F1, S1, e1, r1⟩ := S.tup (h q List.mem_cons_self) (ds := [.int q.2.1, .int q.2.2]) (.cons (.int _) (.cons (.int _) .nil))
    obtain ⟨F2, S2, e2, r2⟩ := tups_in S1 fun z hz => h z (List.mem_cons_of_mem _ hz)
    refine ⟨F2, S2, e1.trans e2, .cons ?_ r2⟩
    exact r1.mono e2
/-- a dict whose keys are the pairs -/
def pdD (ps : List (Int × Int)) : List (List Key × D) := ps.map fun p => ([.inl p.1, .inl p.2], D.bl true)
theorem wpC_sortTD (fr : Bool) {x : D} {ps : List (Int × Int)} (hx : x = .dT (pdD ps)) (p : ∀ ms : List (Int × Int), ms.Perm ps → ms.Pairwise lexI → lcEnd fr (ms.map prD) O P) : wpC K (rSortTD K) [x] O P := fun Z F H vs S r Q q => by
  subst hx
  cases r with
  | cons ra rb =>
    cases rb
    cases ra with
    | dT h1 h2 h3 =>
      rename_i a kvs
      refine ⟨a, kvs, ps, rfl, ex_d S.ex h1, ?_, fun ls l hp hw hl hn => ?_⟩
      · rw [← h2, pdD, List.map_map] <;> rfl
      · obtain ⟨F1, S1, e1, r1⟩ := tups_in S hl
        exact mk_new S1 r1 (p _ hp (List.pairwise_map.mpr hw)) (fun d v F' H' O' S' e r p => q d v F' H' O' S' (e1.trans e) r p) l hn
end
end PyD
namespace L2
open PySem PySem.Spec PyProof.Rows
abbrev DPutK := Addr → V → V → Hp → (Hp → Prop) → Prop
/-- what is asked of a kind of dict: its empty one, and d[y] = z -/
structure DKind (X : Cx) (e0 : HO) (put : DPutK) : Prop where
  emp : ∀ (H : Hp) (h : Heap), sysModules < h.objs.size → ObjOk X.prog X.w H (h.push { cls := .type "dict", data := .dict #[] }) h.objs.size e0
  set : ∀ (Y : Cx) (pins : List (Addr × Obj)) (σ : St) (H : Hp) (s : Shared) (D : Addr) (y z : V) (u r : Value) (N : Hp → Prop) (Q : Unit → Shared → Prop) (E : Value → Shared → Prop), Y.prog = X.prog → Y.w = X.w → Y.A = X.A →
    Inv Y pins σ H s → RelV y u → RelV z r → put D y z H N → (∀ s' H', Inv Y pins σ H' s' → N H' → Q () s') → wpAny (model Y.prog Y.w) Y.A (dictSet D u r) Q E s
def putT : DPutK := fun D y z H N => ∃ (kvs : List (List Key × V)) (k : List Key) (b : Addr), y = .ref b ∧ H b = some (.tup (k.map kV)) ∧ H D = some (.dT kvs) ∧ kvs.length < sizeLine ∧ N (upd H D (.dT (putK kvs k z)))
theorem dkind_T {X : Cx} (hu : X.A.units < cLine) : DKind X (.dT []) putT where
  emp := fun H h hb => dt_empty h hb
  set := fun Y pins σ H s D y z u r N Q E e1 e2 e3 I ry rz p h => by
    obtain ⟨kvs, k, b, ey, eb, e, l, n⟩ := p
    subst ey
    cases (show u = Value.ref b from ry)
    obtain ⟨z1, hd, xs, rel, dd⟩ := dt_of I.hok e
    have hz : xs.length ≤ sizeLine := by rw [← Paired.length rel]; exact z1
    have hl : (putK kvs k z).length ≤ sizeLine := by have := length_putK kvs k z; omega
    have hr : (tupleKind (mixKind Y.prog Y.w)).room Y.A := by rw [e3]; exact hu
    refine wpAny_dictSet_heap (hsz := hz) hr (key_of I.hok eb) dd fun h' dd' hs => h _ _ ?_ n
    obtain ⟨q, es, ep, hq, h2, h3, h4, _, h5⟩ := dd'
    refine d_write I (by rw [e]; exact True.intro) hs ⟨q, hq⟩ ⟨hl, hd, _, (rel.put k eb rz).keeps fun c ys ec => ?_, q, es, ep, hq, h2, h3, h4, h5⟩
    rw [upd_ne (ne_of ec e (fun z => nomatch z))]
    exact ec
section
variable {X : Cx} {e0 : HO} {put : DPutK}
/-- {k: v for target in iter if ..}: D the new dict -/
def tDcG (e0 : HO) (put : DPutK) (wi : TI) (g : TG) (tt : TT) (tk tv : TE) (vs : List Nat) : TE := fun σ H Q => wi σ H fun J H1 => ∀ D, H1 D = none → ∃ W : Nat → Nat → Hp → Prop, (∃ m, W 0 m (upd H1 D e0)) ∧ ∀ i m H, W i m H →
  (J.stop i H ∧ Q (.ref D) H) ∨ (J.go i H ∧ ∃ Nx : Hp → Prop, (∀ H', Nx H' → ∃ m', m' < m ∧ W (i + 1) m' H') ∧ ∀ x H', J.yld i H x H' → g x (wipe σ vs) H' fun σ2 H2 => wipe σ2 vs = wipe σ vs ∧ tt σ2 H2 fun b H3 =>
    if b = true then tk σ2 H3 fun y H4 => tv σ2 H4 fun z H5 => put D y z H5 Nx else Nx H3)
theorem dcG_core {pins : List (Addr × Obj)} {s : Shared} {σ : St} {H : Hp} {Q : VK} {kx vx tg iter : Expr} {ifs : List Expr} {scope : Scope} {own : List (Str × Nat)} {pos pos' : Pos} {wi : TI} {g : TG} {tt : TT} {tk tv : TE} {use : Option (Value → Sem Unit)} {Qf : Value → Shared → Prop}
    (kd : DKind X e0 put) (hc : X.calm = true) (hN : X.N.Nodup) (I : Inv X pins σ H s) (hi : PI X tg iter wi) (ok : BlkOk X.N X.env.scope scope own)
    (hg : ∀ (s : Shared) (H : Hp) (C : Addr) (cl : List (Str × Addr)) (fp : List Addr), PG (X.blk s H scope (compEnvC scope cl C X.env) fp) tg g) (ht : ∀ (s : Shared) (H : Hp) (C : Addr) (cl : List (Str × Addr)) (fp : List Addr), PTs (X.blk s H scope (compEnvC scope cl C X.env) fp) ifs tt)
    (hk : ∀ (s : Shared) (H : Hp) (C : Addr) (cl : List (Str × Addr)) (fp : List Addr), PE (X.blk s H scope (compEnvC scope cl C X.env) fp) kx tk)
    (he : ∀ (s : Shared) (H : Hp) (C : Addr) (cl : List (Str × Addr)) (fp : List Addr), PE (X.blk s H scope (compEnvC scope cl C X.env) fp) vx tv) (hs : ∀ x, foldedSetIterable iter X.env x = pure x)
    (h : tDcG e0 put wi g tt tk tv (own.map (·.2)) σ H Q)
    (hRR : ∀ D C s' m H', Inv X pins σ H' s' → Q (.ref D) H' → s'.heap.Ns C m → FpOk X pins H' C → compPost (model X.prog X.w) X.A X.xe use Qf (.ref D) C (.ok .next) s') :
    wpAny (model X.prog X.w) X.A (comprehension (.DictComp kx vx [⟨tg, iter, ifs, 0⟩] scope pos) scope X.env pos' newDict false (eval iter X.env) use) Qf X.xe s := by
  have hfree : ∀ y ∈ scope.names, y.2 = .free → ∃ c, X.env.cells.lookup y.1 = some c := fun y hy e => (ok.free y hy e).elim (fun k => I.ok.has _ (.inl k)) fun k => I.ok.has _ (.inr k)
  refine wpAny_comprehension_free (use := use) rfl hs (closure_ok hfree) ok.kind (fun y hy e => by rw [ok.uniq y hy, e])
    (thn (hi.run pins s σ H _ I h) fun xv s1 hx => thn hx fun itv s2 ⟨it, fp, tn, J, H2, e, I2, T, st2, f2, q⟩ => ?_)
  subst e
  refine wpAny_newObj_type (newEnv_comp ?_)
  generalize hD : s2.heap.objs.size = D
  obtain ⟨W, ⟨m0, w0⟩, turn⟩ := q D (I2.hok.fresh (Nat.le_of_eq hD))
  generalize hs3 : ({ s2 with heap := s2.heap.push { cls := .type "dict", data := .dict #[] } } : Shared) = s3
  have h3 : s3.heap = s2.heap.push { cls := .type "dict", data := .dict #[] } := by rw [← hs3]
  have I3 : Inv X pins σ (upd H2 D e0) s3 := by
    rw [← hs3]
    refine I2.laid (t' := s2.toks) (fun b o e => Heap.get?_push_of_some _ e) (Nat.le_of_eq hD) ?_
    rw [← hD]
    exact kd.emp _ s2.heap I2.big
  have f3 : ∀ b ∈ fp, FpOk X pins (upd H2 D e0) b ∧ b < s3.heap.objs.size := fun b hb => by
    obtain ⟨o, e, _⟩ := T.obj _ _ st2 b hb
    have hlt := Heap.lt_size e
    refine ⟨⟨?_, (f2 b hb).2⟩, by rw [h3, Heap.size_push]; exact Nat.lt_succ_of_lt hlt⟩
    rw [upd_ne (by rw [← hD]; exact Nat.ne_of_lt hlt)]
    exact (f2 b hb).1
  have st3 : tn 0 s3.heap := T.keep _ _ _ st2 fun b _ o e => by rw [h3]; exact Heap.get?_push_of_some _ e
  have I4 := block_start I3 ok hN f3
  have pg := hg s3 (upd H2 D e0) s3.heap.objs.size (cellsFrom (s3.heap.objs.size + 1) scope.names (cloFrom X.env.cells scope.names [])) fp
  have pt := ht s3 (upd H2 D e0) s3.heap.objs.size (cellsFrom (s3.heap.objs.size + 1) scope.names (cloFrom X.env.cells scope.names [])) fp
  have pk := hk s3 (upd H2 D e0) s3.heap.objs.size (cellsFrom (s3.heap.objs.size + 1) scope.names (cloFrom X.env.cells scope.names [])) fp
  have pe := he s3 (upd H2 D e0) s3.heap.objs.size (cellsFrom (s3.heap.objs.size + 1) scope.names (cloFrom X.env.cells scope.names [])) fp
  show codeAny _ _ (.compStart (.DictComp kx vx [⟨tg, iter, ifs, 0⟩] scope pos) 0 (.ref it) (.ref D) (compEnvC scope (cellsFrom (s3.heap.objs.size + 1) scope.names (cloFrom X.env.cells scope.names [])) s3.heap.objs.size X.env)) (compPost (model X.prog X.w) X.A X.xe use Qf (.ref D) s3.heap.objs.size) { s3 with heap := pushCells (s3.heap.push { cls := .type "dict", data := .dict #[] }) scope.names }
  have nfp : ∀ b ∈ fp, (upd H2 D e0) b = none := fun b hb => (f3 b hb).1.1
  generalize hce : compEnvC scope (cellsFrom (s3.heap.objs.size + 1) scope.names (cloFrom X.env.cells scope.names [])) s3.heap.objs.size X.env = ce at I4 pg pt pk pe ⊢
  have cL : ce.locals = s3.heap.objs.size := by subst hce; rfl
  generalize hH3 : upd H2 D e0 = H3 at I3 I4 pg pt pk pe w0 nfp f3
  generalize hs4 : ({ s3 with heap := pushCells (s3.heap.push { cls := .type "dict", data := .dict #[] }) scope.names } : Shared) = s4 at I4 ⊢
  have st4 : tn 0 s4.heap := T.keep _ _ _ st3 fun b _ o e => by rw [← hs4]; exact pushCells_keeps _ _ _ _ (Heap.get?_push_of_some _ e)
  have stat : ∀ {σ' : St} {H' : Hp} {s' : Shared}, Inv (X.blk s3 H3 scope ce fp) [] σ' H' s' → (∀ b ∈ fp, H' b = none) → ∀ b ∈ fp, FpOk (X.blk s3 H3 scope ce fp) [] H' b := fun {σ' H' s'} I' hn b hb =>
    ⟨hn b hb, (I'.ok.exf b hb).1, I'.ok.exfs b hb, .inl hb, fun x c e => (I'.ok.exf b hb).2 x c e, fun p hp => absurd (show p ∈ ([] : List (Addr × Obj)) ++ [] from hp) (by simp)⟩
  have loop : codeAny (model X.prog X.w) X.A (.compLoop (.DictComp kx vx [⟨tg, iter, ifs, 0⟩] scope pos) 0 (.ref it) (.ref D) ce) (compPost (model X.prog X.w) X.A X.xe use Qf (.ref D) s3.heap.objs.size) s4 := by
    refine compLoop_anyD (fun n s' => ∃ i H', Inv (X.blk s3 H3 scope ce fp) [] (wipe σ (own.map (·.2))) H' s' ∧ tn i s'.heap ∧ (∀ b ∈ fp, H' b = none) ∧ W i n H') ?_ m0 ⟨0, H3, I4, st4, nfp, w0⟩
    rintro n s5 ⟨i, H5, I5, st5, n5, w5⟩
    rcases turn i n H5 w5 with ⟨stop, qq⟩ | ⟨go, Nx, hNx, step⟩
    · refine thnF (T.done (X.blk s3 H3 scope ce fp) rfl rfl rfl hc i [] s5 _ H5 (fun _ _ => False) I5 (stat I5 n5) st5 stop) fun r s6 ⟨hr, I6⟩ => ?_
      subst hr
      have I7 : Inv X pins σ H5 s6 := I3.call' (ch := fp) I6.os I6.base I6.hok I6.bare fun b hb => ⟨(f3 b hb).1.2.2.2.1, (f3 b hb).1.2.1, (f3 b hb).1.2.2.2.2.1, (f3 b hb).1.2.2.2.2.2⟩
      obtain ⟨m, hn, _⟩ := I6.loc
      have hn : s6.heap.Ns ce.locals m := hn
      rw [cL] at hn
      have nC : H5 s3.heap.objs.size = none := cL ▸ I6.free
      exact hRR D s3.heap.objs.size s6 m H5 I7 qq hn (I3.fpOk (Nat.le_refl _) nC)
    · refine thnF (T.item (X.blk s3 H3 scope ce fp) rfl rfl rfl hc i [] s5 _ H5 (fun _ _ => False) I5 (stat I5 n5) st5 go) fun r s6 ⟨u, hr, h6⟩ => ?_
      subst hr
      refine thnF h6 fun _ s7 ⟨x, H7, I7, r7, y7, st7, n7⟩ => ?_
      have I7' := I7.pinned (stat I7 n7) (T.obj _ _ st7)
      refine thnF (pg.run _ s7 _ H7 x u _ I7' r7 (step x H7 y7)) fun _ s8 ⟨σ8, H8, I8, hw8, q8⟩ => ?_
      refine thnF (pt.run _ s8 σ8 H8 _ I8 q8) fun b s9 ⟨H9, I9, q9⟩ => ?_
      have fin : ∀ {s' : Shared} {H' : Hp}, Inv (X.blk s3 H3 scope ce fp) ([] ++ pinsAt fp s7.heap) σ8 H' s' → Nx H' → ∃ m, m < n ∧ ∃ i H', Inv (X.blk s3 H3 scope ce fp) [] (wipe σ (own.map (·.2))) H' s' ∧ tn i s'.heap ∧ (∀ b ∈ fp, H' b = none) ∧ W i m H' := fun {s' H'} I' nx => by
        obtain ⟨m', hm, w'⟩ := hNx H' nx
        have pin' : ∀ b ∈ fp, ∀ o, s7.heap.get? b = some o → s'.heap.get? b = some o ∧ H' b = none := fun b hb o e =>
          let z := I'.pin (b, o) (List.mem_append_right _ (List.mem_append_right _ (mem_pinsAt hb e)))
          ⟨z.1, z.2.1⟩
        have hl : (wipe σ (own.map (·.2))).length = σ8.length := by rw [← hw8, wipe_length]
        refine ⟨m', hm, i + 1, H', (I'.unpinned (pins := [])).weak hl (fun j v e => (wipe_some (hw8 ▸ e)).1), T.keep _ _ _ st7 fun b hb o e => (pin' b hb o e).1, fun b hb => ?_, w'⟩
        obtain ⟨o, e, _⟩ := T.obj _ _ st7 b hb
        exact (pin' b hb o e).2
      cases b with
      | false =>
        simp only [Bool.false_eq_true, if_false] at q9 ⊢
        exact fin I9 q9
      | true =>
        simp only [if_true] at q9 ⊢
        refine thnF (pk.run _ s9 σ8 H9 _ I9 q9) fun z s10 ⟨yk, H10, I10, r10, q10⟩ => ?_
        refine thnF (pe.run _ s10 σ8 H10 _ I10 q10) fun z2 s11 ⟨yv, H11, I11, r11, qp⟩ => ?_
        exact kd.set (X.blk s3 H3 scope ce fp) _ _ _ _ _ _ _ _ _ _ _ _ rfl rfl rfl I11 r10 r11 qp fun s12 H12 I12 nx => fin I12 nx
  exact codeAny_compStart_dict loop (T.self X.A 0 _ _ _ st4 loop)
/-- name = {..} on one line, the name a local -/
theorem ps_setDcG {i : Nat} {y : Str} {py : Pos} {kx vx tg iter : Expr} {ifs : List Expr} {scope : Scope} {own : List (Str × Nat)} {pos spos : Pos} {wi : TI} {g : TG} {tt : TT} {tk tv : TE} (kd : DKind X e0 put) (hc : X.calm = true) (hN : X.N.Nodup) (hy : X.N[i]? = some y) (hyl : X.env.scope.names.lookup y = some .local)
    (hsw : swapsWith (.DictComp kx vx [⟨tg, iter, ifs, 0⟩] scope pos) (some (.Name y py)) spos.line X.env = pure true) (hi : PI X tg iter wi) (ok : BlkOk X.N X.env.scope scope own)
    (hg : ∀ (s : Shared) (H : Hp) (C : Addr) (cl : List (Str × Addr)) (fp : List Addr), PG (X.blk s H scope (compEnvC scope cl C X.env) fp) tg g) (ht : ∀ (s : Shared) (H : Hp) (C : Addr) (cl : List (Str × Addr)) (fp : List Addr), PTs (X.blk s H scope (compEnvC scope cl C X.env) fp) ifs tt)
    (hk : ∀ (s : Shared) (H : Hp) (C : Addr) (cl : List (Str × Addr)) (fp : List Addr), PE (X.blk s H scope (compEnvC scope cl C X.env) fp) kx tk)
    (he : ∀ (s : Shared) (H : Hp) (C : Addr) (cl : List (Str × Addr)) (fp : List Addr), PE (X.blk s H scope (compEnvC scope cl C X.env) fp) vx tv) (hs : ∀ x, foldedSetIterable iter X.env x = pure x := by intro _; rfl) :
    PS X (.Assign [.Name y py] (.DictComp kx vx [⟨tg, iter, ifs, 0⟩] scope pos) spos) (tAsg (tDcG e0 put wi g tt tk tv (own.map (·.2))) (gName i)) := by
  refine ⟨fun pins s σ H D I h => ?_⟩
  rw [exec_Assign_Name_used _ _ _ _ hsw]
  refine wpAny_bind (wpAny_standAt (wpAny_bind ?_))
  show wpAny _ X.A (do let _ ← comprehension (.DictComp kx vx [⟨tg, iter, ifs, 0⟩] scope pos) scope X.env (firstIterPos [⟨tg, iter, ifs, 0⟩] pos) newDict false (eval iter X.env) (some (assign (.Name y py) X.env))) _ _ s
  have h : tDcG e0 put wi g tt tk tv (own.map (·.2)) σ H (fun x H1 => gName i x σ H1 D.nx) := h
  refine wpAny_bind (thn (dcG_core (Qf := fun _ s' => SP X pins D .next s') kd hc hN I hi ok hg ht hk he hs h fun L C s' m H' I' q hn f => ?_) fun _ s' hq => wpAny_pure (wpAny_pure hq))
  show wpAny _ _ (assign (.Name y py) X.env (.ref L)) _ _ _
  refine wpAny_assign_Name (store_ok2 (v := V.ref L) I' hN hy (.inl hyl) rfl (fun s2 I2 ⟨a, sb, ha⟩ => ?_) (.inr hyl))
  obtain ⟨f0, f1, f2, f3, f4, f5⟩ := f
  have haC : C ≠ a := ha.elim (fun z => by rw [z]; exact f1) fun z => fun e => f4 y a z e.symm
  exact ⟨m, hn.sameBut sb haC, fun h3 sb3 => ⟨_, H', I2.turned (t' := s2.toks) (fun b o hb e => (sb3.2 b hb).trans e) f0 f1 f3 f4 f5, q⟩⟩
theorem sw_trueD {kx vx : Expr} {gs : List Comprehension} {scope : Scope} {pos py : Pos} {y : Str} {l : Nat} {env : Env} (hk : env.scope.kind = .function) (hy : env.scope.names.lookup y = some .local) (hl : (py.line == pos.line) = true)
    (ha : (scope.names.any fun (n, k) => n == y && (k == .local || k == .cell)) = false) : swapsWith (.DictComp kx vx gs scope pos) (some (.Name y py)) l env = pure true := by
  have ky : env.kindOf y = some .local := hy
  have hb : env.blockKind = .function := by unfold Env.blockKind; rw [hk]; rfl
  unfold swapsWith
  simp only [hb, ky, ha, Expr.pos, hl]
  rfl
end
end L2
namespace PyD
open PySem PySem.Spec L2
section
variable {K : PySem.W.Frag} {W : WX} {ex : Ek} {G : Gm} {O : Ow} {P : D → Ow → Prop} {tk tv : TE} {tt : TT}
def dtEnd (fr : Bool) (acc : List (List Key × D)) (O : Ow) (P : D → Ow → Prop) : Prop := match fr with
  | true => P (.dT acc) O
  | false => ∀ a, (∀ q ∈ O, q.a ≠ a) → P (.mut a) (⟨a, true, .dT acc⟩ :: O)
theorem wpE_dcT {wi : TI} {g : TG} {vs : List Nat} (fr : Bool) (hg : gIn vs g) (gm : gMono g) (h : wpI K W ex wi G O fun xs C O1 => ∃ I : Nat → List (List Key × D) → Ow → Prop, I 0 [] O1 ∧ (∀ i acc O', i ≤ xs.length → I i acc O' → C O' ∧ acc.length < sizeLine) ∧
      (∀ i x acc O', xs[i]? = some x → I i acc O' → wpG K g x (wipeG G vs) O' fun G2 O2 => wpT K W ex tt G2 O2 fun b O3 => (b = true → wpE K W ex tk G2 O3 fun y O4 => wpE K W ex tv G2 O4 fun z O5 => ∃ k, y = .tup (k.map kD) ∧ I (i + 1) (putD acc k z) O5) ∧ (b = false → I (i + 1) acc O3)) ∧
      ∀ acc O', I xs.length acc O' → dtEnd fr acc O' P) : wpE K W ex (tDcG (.dT []) putT wi g tt tk tv vs) G O P := fun Z F H σ X S s Q q =>
  h Z F H σ X S s _ fun J xs C F1 H1 O1 S1 e1 hw ⟨I, h0, hl, hs, hd⟩ Dl hD => by
    have hZ := S1.fresh hD
    have hM := S1.notM hD
    refine ⟨fun i m H' => i + m = xs.length ∧ ∃ F2 O2 acc vacc, S0 K Z F2 H' O2 ∧ Ex F1 F2 ∧ F2 Dl = none ∧ H' Dl = some (.dT vacc) ∧ RKv K F2 acc vacc ∧ I i acc O2 ∧ ∀ p ∈ O2, p.a ≠ Dl,
      ⟨xs.length, by omega, F1, O1, [], [], S1.junk _ hD, Ex.refl _, S1.ex.none hD, upd_same, RKv.nil, h0, S1.freshO hD⟩, fun i m H' hW => ?_⟩
    obtain ⟨em, F2, O2, acc, vacc, S2, e2, f2, hD2, r2, hI, nO⟩ := hW
    obtain ⟨hC, hz⟩ := hl i acc O2 (by omega) hI
    by_cases hi : i < xs.length
    · obtain ⟨x, hx⟩ : ∃ x, xs[i]? = some x := ⟨xs[i], List.getElem?_eq_getElem hi⟩
      have S2' := S2.hold hD2 f2 nO
      obtain ⟨g1, g2⟩ := hw.go _ F2 H' O2 i x S2' e2 hC hx
      obtain ⟨Nx, hNx⟩ : ∃ Nx : Hp → Prop, Nx = fun H3 => ∃ F3 O3 acc3 vacc3, S0 K Z F3 H3 O3 ∧ Ex F1 F3 ∧ F3 Dl = none ∧ H3 Dl = some (.dT vacc3) ∧ RKv K F3 acc3 vacc3 ∧ I (i + 1) acc3 O3 ∧ ∀ p ∈ O3, p.a ≠ Dl := ⟨_, rfl⟩
      refine .inr ⟨g1, Nx, fun H3 h3 => ⟨m - 1, by omega, by omega, by rw [hNx] at h3; exact h3⟩, fun z H3 hz3 => ?_⟩
      obtain ⟨F3, S3, e3, rz⟩ := g2 z H3 hz3
      have X' : XOk K (Z.hold Dl (.dT vacc)) F ex W := X.hold hZ hM
      have sw : Slots K F3 (wipeG G vs) (L2.wipe σ vs) := (s.mono (e1.trans (e2.trans e3))).wipe vs
      have hgo := hs i x acc O2 hx hI (Z.hold Dl (.dT vacc)) F3 H3 _ z S3 sw rz
      refine gm z _ H3 _ _ (fun σ2 H4 hq => ?_) (hg z _ H3 _ (hgo (fun σ2 H4 => tt σ2 H4 fun b H5 => if b = true then tk σ2 H5 fun y H4 => tv σ2 H4 fun z H5 => putT Dl y z H5 Nx else Nx H5) ?_))
      · obtain ⟨q1, q2, q3⟩ := hq
        refine ⟨wipe_ext (q2.trans (wipe_length σ vs)) fun k hk => (q3 k hk).trans ?_, q1⟩
        rw [wipe_at, if_neg hk]
      · intro F4 H4 σ4 G4 O4 S4 s4 e4 p4
        have e04 := e1.trans (e2.trans (e3.trans e4))
        refine p4 _ F4 H4 σ4 (X'.mono e04) S4 s4 _ fun b F5 H5 O5 S5 e5 p5 => ?_
        cases b with
        | true =>
          refine p5.1 rfl _ F5 H5 σ4 (X'.mono (e04.trans e5)) S5 (s4.mono e5) _ fun y vy F6 H6 O6 S6 e6 r6 p6 => ?_
          refine p6 _ F6 H6 σ4 (X'.mono (e04.trans (e5.trans e6))) S6 (s4.mono (e5.trans e6)) _ fun z vz F8 H8 O8 S8 e8 r8 ⟨k, hk, p8⟩ => ?_
          subst hk
          obtain ⟨cc, rfl, hcc⟩ := keyT S8.ex (r6.mono e8)
          obtain ⟨S7, k1, k2, k3⟩ := S8.unhold hZ hM
          have e26 := e3.trans (e4.trans (e5.trans (e6.trans e8)))
          have rk : RKv K F8 acc vacc := ⟨r2.1, r2.2.mono e26⟩
          exact ⟨vacc, k, cc, rfl, hcc, k1, by rw [← r2.len]; exact hz, by rw [hNx]; exact ⟨F8, O8, putD acc k z, putK vacc k vz, S7.writeU k2 k3 hZ, e2.trans e26, k2, upd_same, rk.put r8, p8, k3⟩⟩
        | false =>
          obtain ⟨S7, k1, k2, k3⟩ := S5.unhold hZ hM
          have e25 := e3.trans (e4.trans e5)
          show Nx H5
          rw [hNx]
          exact ⟨F5, O5, acc, vacc, S7, e2.trans e25, k2, k1, ⟨r2.1, r2.2.mono e25⟩, p5.2 rfl, k3⟩
    · have ei : i = xs.length := by omega
      subst ei
      refine .inl ⟨hw.stop Z F2 H' O2 S2 e2 hC, ?_⟩
      have hend := hd acc O2 hI
      cases fr with
      | true => exact q _ _ _ H' O2 (S2.keepF hD2 f2 nO hZ) (e1.trans (e2.trans (Ex.new f2))) (.dT (.inl upd_same) r2.1 (r2.2.mono (Ex.new f2))) hend
      | false => exact q _ _ F2 H' _ (S2.take (d := .dT acc) f2 ⟨vacc, hD2, r2.1, r2.2⟩ nO hZ) (e1.trans e2) (.mut Dl) (hend Dl nO)
end
end PyD
namespace L2
open PySem PySem.Spec PyProof.Rows
section
variable {X : Cx}
def rInL (K : PySem.W.Frag) (neg : Bool) : R2 := fun x y H Q => ∃ (d : PyData) (xs : List PyData), Dp K H x d ∧ Dp K H y (.list xs) ∧ SeqAt.shaped d = true ∧ SeqAt.shaped (.list xs) = true ∧ Q (.bl (if neg then !(xs.any fun y => PyData.eqv y d) else xs.any fun y => PyData.eqv y d)) H
theorem depth_lst {xs : List PyData} (h : SeqAt.shaped (.list xs) = true) : PyData.canLayAll0 xs = true ∧ PyData.depthAll xs ≤ 63 := by
  obtain ⟨h1, h2⟩ := Bool.and_eq_true_iff.mp h
  have h2 := of_decide_eq_true h2
  refine ⟨by simpa [PyData.canLay0] using h1, ?_⟩
  simp only [PyData.depth] at h2
  omega
theorem op_inL (hu : X.A.units + 64 < cLine) : OpR X (compareOp .In) (rInL X.K false) := by
  intro pins s σ H x y v u Q I rx ry h
  obtain ⟨d, xs, hd, he, sd, se, q⟩ := h
  obtain ⟨as, r1⟩ := Dp.reads I d x v hd rx
  obtain ⟨bs, r2⟩ := Dp.reads I _ y u he ry
  obtain ⟨c1, c2⟩ := depth_lst se
  refine SeqAt.in_list_reads r2 r1 c1 (SeqAt.canLay_of_shaped sd) (by have := Nat.min_le_left (PyData.depthAll xs) d.depth; omega) ⟨.bl _, H, I, rfl, q⟩
end
end L2
namespace PyD
open PySem PySem.Spec L2
section
variable {K : PySem.W.Frag} {O : Ow} {P : D → Ow → Prop}
theorem any_pr (p : Int × Int) : ∀ ps : List (Int × Int), ((toPds (ps.map prD)).any fun y => PyData.eqv y (toPd (prD p))) = decide (p ∈ ps)
  | [] => rfl
  | q :: ps => by
    rw [List.map_cons]
    show ((toPd (prD q) :: toPds (ps.map prD)).any fun y => PyData.eqv y (toPd (prD p))) = _
    rw [List.any_cons, any_pr p ps]
    have e : PyData.eqv (toPd (prD q)) (toPd (prD p)) = decide (p = q) := by
      rw [Bool.eq_iff_iff, eqv_pd _ _ rfl rfl, decide_eq_true_iff]
      obtain ⟨a, b⟩ := p
      obtain ⟨c, d⟩ := q
      simp [toPd, toPds]
      constructor
      · rintro ⟨rfl, rfl⟩
        exact ⟨rfl, rfl⟩
      · rintro ⟨rfl, rfl⟩
        exact ⟨rfl, rfl⟩
    rw [e, Bool.eq_iff_iff, Bool.or_eq_true, decide_eq_true_iff, decide_eq_true_iff, decide_eq_true_iff, List.mem_cons]
theorem plain_prs : ∀ ps : List (Int × Int), plainBs (ps.map prD) = true
  | [] => rfl
  | p :: ps => by
    rw [List.map_cons]
    exact plain_prs ps
theorem depth_prs : ∀ ps : List (Int × Int), PyData.depthAll (toPds (ps.map prD)) ≤ 2
  | [] => by decide
  | p :: ps => by
    rw [List.map_cons]
    show PyData.depthAll (toPd (prD p) :: toPds (ps.map prD)) ≤ 2
    have := depth_prs ps
    simp only [PyData.depthAll]
    refine Nat.max_le.mpr ⟨?_, this⟩
    simp [toPd, toPds, PyData.depth, PyData.depthAll]
theorem wpR_inP {neg : Bool} {p : Int × Int} {x : D} {ps : List (Int × Int)} (hx : viewOf O x (.lst (ps.map prD))) (h : P (.bl (if neg then !decide (p ∈ ps) else decide (p ∈ ps))) O) : wpR K (rInL K neg) (prD p) x O P := fun Z F H vx vy S rx ry Q q => by
  have sh1 : shalB (prD p) := ⟨rfl, by show PyData.depth (toPd (prD p)) ≤ 64; simp [toPd, toPds, PyData.depth, PyData.depthAll]⟩
  have sh2 : shalB (.lst (ps.map prD)) := ⟨plain_prs ps, by
    have := depth_prs ps
    show PyData.depth (.list (toPds (ps.map prD))) ≤ 64
    simp only [PyData.depth]
    omega⟩
  refine ⟨toPd (prD p), toPds (ps.map prD), (view_self (O := O)).dpB S rx sh1.1, hx.dpB S ry sh2.1, sh1.ok, sh2.ok, ?_⟩
  rw [any_pr]
  exact q _ _ F H O S (Ex.refl F) (.bl _) h
end
end PyD
namespace K07
open PySem PySem.Spec L2
abbrev top (i : Nat) : Stmt := PySem.Challenge.pw_quorumdrift_k07_whole_silent_is_unnotice.main.body.getD i (.Pass ⟨0, 0, 0, 0⟩)
def msgOf (s : Stmt) : Expr := match defBody s with
  | .Expr (.Call _ [m] _ _) _ :: _ => m
  | _ => .Constant .none 0 ⟨0, 0, 0, 0⟩
abbrev s_first_wrong_place : Stmt := top 16
abbrev s__wrong_replica : Stmt := top 24
abbrev s_index_of : Stmt := top 18
abbrev s_State___init__ : Stmt := inClass (top 26) 1
abbrev s__law_box : Stmt := top 44
abbrev s_State_lists : Stmt := inClass (top 26) 6
abbrev s__law_is_number : Stmt := top 59
abbrev s__law_is_row : Stmt := top 61
abbrev s__law_is_state : Stmt := top 64
abbrev s__law_take : Stmt := top 45
abbrev s__law_lacking : Stmt := top 58
abbrev s__law_swapped : Stmt := top 50
abbrev s__law_after : Stmt := top 52
abbrev s__law_circle : Stmt := top 53
abbrev s__law_order : Stmt := top 47
abbrev s__law_keys : Stmt := top 46
abbrev s__law_quiet : Stmt := top 48
abbrev s__law_silent : Stmt := top 49
abbrev s__law_walk : Stmt := top 51
abbrev s__law_lists : Stmt := top 54
abbrev s__law_refused : Stmt := top 67
abbrev s_check_replica : Stmt := top 15
abbrev s_require_key : Stmt := top 23
abbrev s_State_says : Stmt := inClass (top 26) 8
abbrev s__other_replicas : Stmt := top 38
abbrev s_State_list_of : Stmt := inClass (top 26) 5
abbrev s_State___len__ : Stmt := inClass (top 26) 13
abbrev s_is_swap : Stmt := top 35
abbrev s_swap_pair : Stmt := top 36
abbrev s_is_silent : Stmt := top 37
abbrev s_State_all_keys : Stmt := inClass (top 26) 7
abbrev s_State_with_list : Stmt := inClass (top 26) 10
abbrev s_check_list : Stmt := top 17
abbrev s_swap_at : Stmt := top 19
abbrev s_swapped_state : Stmt := top 40
abbrev s_apply_swap : Stmt := top 41
abbrev s_dissenter : Stmt := top 32
abbrev s_barred_by : Stmt := top 39
abbrev s__law_call : Stmt := top 65
abbrev s__law_tried : Stmt := top 66
abbrev s__law_refuses : Stmt := top 71
abbrev s_Reading_pairs : Stmt := inClass (top 29) 3
abbrev s__law_is_tuple : Stmt := top 62
abbrev s__law_is_tuples : Stmt := top 63
abbrev s__law_words : Stmt := top 55
abbrev s__law_reading : Stmt := top 56
abbrev s_Reading__in_a_cycle : Stmt := inClass (top 29) 7
abbrev s_Reading_pinned : Stmt := inClass (top 29) 8
abbrev s__first_wrong_pair : Stmt := top 28
abbrev s_Reading___init__ : Stmt := inClass (top 29) 0
abbrev s_read : Stmt := top 30
abbrev s_dealing : Stmt := top 33
abbrev s__law_deep_holds : Stmt := top 69
abbrev s__law_is_tuples_own : Stmt := top 63
abbrev s__law_shares : Stmt := top 57
abbrev s_State_lists_own : Stmt := inClass (top 26) 6
abbrev s__law_is_truth : Stmt := top 60
abbrev s__law_swap_holds : Stmt := top 68
abbrev s_silent_swaps : Stmt := top 42
abbrev s__law_state_holds : Stmt := top 70
abbrev s_law : Stmt := top 72
abbrev i_AudibleSwap : Stmt := inClass (top 11) 0
abbrev i_InvalidList : Stmt := inClass (top 3) 0
abbrev i_InvalidReading : Stmt := inClass (top 8) 0
abbrev i_InvalidState : Stmt := inClass (top 6) 0
abbrev i_InvalidSwap : Stmt := inClass (top 10) 0
abbrev i_UnknownKey : Stmt := inClass (top 4) 0
abbrev i_UnknownReplica : Stmt := inClass (top 5) 0
abbrev N_first_wrong_place : List Str := ["order", "seen", "place", "key"]
theorem sc_first_wrong_place : FnScope N_first_wrong_place ["order"] (defScope s_first_wrong_place) := ⟨rfl, rfl, rfl, by decide +kernel, rfl, by decide +kernel, by decide +kernel⟩
abbrev N__wrong_replica : List Str := ["orders", "keys", "replica", "order"]
theorem sc__wrong_replica : FnScope N__wrong_replica ["orders"] (defScope s__wrong_replica) := ⟨rfl, rfl, rfl, by decide +kernel, rfl, by decide +kernel, by decide +kernel⟩
abbrev N_index_of : List Str := ["order", "place", "key"]
theorem sc_index_of : FnScope N_index_of ["order"] (defScope s_index_of) := ⟨rfl, rfl, rfl, by decide +kernel, rfl, by decide +kernel, by decide +kernel⟩
abbrev N_State___init__ : List Str := ["self", "first", "second", "third", "orders", "wrong", "order"]
theorem sc_State___init__ : FnScope N_State___init__ ["self", "first", "second", "third"] (defScope s_State___init__) := ⟨rfl, rfl, rfl, by decide +kernel, rfl, by decide +kernel, by decide +kernel⟩
abbrev N__law_box : List Str := ["_law_script"]
theorem sc__law_box : FnScope N__law_box ["_law_script"] (defScope s__law_box) := ⟨rfl, rfl, rfl, by decide +kernel, rfl, by decide +kernel, by decide +kernel⟩
abbrev N_State_lists : List Str := ["self", "order"]
theorem sc_State_lists : FnScope N_State_lists ["self"] (defScope s_State_lists) := ⟨rfl, rfl, rfl, by decide +kernel, rfl, by decide +kernel, by decide +kernel⟩
abbrev N__law_is_number : List Str := ["_law_actual", "_law_due"]
theorem sc__law_is_number : FnScope N__law_is_number ["_law_actual", "_law_due"] (defScope s__law_is_number) := ⟨rfl, rfl, rfl, by decide +kernel, rfl, by decide +kernel, by decide +kernel⟩
abbrev N__law_is_row : List Str := ["_law_actual", "_law_due", "_law_k"]
theorem sc__law_is_row : FnScope N__law_is_row ["_law_actual", "_law_due"] (defScope s__law_is_row) := ⟨rfl, rfl, rfl, by decide +kernel, rfl, by decide +kernel, by decide +kernel⟩
abbrev N__law_is_state : List Str := ["_law_actual", "_law_due", "_law_told", "_law_k"]
theorem sc__law_is_state : FnScope N__law_is_state ["_law_actual", "_law_due"] (defScope s__law_is_state) := ⟨rfl, rfl, rfl, by decide +kernel, rfl, by decide +kernel, by decide +kernel⟩
abbrev N__law_take : List Str := ["_law_box_here", "_law_size", "_law_rest", "_law_turn", "_law_cells", "_law_cell", "_law_mixed"]
theorem sc__law_take : FnScope N__law_take ["_law_box_here", "_law_size"] (defScope s__law_take) := ⟨rfl, rfl, rfl, by decide +kernel, rfl, by decide +kernel, by decide +kernel⟩
abbrev N__law_lacking : List Str := ["_law_box_here", "_law_size", "_law_replica", "_law_index", "_law_far", "_law_below", "_law_lacking_here"]
theorem sc__law_lacking : FnScope N__law_lacking ["_law_box_here", "_law_size"] (defScope s__law_lacking) := ⟨rfl, rfl, rfl, by decide +kernel, rfl, by decide +kernel, by decide +kernel⟩
abbrev N__law_swapped : List Str := ["_law_lists_here", "_law_swap", "_law_order_here", "_law_index", "_law_fresh", "_law_row"]
theorem sc__law_swapped : FnScope N__law_swapped ["_law_lists_here", "_law_swap"] (defScope s__law_swapped) := ⟨rfl, rfl, rfl, by decide +kernel, rfl, by decide +kernel, by decide +kernel⟩
abbrev N__law_after : List Str := ["_law_lists_here", "_law_swaps", "_law_now", "_law_swap"]
theorem sc__law_after : FnScope N__law_after ["_law_lists_here", "_law_swaps"] (defScope s__law_after) := ⟨rfl, rfl, rfl, by decide +kernel, rfl, by decide +kernel, by decide +kernel⟩
abbrev N__law_circle : List Str := ["_law_box_here", "_law_keys_here", "_law_lists_here", "_law_key", "_law_place", "_law_order_here"]
theorem sc__law_circle : FnScope N__law_circle ["_law_box_here", "_law_keys_here"] (defScope s__law_circle) := ⟨rfl, rfl, rfl, by decide +kernel, rfl, by decide +kernel, by decide +kernel⟩
abbrev N__law_order : List Str := ["_law_box_here", "_law_keys_here", "_law_left", "_law_order_here", "_law_k"]
theorem sc__law_order : FnScope N__law_order ["_law_box_here", "_law_keys_here"] (defScope s__law_order) := ⟨rfl, rfl, rfl, by decide +kernel, rfl, by decide +kernel, by decide +kernel⟩
abbrev N__law_keys : List Str := ["_law_box_here", "_law_count", "_law_keys_here", "_law_last", "_law_k"]
theorem sc__law_keys : FnScope N__law_keys ["_law_box_here", "_law_count"] (defScope s__law_keys) := ⟨rfl, rfl, rfl, by decide +kernel, rfl, by decide +kernel, by decide +kernel⟩
abbrev N__law_quiet : List Str := ["_law_lists_here", "_law_swap", "_law_x", "_law_y", "_law_one", "_law_two"]
theorem sc__law_quiet : FnScope N__law_quiet ["_law_lists_here", "_law_swap"] (defScope s__law_quiet) := ⟨rfl, rfl, rfl, by decide +kernel, rfl, by decide +kernel, by decide +kernel⟩
abbrev N__law_silent : List Str := ["_law_lists_here", "_law_found", "_law_replica", "_law_index"]
theorem sc__law_silent : FnScope N__law_silent ["_law_lists_here"] (defScope s__law_silent) := ⟨rfl, rfl, rfl, by decide +kernel, rfl, by decide +kernel, by decide +kernel⟩
abbrev N__law_walk : List Str := ["_law_box_here", "_law_lists_here", "_law_steps", "_law_swaps", "_law_now", "_law_k", "_law_silent_here"]
theorem sc__law_walk : FnScope N__law_walk ["_law_box_here", "_law_lists_here", "_law_steps"] (defScope s__law_walk) := ⟨rfl, rfl, rfl, by decide +kernel, rfl, by decide +kernel, by decide +kernel⟩
abbrev N__law_lists : List Str := ["_law_box_here", "_law_count", "_law_keys_here", "_law_kind", "_law_lists_here", "_law_steps"]
theorem sc__law_lists : FnScope N__law_lists ["_law_box_here"] (defScope s__law_lists) := ⟨rfl, rfl, rfl, by decide +kernel, rfl, by decide +kernel, by decide +kernel⟩
abbrev N__law_refused : List Str := ["_law_answer", "_law_word"]
theorem sc__law_refused : FnScope N__law_refused ["_law_answer", "_law_word"] (defScope s__law_refused) := ⟨rfl, rfl, rfl, by decide +kernel, rfl, by decide +kernel, by decide +kernel⟩
abbrev N_check_replica : List Str := ["replica"]
theorem sc_check_replica : FnScope N_check_replica ["replica"] (defScope s_check_replica) := ⟨rfl, rfl, rfl, by decide +kernel, rfl, by decide +kernel, by decide +kernel⟩
abbrev N_require_key : List Str := ["keys", "key"]
theorem sc_require_key : FnScope N_require_key ["keys", "key"] (defScope s_require_key) := ⟨rfl, rfl, rfl, by decide +kernel, rfl, by decide +kernel, by decide +kernel⟩
abbrev N_State_says : List Str := ["self", "replica", "x", "y", "place"]
theorem sc_State_says : FnScope N_State_says ["self", "replica", "x", "y"] (defScope s_State_says) := ⟨rfl, rfl, rfl, by decide +kernel, rfl, by decide +kernel, by decide +kernel⟩
abbrev N__other_replicas : List Str := ["replica", "other"]
theorem sc__other_replicas : FnScope N__other_replicas ["replica"] (defScope s__other_replicas) := ⟨rfl, rfl, rfl, by decide +kernel, rfl, by decide +kernel, by decide +kernel⟩
abbrev N_State_list_of : List Str := ["self", "replica"]
theorem sc_State_list_of : FnScope N_State_list_of ["self", "replica"] (defScope s_State_list_of) := ⟨rfl, rfl, rfl, by decide +kernel, rfl, by decide +kernel, by decide +kernel⟩
abbrev N_State___len__ : List Str := ["self"]
theorem sc_State___len__ : FnScope N_State___len__ ["self"] (defScope s_State___len__) := ⟨rfl, rfl, rfl, by decide +kernel, rfl, by decide +kernel, by decide +kernel⟩
abbrev N_is_swap : List Str := ["state", "swap", "last", "replica", "index"]
theorem sc_is_swap : FnScope N_is_swap ["state", "swap"] (defScope s_is_swap) := ⟨rfl, rfl, rfl, by decide +kernel, rfl, by decide +kernel, by decide +kernel⟩
abbrev N_swap_pair : List Str := ["state", "swap", "order", "replica", "index"]
theorem sc_swap_pair : FnScope N_swap_pair ["state", "swap"] (defScope s_swap_pair) := ⟨rfl, rfl, rfl, by decide +kernel, rfl, by decide +kernel, by decide +kernel⟩
abbrev N_is_silent : List Str := ["state", "swap", "x", "y", "first", "second"]
theorem sc_is_silent : FnScope N_is_silent ["state", "swap"] (defScope s_is_silent) := ⟨rfl, rfl, rfl, by decide +kernel, rfl, by decide +kernel, by decide +kernel⟩
abbrev N_State_all_keys : List Str := ["self"]
theorem sc_State_all_keys : FnScope N_State_all_keys ["self"] (defScope s_State_all_keys) := ⟨rfl, rfl, rfl, by decide +kernel, rfl, by decide +kernel, by decide +kernel⟩
abbrev N_State_with_list : List Str := ["self", "replica", "order", "orders", "first", "second", "third"]
theorem sc_State_with_list : FnScope N_State_with_list ["self", "replica", "order"] (defScope s_State_with_list) := ⟨rfl, rfl, rfl, by decide +kernel, rfl, by decide +kernel, by decide +kernel⟩
abbrev N_check_list : List Str := ["order", "place"]
theorem sc_check_list : FnScope N_check_list ["order"] (defScope s_check_list) := ⟨rfl, rfl, rfl, by decide +kernel, rfl, by decide +kernel, by decide +kernel⟩
abbrev N_swap_at : List Str := ["order", "index", "swapped"]
theorem sc_swap_at : FnScope N_swap_at ["order", "index"] (defScope s_swap_at) := ⟨rfl, rfl, rfl, by decide +kernel, rfl, by decide +kernel, by decide +kernel⟩
abbrev N_swapped_state : List Str := ["state", "swap", "replica", "index"]
theorem sc_swapped_state : FnScope N_swapped_state ["state", "swap"] (defScope s_swapped_state) := ⟨rfl, rfl, rfl, by decide +kernel, rfl, by decide +kernel, by decide +kernel⟩
abbrev N_apply_swap : List Str := ["state", "swap"]
theorem sc_apply_swap : FnScope N_apply_swap ["state", "swap"] (defScope s_apply_swap) := ⟨rfl, rfl, rfl, by decide +kernel, rfl, by decide +kernel, by decide +kernel⟩
abbrev N_dissenter : List Str := ["state", "x", "y", "words", "replica", "word"]
theorem sc_dissenter : FnScope N_dissenter ["state", "x", "y"] (defScope s_dissenter) := ⟨rfl, rfl, rfl, by decide +kernel, rfl, by decide +kernel, by decide +kernel⟩
abbrev N_barred_by : List Str := ["state", "swap", "x", "y"]
theorem sc_barred_by : FnScope N_barred_by ["state", "swap"] (defScope s_barred_by) := ⟨rfl, rfl, rfl, by decide +kernel, rfl, by decide +kernel, by decide +kernel⟩
abbrev N__law_call : List Str := ["_law_state", "_law_swap", "_law_way"]
theorem sc__law_call : FnScope N__law_call ["_law_state", "_law_swap", "_law_way"] (defScope s__law_call) := ⟨rfl, rfl, rfl, by decide +kernel, rfl, by decide +kernel, by decide +kernel⟩
abbrev N__law_tried : List Str := ["_law_state", "_law_swap", "_law_way", "stray", "heard", "_law_told", "_law_good"]
theorem sc__law_tried : FnScope N__law_tried ["_law_state", "_law_swap", "_law_way"] (defScope s__law_tried) := ⟨rfl, rfl, rfl, by decide +kernel, rfl, by decide +kernel, by decide +kernel⟩
abbrev N__law_refuses : List Str := ["_law_state", "_law_lacking_here", "_law_swap", "_law_way"]
theorem sc__law_refuses : FnScope N__law_refuses ["_law_state", "_law_lacking_here"] (defScope s__law_refuses) := ⟨rfl, rfl, rfl, by decide +kernel, rfl, by decide +kernel, by decide +kernel⟩
abbrev N_Reading_pairs : List Str := ["self"]
theorem sc_Reading_pairs : FnScope N_Reading_pairs ["self"] (defScope s_Reading_pairs) := ⟨rfl, rfl, rfl, by decide +kernel, rfl, by decide +kernel, by decide +kernel⟩
abbrev N__law_is_tuple : List Str := ["_law_actual", "_law_due"]
theorem sc__law_is_tuple : FnScope N__law_is_tuple ["_law_actual", "_law_due"] (defScope s__law_is_tuple) := ⟨rfl, rfl, rfl, by decide +kernel, rfl, by decide +kernel, by decide +kernel⟩
abbrev N__law_is_tuples : List Str := ["_law_actual", "_law_due", "_law_k"]
theorem sc__law_is_tuples : FnScope N__law_is_tuples ["_law_actual", "_law_due"] (defScope s__law_is_tuples) := ⟨rfl, rfl, rfl, by decide +kernel, rfl, by decide +kernel, by decide +kernel⟩
abbrev N__law_words : List Str := ["_law_order_here", "_law_words_here", "_law_i", "_law_j"]
theorem sc__law_words : FnScope N__law_words ["_law_order_here"] (defScope s__law_words) := ⟨rfl, rfl, rfl, by decide +kernel, rfl, by decide +kernel, by decide +kernel⟩
abbrev N__law_reading : List Str := ["_law_lists_here", "_law_words_here", "_law_keys_here", "_law_said", "_law_x", "_law_y", "_law_order_here", "_law_one"]
theorem sc__law_reading : FnScope N__law_reading ["_law_lists_here"] (defScope s__law_reading) := ⟨rfl, rfl, rfl, by decide +kernel, rfl, by decide +kernel, by decide +kernel⟩
abbrev N_Reading__in_a_cycle : List Str := ["self", "x", "y", "z"]
theorem sc_Reading__in_a_cycle : FnScope N_Reading__in_a_cycle ["self", "x", "y"] (defScope s_Reading__in_a_cycle) := ⟨rfl, rfl, rfl, by decide +kernel, rfl, by decide +kernel, by decide +kernel⟩
abbrev N_Reading_pinned : List Str := ["self", "x", "y"]
theorem sc_Reading_pinned : FnScope N_Reading_pinned ["self"] (defScope s_Reading_pinned) := ⟨rfl, rfl, rfl, by decide +kernel, rfl, by decide +kernel, by decide +kernel⟩
abbrev N__first_wrong_pair : List Str := ["keys", "pairs", "at", "x", "y"]
theorem sc__first_wrong_pair : FnScope N__first_wrong_pair ["keys", "pairs"] (defScope s__first_wrong_pair) := ⟨rfl, rfl, rfl, by decide +kernel, rfl, by decide +kernel, by decide +kernel⟩
abbrev N_Reading___init__ : List Str := ["self", "all_keys", "pairs", "keys", "before", "wrong", "x", "y"]
theorem sc_Reading___init__ : FnScope N_Reading___init__ ["self", "all_keys", "pairs"] (defScope s_Reading___init__) := ⟨rfl, rfl, rfl, by decide +kernel, rfl, by decide +kernel, by decide +kernel⟩
abbrev N_read : List Str := ["state", "places", "keys", "pairs", "order", "x", "y", "place"]
theorem sc_read : FnScope N_read ["state"] (defScope s_read) := ⟨rfl, rfl, rfl, by decide +kernel, rfl, by decide +kernel, by decide +kernel⟩
abbrev N_dealing : List Str := ["state", "x", "y"]
theorem sc_dealing : FnScope N_dealing ["state"] (defScope s_dealing) := ⟨rfl, rfl, rfl, by decide +kernel, rfl, by decide +kernel, by decide +kernel⟩
abbrev N__law_deep_holds : List Str := ["_law_state", "_law_lists_here", "_law_swap", "_law_silent_here", "_law_shares_here", "_law_after_here", "_law_moved"]
theorem sc__law_deep_holds : FnScope N__law_deep_holds ["_law_state", "_law_lists_here", "_law_swap", "_law_silent_here", "_law_shares_here"] (defScope s__law_deep_holds) := ⟨rfl, rfl, rfl, by decide +kernel, rfl, by decide +kernel, by decide +kernel⟩
abbrev N__law_is_tuples_own : List Str := ["_law_actual", "_law_due", "_law_k"]
theorem sc__law_is_tuples_own : FnScope N__law_is_tuples_own ["_law_actual", "_law_due"] (defScope s__law_is_tuples_own) := ⟨rfl, rfl, rfl, by decide +kernel, rfl, by decide +kernel, by decide +kernel⟩
abbrev N__law_shares : List Str := ["_law_lists_here", "_law_words_here", "_law_said", "_law_known", "_law_pair", "_law_shares_here", "_law_circle_here", "_law_replica", "_law_order_here", "_law_z"]
theorem sc__law_shares : FnScope N__law_shares ["_law_lists_here"] (defScope s__law_shares) := ⟨rfl, rfl, rfl, by decide +kernel, rfl, by decide +kernel, by decide +kernel⟩
abbrev N_State_lists_own : List Str := ["self", "order"]
theorem sc_State_lists_own : FnScope N_State_lists_own ["self"] (defScope s_State_lists_own) := ⟨rfl, rfl, rfl, by decide +kernel, rfl, by decide +kernel, by decide +kernel⟩
abbrev N__law_is_truth : List Str := ["_law_actual", "_law_due"]
theorem sc__law_is_truth : FnScope N__law_is_truth ["_law_actual", "_law_due"] (defScope s__law_is_truth) := ⟨rfl, rfl, rfl, by decide +kernel, rfl, by decide +kernel, by decide +kernel⟩
abbrev N__law_swap_holds : List Str := ["_law_state", "_law_lists_here", "_law_swap", "_law_silent_here", "_law_said", "_law_x", "_law_y", "_law_others", "_law_first", "_law_against", "_law_barrier", "_law_answer", "_law_after_here", "_law_given", "_law_k"]
theorem sc__law_swap_holds : FnScope N__law_swap_holds ["_law_state", "_law_lists_here", "_law_swap", "_law_silent_here", "_law_said"] (defScope s__law_swap_holds) := ⟨rfl, rfl, rfl, by decide +kernel, rfl, by decide +kernel, by decide +kernel⟩
abbrev N_silent_swaps : List Str := ["state", "swaps", "replica", "index", "swap"]
theorem sc_silent_swaps : FnScope N_silent_swaps ["state"] (defScope s_silent_swaps) := ⟨rfl, rfl, rfl, by decide +kernel, rfl, by decide +kernel, by decide +kernel⟩
abbrev N__law_state_holds : List Str := ["_law_state", "_law_lists_here", "_law_drawn", "_law_said", "_law_shares_here", "_law_size", "_law_due", "_law_replica", "_law_told", "_law_index", "_law_swap", "_law_silent_here"]
theorem sc__law_state_holds : FnScope N__law_state_holds ["_law_state", "_law_lists_here", "_law_drawn"] (defScope s__law_state_holds) := ⟨rfl, rfl, rfl, by decide +kernel, rfl, by decide +kernel, by decide +kernel⟩
abbrev N_law : List Str := ["_law_script", "_law_box_here", "_law_lists_here", "_law_size", "_law_drawn", "_law_lacking_here", "_law_handed", "_law_state", "_law_turned", "_law_other", "_law_order_here"]
theorem sc_law : FnScope N_law ["_law_script"] (defScope s_law) := ⟨rfl, rfl, rfl, by decide +kernel, rfl, by decide +kernel, by decide +kernel⟩
structure TX (P : Program) (K : PySem.W.Frag) (mg : Str → Option Value) : Prop where
  F_first_wrong_place : ∃ fd, FunD K "first_wrong_place" "first_wrong_place" (defArgs s_first_wrong_place) (defBody s_first_wrong_place) (defScope s_first_wrong_place) [] [] (He.ga K "first_wrong_place") fd
  g_first_wrong_place : mg "first_wrong_place" = some (.ref (He.ga K "first_wrong_place"))
  F__wrong_replica : ∃ fd, FunD K "_wrong_replica" "_wrong_replica" (defArgs s__wrong_replica) (defBody s__wrong_replica) (defScope s__wrong_replica) [] [] (He.ga K "_wrong_replica") fd
  g__wrong_replica : mg "_wrong_replica" = some (.ref (He.ga K "_wrong_replica"))
  F_index_of : ∃ fd, FunD K "index_of" "index_of" (defArgs s_index_of) (defBody s_index_of) (defScope s_index_of) [] [] (He.ga K "index_of") fd
  g_index_of : mg "index_of" = some (.ref (He.ga K "index_of"))
  F_State___init__ : ∃ fd, FunD K "__init__" "State.__init__" (defArgs s_State___init__) (defBody s_State___init__) (defScope s_State___init__) [] [] (He.ma K (He.ga K "State") "__init__") fd
  M_State___init__ : Meth K (He.ga K "State") "__init__" (He.ma K (He.ga K "State") "__init__")
  F__law_box : ∃ fd, FunD K "_law_box" "_law_box" (defArgs s__law_box) (defBody s__law_box) (defScope s__law_box) [] [] (He.ga K "_law_box") fd
  g__law_box : mg "_law_box" = some (.ref (He.ga K "_law_box"))
  F_State_lists : ∃ fd, FunD K "lists" "State.lists" (defArgs s_State_lists) (defBody s_State_lists) (defScope s_State_lists) [] [] (He.ma K (He.ga K "State") "lists") fd
  M_State_lists : Meth K (He.ga K "State") "lists" (He.ma K (He.ga K "State") "lists")
  F__law_is_number : ∃ fd, FunD K "_law_is_number" "_law_is_number" (defArgs s__law_is_number) (defBody s__law_is_number) (defScope s__law_is_number) [] [] (He.ga K "_law_is_number") fd
  g__law_is_number : mg "_law_is_number" = some (.ref (He.ga K "_law_is_number"))
  F__law_is_row : ∃ fd, FunD K "_law_is_row" "_law_is_row" (defArgs s__law_is_row) (defBody s__law_is_row) (defScope s__law_is_row) [] [] (He.ga K "_law_is_row") fd
  g__law_is_row : mg "_law_is_row" = some (.ref (He.ga K "_law_is_row"))
  F__law_is_state : ∃ fd, FunD K "_law_is_state" "_law_is_state" (defArgs s__law_is_state) (defBody s__law_is_state) (defScope s__law_is_state) [] [] (He.ga K "_law_is_state") fd
  g__law_is_state : mg "_law_is_state" = some (.ref (He.ga K "_law_is_state"))
  F__law_take : ∃ fd, FunD K "_law_take" "_law_take" (defArgs s__law_take) (defBody s__law_take) (defScope s__law_take) [] [] (He.ga K "_law_take") fd
  g__law_take : mg "_law_take" = some (.ref (He.ga K "_law_take"))
  F__law_lacking : ∃ fd, FunD K "_law_lacking" "_law_lacking" (defArgs s__law_lacking) (defBody s__law_lacking) (defScope s__law_lacking) [] [] (He.ga K "_law_lacking") fd
  g__law_lacking : mg "_law_lacking" = some (.ref (He.ga K "_law_lacking"))
  F__law_swapped : ∃ fd, FunD K "_law_swapped" "_law_swapped" (defArgs s__law_swapped) (defBody s__law_swapped) (defScope s__law_swapped) [] [] (He.ga K "_law_swapped") fd
  g__law_swapped : mg "_law_swapped" = some (.ref (He.ga K "_law_swapped"))
  F__law_after : ∃ fd, FunD K "_law_after" "_law_after" (defArgs s__law_after) (defBody s__law_after) (defScope s__law_after) [] [] (He.ga K "_law_after") fd
  g__law_after : mg "_law_after" = some (.ref (He.ga K "_law_after"))
  F__law_circle : ∃ fd, FunD K "_law_circle" "_law_circle" (defArgs s__law_circle) (defBody s__law_circle) (defScope s__law_circle) [] [] (He.ga K "_law_circle") fd
  g__law_circle : mg "_law_circle" = some (.ref (He.ga K "_law_circle"))
  F__law_order : ∃ fd, FunD K "_law_order" "_law_order" (defArgs s__law_order) (defBody s__law_order) (defScope s__law_order) [] [] (He.ga K "_law_order") fd
  g__law_order : mg "_law_order" = some (.ref (He.ga K "_law_order"))
  F__law_keys : ∃ fd, FunD K "_law_keys" "_law_keys" (defArgs s__law_keys) (defBody s__law_keys) (defScope s__law_keys) [] [] (He.ga K "_law_keys") fd
  g__law_keys : mg "_law_keys" = some (.ref (He.ga K "_law_keys"))
  F__law_quiet : ∃ fd, FunD K "_law_quiet" "_law_quiet" (defArgs s__law_quiet) (defBody s__law_quiet) (defScope s__law_quiet) [] [] (He.ga K "_law_quiet") fd
  g__law_quiet : mg "_law_quiet" = some (.ref (He.ga K "_law_quiet"))
  F__law_silent : ∃ fd, FunD K "_law_silent" "_law_silent" (defArgs s__law_silent) (defBody s__law_silent) (defScope s__law_silent) [] [] (He.ga K "_law_silent") fd
  g__law_silent : mg "_law_silent" = some (.ref (He.ga K "_law_silent"))
  F__law_walk : ∃ fd, FunD K "_law_walk" "_law_walk" (defArgs s__law_walk) (defBody s__law_walk) (defScope s__law_walk) [] [] (He.ga K "_law_walk") fd
  g__law_walk : mg "_law_walk" = some (.ref (He.ga K "_law_walk"))
  F__law_lists : ∃ fd, FunD K "_law_lists" "_law_lists" (defArgs s__law_lists) (defBody s__law_lists) (defScope s__law_lists) [] [] (He.ga K "_law_lists") fd
  g__law_lists : mg "_law_lists" = some (.ref (He.ga K "_law_lists"))
  F__law_refused : ∃ fd, FunD K "_law_refused" "_law_refused" (defArgs s__law_refused) (defBody s__law_refused) (defScope s__law_refused) [] [] (He.ga K "_law_refused") fd
  g__law_refused : mg "_law_refused" = some (.ref (He.ga K "_law_refused"))
  F_check_replica : ∃ fd, FunD K "check_replica" "check_replica" (defArgs s_check_replica) (defBody s_check_replica) (defScope s_check_replica) [] [] (He.ga K "check_replica") fd
  g_check_replica : mg "check_replica" = some (.ref (He.ga K "check_replica"))
  F_require_key : ∃ fd, FunD K "require_key" "require_key" (defArgs s_require_key) (defBody s_require_key) (defScope s_require_key) [] [] (He.ga K "require_key") fd
  g_require_key : mg "require_key" = some (.ref (He.ga K "require_key"))
  F_State_says : ∃ fd, FunD K "says" "State.says" (defArgs s_State_says) (defBody s_State_says) (defScope s_State_says) [] [] (He.ma K (He.ga K "State") "says") fd
  M_State_says : Meth K (He.ga K "State") "says" (He.ma K (He.ga K "State") "says")
  F__other_replicas : ∃ fd, FunD K "_other_replicas" "_other_replicas" (defArgs s__other_replicas) (defBody s__other_replicas) (defScope s__other_replicas) [] [] (He.ga K "_other_replicas") fd
  g__other_replicas : mg "_other_replicas" = some (.ref (He.ga K "_other_replicas"))
  F_State_list_of : ∃ fd, FunD K "list_of" "State.list_of" (defArgs s_State_list_of) (defBody s_State_list_of) (defScope s_State_list_of) [] [] (He.ma K (He.ga K "State") "list_of") fd
  M_State_list_of : Meth K (He.ga K "State") "list_of" (He.ma K (He.ga K "State") "list_of")
  F_State___len__ : ∃ fd, FunD K "__len__" "State.__len__" (defArgs s_State___len__) (defBody s_State___len__) (defScope s_State___len__) [] [] (He.ma K (He.ga K "State") "__len__") fd
  M_State___len__ : Meth K (He.ga K "State") "__len__" (He.ma K (He.ga K "State") "__len__")
  F_is_swap : ∃ fd, FunD K "is_swap" "is_swap" (defArgs s_is_swap) (defBody s_is_swap) (defScope s_is_swap) [] [] (He.ga K "is_swap") fd
  g_is_swap : mg "is_swap" = some (.ref (He.ga K "is_swap"))
  F_swap_pair : ∃ fd, FunD K "swap_pair" "swap_pair" (defArgs s_swap_pair) (defBody s_swap_pair) (defScope s_swap_pair) [] [] (He.ga K "swap_pair") fd
  g_swap_pair : mg "swap_pair" = some (.ref (He.ga K "swap_pair"))
  F_is_silent : ∃ fd, FunD K "is_silent" "is_silent" (defArgs s_is_silent) (defBody s_is_silent) (defScope s_is_silent) [] [] (He.ga K "is_silent") fd
  g_is_silent : mg "is_silent" = some (.ref (He.ga K "is_silent"))
  F_State_all_keys : ∃ fd, FunD K "all_keys" "State.all_keys" (defArgs s_State_all_keys) (defBody s_State_all_keys) (defScope s_State_all_keys) [] [] (He.ma K (He.ga K "State") "all_keys") fd
  M_State_all_keys : Meth K (He.ga K "State") "all_keys" (He.ma K (He.ga K "State") "all_keys")
  F_State_with_list : ∃ fd, FunD K "with_list" "State.with_list" (defArgs s_State_with_list) (defBody s_State_with_list) (defScope s_State_with_list) [] [] (He.ma K (He.ga K "State") "with_list") fd
  M_State_with_list : Meth K (He.ga K "State") "with_list" (He.ma K (He.ga K "State") "with_list")
  F_check_list : ∃ fd, FunD K "check_list" "check_list" (defArgs s_check_list) (defBody s_check_list) (defScope s_check_list) [] [] (He.ga K "check_list") fd
  g_check_list : mg "check_list" = some (.ref (He.ga K "check_list"))
  F_swap_at : ∃ fd, FunD K "swap_at" "swap_at" (defArgs s_swap_at) (defBody s_swap_at) (defScope s_swap_at) [] [] (He.ga K "swap_at") fd
  g_swap_at : mg "swap_at" = some (.ref (He.ga K "swap_at"))
  F_swapped_state : ∃ fd, FunD K "swapped_state" "swapped_state" (defArgs s_swapped_state) (defBody s_swapped_state) (defScope s_swapped_state) [] [] (He.ga K "swapped_state") fd
  g_swapped_state : mg "swapped_state" = some (.ref (He.ga K "swapped_state"))
  F_apply_swap : ∃ fd, FunD K "apply_swap" "apply_swap" (defArgs s_apply_swap) (defBody s_apply_swap) (defScope s_apply_swap) [] [] (He.ga K "apply_swap") fd
  g_apply_swap : mg "apply_swap" = some (.ref (He.ga K "apply_swap"))
  F_dissenter : ∃ fd, FunD K "dissenter" "dissenter" (defArgs s_dissenter) (defBody s_dissenter) (defScope s_dissenter) [] [] (He.ga K "dissenter") fd
  g_dissenter : mg "dissenter" = some (.ref (He.ga K "dissenter"))
  F_barred_by : ∃ fd, FunD K "barred_by" "barred_by" (defArgs s_barred_by) (defBody s_barred_by) (defScope s_barred_by) [] [] (He.ga K "barred_by") fd
  g_barred_by : mg "barred_by" = some (.ref (He.ga K "barred_by"))
  F__law_call : ∃ fd, FunD K "_law_call" "_law_call" (defArgs s__law_call) (defBody s__law_call) (defScope s__law_call) [] [] (He.ga K "_law_call") fd
  g__law_call : mg "_law_call" = some (.ref (He.ga K "_law_call"))
  F__law_tried : ∃ fd, FunD K "_law_tried" "_law_tried" (defArgs s__law_tried) (defBody s__law_tried) (defScope s__law_tried) [] [] (He.ga K "_law_tried") fd
  g__law_tried : mg "_law_tried" = some (.ref (He.ga K "_law_tried"))
  F__law_refuses : ∃ fd, FunD K "_law_refuses" "_law_refuses" (defArgs s__law_refuses) (defBody s__law_refuses) (defScope s__law_refuses) [] [] (He.ga K "_law_refuses") fd
  g__law_refuses : mg "_law_refuses" = some (.ref (He.ga K "_law_refuses"))
  F_Reading_pairs : ∃ fd, FunD K "pairs" "Reading.pairs" (defArgs s_Reading_pairs) (defBody s_Reading_pairs) (defScope s_Reading_pairs) [] [] (He.ma K (He.ga K "Reading") "pairs") fd
  M_Reading_pairs : Meth K (He.ga K "Reading") "pairs" (He.ma K (He.ga K "Reading") "pairs")
  F__law_is_tuple : ∃ fd, FunD K "_law_is_tuple" "_law_is_tuple" (defArgs s__law_is_tuple) (defBody s__law_is_tuple) (defScope s__law_is_tuple) [] [] (He.ga K "_law_is_tuple") fd
  g__law_is_tuple : mg "_law_is_tuple" = some (.ref (He.ga K "_law_is_tuple"))
  F__law_is_tuples : ∃ fd, FunD K "_law_is_tuples" "_law_is_tuples" (defArgs s__law_is_tuples) (defBody s__law_is_tuples) (defScope s__law_is_tuples) [] [] (He.ga K "_law_is_tuples") fd
  g__law_is_tuples : mg "_law_is_tuples" = some (.ref (He.ga K "_law_is_tuples"))
  F__law_words : ∃ fd, FunD K "_law_words" "_law_words" (defArgs s__law_words) (defBody s__law_words) (defScope s__law_words) [] [] (He.ga K "_law_words") fd
  g__law_words : mg "_law_words" = some (.ref (He.ga K "_law_words"))
  F__law_reading : ∃ fd, FunD K "_law_reading" "_law_reading" (defArgs s__law_reading) (defBody s__law_reading) (defScope s__law_reading) [] [] (He.ga K "_law_reading") fd
  g__law_reading : mg "_law_reading" = some (.ref (He.ga K "_law_reading"))
  F_Reading__in_a_cycle : ∃ fd, FunD K "_in_a_cycle" "Reading._in_a_cycle" (defArgs s_Reading__in_a_cycle) (defBody s_Reading__in_a_cycle) (defScope s_Reading__in_a_cycle) [] [] (He.ma K (He.ga K "Reading") "_in_a_cycle") fd
  M_Reading__in_a_cycle : Meth K (He.ga K "Reading") "_in_a_cycle" (He.ma K (He.ga K "Reading") "_in_a_cycle")
  F_Reading_pinned : ∃ fd, FunD K "pinned" "Reading.pinned" (defArgs s_Reading_pinned) (defBody s_Reading_pinned) (defScope s_Reading_pinned) [] [] (He.ma K (He.ga K "Reading") "pinned") fd
  M_Reading_pinned : Meth K (He.ga K "Reading") "pinned" (He.ma K (He.ga K "Reading") "pinned")
  F__first_wrong_pair : ∃ fd, FunD K "_first_wrong_pair" "_first_wrong_pair" (defArgs s__first_wrong_pair) (defBody s__first_wrong_pair) (defScope s__first_wrong_pair) [] [] (He.ga K "_first_wrong_pair") fd
  g__first_wrong_pair : mg "_first_wrong_pair" = some (.ref (He.ga K "_first_wrong_pair"))
  F_Reading___init__ : ∃ fd, FunD K "__init__" "Reading.__init__" (defArgs s_Reading___init__) (defBody s_Reading___init__) (defScope s_Reading___init__) [] [] (He.ma K (He.ga K "Reading") "__init__") fd
  M_Reading___init__ : Meth K (He.ga K "Reading") "__init__" (He.ma K (He.ga K "Reading") "__init__")
  F_read : ∃ fd, FunD K "read" "read" (defArgs s_read) (defBody s_read) (defScope s_read) [] [] (He.ga K "read") fd
  g_read : mg "read" = some (.ref (He.ga K "read"))
  F_dealing : ∃ fd, FunD K "dealing" "dealing" (defArgs s_dealing) (defBody s_dealing) (defScope s_dealing) [] [] (He.ga K "dealing") fd
  g_dealing : mg "dealing" = some (.ref (He.ga K "dealing"))
  F__law_deep_holds : ∃ fd, FunD K "_law_deep_holds" "_law_deep_holds" (defArgs s__law_deep_holds) (defBody s__law_deep_holds) (defScope s__law_deep_holds) [] [] (He.ga K "_law_deep_holds") fd
  g__law_deep_holds : mg "_law_deep_holds" = some (.ref (He.ga K "_law_deep_holds"))
  F__law_is_tuples_own : ∃ fd, FunD K "_law_is_tuples" "_law_is_tuples" (defArgs s__law_is_tuples_own) (defBody s__law_is_tuples_own) (defScope s__law_is_tuples_own) [] [] (He.ga K "_law_is_tuples") fd
  g__law_is_tuples_own : mg "_law_is_tuples" = some (.ref (He.ga K "_law_is_tuples"))
  F__law_shares : ∃ fd, FunD K "_law_shares" "_law_shares" (defArgs s__law_shares) (defBody s__law_shares) (defScope s__law_shares) [] [] (He.ga K "_law_shares") fd
  g__law_shares : mg "_law_shares" = some (.ref (He.ga K "_law_shares"))
  F_State_lists_own : ∃ fd, FunD K "lists" "State.lists" (defArgs s_State_lists_own) (defBody s_State_lists_own) (defScope s_State_lists_own) [] [] (He.ma K (He.ga K "State") "lists") fd
  M_State_lists_own : Meth K (He.ga K "State") "lists" (He.ma K (He.ga K "State") "lists")
  F__law_is_truth : ∃ fd, FunD K "_law_is_truth" "_law_is_truth" (defArgs s__law_is_truth) (defBody s__law_is_truth) (defScope s__law_is_truth) [] [] (He.ga K "_law_is_truth") fd
  g__law_is_truth : mg "_law_is_truth" = some (.ref (He.ga K "_law_is_truth"))
  F__law_swap_holds : ∃ fd, FunD K "_law_swap_holds" "_law_swap_holds" (defArgs s__law_swap_holds) (defBody s__law_swap_holds) (defScope s__law_swap_holds) [] [] (He.ga K "_law_swap_holds") fd
  g__law_swap_holds : mg "_law_swap_holds" = some (.ref (He.ga K "_law_swap_holds"))
  F_silent_swaps : ∃ fd, FunD K "silent_swaps" "silent_swaps" (defArgs s_silent_swaps) (defBody s_silent_swaps) (defScope s_silent_swaps) [] [] (He.ga K "silent_swaps") fd
  g_silent_swaps : mg "silent_swaps" = some (.ref (He.ga K "silent_swaps"))
  F__law_state_holds : ∃ fd, FunD K "_law_state_holds" "_law_state_holds" (defArgs s__law_state_holds) (defBody s__law_state_holds) (defScope s__law_state_holds) [] [] (He.ga K "_law_state_holds") fd
  g__law_state_holds : mg "_law_state_holds" = some (.ref (He.ga K "_law_state_holds"))
  F_law : ∃ fd, FunD K "law" "law" (defArgs s_law) (defBody s_law) (defScope s_law) [] [] (He.ga K "law") fd
  g_law : mg "law" = some (.ref (He.ga K "law"))
  C_Reading : Cls K (He.ga K "Reading")
  C_State : Cls K (He.ga K "State")
  mk_Reading : Mk K (He.ga K "Reading") (He.ma K (He.ga K "Reading") "__init__")
  mk_State : Mk K (He.ga K "State") (He.ma K (He.ga K "State") "__init__")
  na_Reading__before : NoAttr K (He.ga K "Reading") "_before"
  na_Reading__keys : NoAttr K (He.ga K "Reading") "_keys"
  na_State__lists : NoAttr K (He.ga K "State") "_lists"
  na_State__places : NoAttr K (He.ga K "State") "_places"
  isc_State : C8.InsC K (He.ga K "State")
  cv_State_REPLICAS : ClX.CRead K (He.ga K "State") (.type "type") ∧ ∃ u, ClX.CVal K (He.ga K "State") (.type "type") "REPLICAS" (.int 3) u
  g_AudibleSwap : mg "AudibleSwap" = some (.ref (He.ga K "AudibleSwap"))
  g_DriftError : mg "DriftError" = some (.ref (He.ga K "DriftError"))
  g_InvalidList : mg "InvalidList" = some (.ref (He.ga K "InvalidList"))
  g_InvalidReading : mg "InvalidReading" = some (.ref (He.ga K "InvalidReading"))
  g_InvalidState : mg "InvalidState" = some (.ref (He.ga K "InvalidState"))
  g_InvalidSwap : mg "InvalidSwap" = some (.ref (He.ga K "InvalidSwap"))
  g_Reading : mg "Reading" = some (.ref (He.ga K "Reading"))
  g_State : mg "State" = some (.ref (He.ga K "State"))
  g_UnknownKey : mg "UnknownKey" = some (.ref (He.ga K "UnknownKey"))
  g_UnknownReplica : mg "UnknownReplica" = some (.ref (He.ga K "UnknownReplica"))
  n_ValueError : mg "ValueError" = none
  n_abs : mg "abs" = none
  n_any : mg "any" = none
  n_bool : mg "bool" = none
  n_enumerate : mg "enumerate" = none
  n_int : mg "int" = none
  n_isinstance : mg "isinstance" = none
  n_len : mg "len" = none
  n_list : mg "list" = none
  n_max : mg "max" = none
  n_range : mg "range" = none
  n_sorted : mg "sorted" = none
  n_super : mg "super" = none
  n_tuple : mg "tuple" = none
  i_MAX_KEY : ∃ t, mg "MAX_KEY" = some (.int 9999 t)
  i_MAX_KEYS : ∃ t, mg "MAX_KEYS" = some (.int 12 t)
  tx_AudibleSwap : OwnX.Txt P K "step" (msgOf i_AudibleSwap) (He.ga K "AudibleSwap") (PyH.iAd K "AudibleSwap")
  tx_InvalidList : OwnX.Txt P K "place" (msgOf i_InvalidList) (He.ga K "InvalidList") (PyH.iAd K "InvalidList")
  tx_InvalidReading : OwnX.Txt P K "pair" (msgOf i_InvalidReading) (He.ga K "InvalidReading") (PyH.iAd K "InvalidReading")
  tx_InvalidState : OwnX.Txt P K "replica" (msgOf i_InvalidState) (He.ga K "InvalidState") (PyH.iAd K "InvalidState")
  tx_InvalidSwap : OwnX.Txt P K "step" (msgOf i_InvalidSwap) (He.ga K "InvalidSwap") (PyH.iAd K "InvalidSwap")
  tx_UnknownKey : OwnX.Txt P K "key" (msgOf i_UnknownKey) (He.ga K "UnknownKey") (PyH.iAd K "UnknownKey")
  tx_UnknownReplica : OwnX.Txt P K "replica" (msgOf i_UnknownReplica) (He.ga K "UnknownReplica") (PyH.iAd K "UnknownReplica")
  x_AudibleSwap : PyH.ExC2 K (He.ga K "AudibleSwap") "step"
  x_InvalidList : PyH.ExC2 K (He.ga K "InvalidList") "place"
  x_InvalidReading : PyH.ExC2 K (He.ga K "InvalidReading") "pair"
  x_InvalidState : PyH.ExC2 K (He.ga K "InvalidState") "replica"
  x_InvalidSwap : PyH.ExC2 K (He.ga K "InvalidSwap") "step"
  x_UnknownKey : PyH.ExC2 K (He.ga K "UnknownKey") "key"
  x_UnknownReplica : PyH.ExC2 K (He.ga K "UnknownReplica") "replica"
  exm_AudibleSwap_AudibleSwap : PySem.W.exmOne K (.ref (He.ga K "AudibleSwap")) (.ref (He.ga K "AudibleSwap")) = some true
  exm_AudibleSwap_InvalidSwap : PySem.W.exmOne K (.ref (He.ga K "AudibleSwap")) (.ref (He.ga K "InvalidSwap")) = some false
  exm_InvalidList_AudibleSwap : PySem.W.exmOne K (.ref (He.ga K "InvalidList")) (.ref (He.ga K "AudibleSwap")) = some false
  exm_InvalidList_InvalidSwap : PySem.W.exmOne K (.ref (He.ga K "InvalidList")) (.ref (He.ga K "InvalidSwap")) = some false
  exm_InvalidState_AudibleSwap : PySem.W.exmOne K (.ref (He.ga K "InvalidState")) (.ref (He.ga K "AudibleSwap")) = some false
  exm_InvalidState_InvalidSwap : PySem.W.exmOne K (.ref (He.ga K "InvalidState")) (.ref (He.ga K "InvalidSwap")) = some false
  exm_InvalidSwap_AudibleSwap : PySem.W.exmOne K (.ref (He.ga K "InvalidSwap")) (.ref (He.ga K "AudibleSwap")) = some false
  exm_InvalidSwap_InvalidSwap : PySem.W.exmOne K (.ref (He.ga K "InvalidSwap")) (.ref (He.ga K "InvalidSwap")) = some true
  exm_UnknownKey_AudibleSwap : PySem.W.exmOne K (.ref (He.ga K "UnknownKey")) (.ref (He.ga K "AudibleSwap")) = some false
  exm_UnknownKey_InvalidSwap : PySem.W.exmOne K (.ref (He.ga K "UnknownKey")) (.ref (He.ga K "InvalidSwap")) = some false
  exm_UnknownReplica_AudibleSwap : PySem.W.exmOne K (.ref (He.ga K "UnknownReplica")) (.ref (He.ga K "AudibleSwap")) = some false
  exm_UnknownReplica_InvalidSwap : PySem.W.exmOne K (.ref (He.ga K "UnknownReplica")) (.ref (He.ga K "InvalidSwap")) = some false
  kit_AudibleSwap_AudibleSwap : PySem.W.kitOne K (.ref (He.ga K "AudibleSwap")) (.ref (He.ga K "AudibleSwap")) = some true
  kit_AudibleSwap_DriftError : PySem.W.kitOne K (.ref (He.ga K "AudibleSwap")) (.ref (He.ga K "DriftError")) = some true
  kit_AudibleSwap_ValueError : PySem.W.kitOne K (.ref (He.ga K "AudibleSwap")) (.type "ValueError") = some true
  kit_InvalidList_AudibleSwap : PySem.W.kitOne K (.ref (He.ga K "InvalidList")) (.ref (He.ga K "AudibleSwap")) = some false
  kit_InvalidList_DriftError : PySem.W.kitOne K (.ref (He.ga K "InvalidList")) (.ref (He.ga K "DriftError")) = some true
  kit_InvalidList_ValueError : PySem.W.kitOne K (.ref (He.ga K "InvalidList")) (.type "ValueError") = some true
  kit_InvalidState_AudibleSwap : PySem.W.kitOne K (.ref (He.ga K "InvalidState")) (.ref (He.ga K "AudibleSwap")) = some false
  kit_InvalidState_DriftError : PySem.W.kitOne K (.ref (He.ga K "InvalidState")) (.ref (He.ga K "DriftError")) = some true
  kit_InvalidState_ValueError : PySem.W.kitOne K (.ref (He.ga K "InvalidState")) (.type "ValueError") = some true
  kit_InvalidSwap_AudibleSwap : PySem.W.kitOne K (.ref (He.ga K "InvalidSwap")) (.ref (He.ga K "AudibleSwap")) = some false
  kit_InvalidSwap_DriftError : PySem.W.kitOne K (.ref (He.ga K "InvalidSwap")) (.ref (He.ga K "DriftError")) = some true
  kit_InvalidSwap_ValueError : PySem.W.kitOne K (.ref (He.ga K "InvalidSwap")) (.type "ValueError") = some true
  kit_UnknownKey_AudibleSwap : PySem.W.kitOne K (.ref (He.ga K "UnknownKey")) (.ref (He.ga K "AudibleSwap")) = some false
  kit_UnknownKey_DriftError : PySem.W.kitOne K (.ref (He.ga K "UnknownKey")) (.ref (He.ga K "DriftError")) = some true
  kit_UnknownKey_ValueError : PySem.W.kitOne K (.ref (He.ga K "UnknownKey")) (.type "ValueError") = some true
  kit_UnknownReplica_AudibleSwap : PySem.W.kitOne K (.ref (He.ga K "UnknownReplica")) (.ref (He.ga K "AudibleSwap")) = some false
  kit_UnknownReplica_DriftError : PySem.W.kitOne K (.ref (He.ga K "UnknownReplica")) (.ref (He.ga K "DriftError")) = some true
  kit_UnknownReplica_ValueError : PySem.W.kitOne K (.ref (He.ga K "UnknownReplica")) (.type "ValueError") = some true
end K07
namespace K07
open PySem PySem.Spec PyProof.Rows L2
abbrev R : PySem.W.OpenRow := PySem.W.OpenLaw.row PySem.Challenge.rw_quorumdrift_k07_whole_silent_is_unnotice
def nm0 : List PySem.Str := [("_wall" : PySem.Str), ("DriftError" : PySem.Str), ("InvalidList" : PySem.Str), ("UnknownKey" : PySem.Str), ("UnknownReplica" : PySem.Str), ("InvalidState" : PySem.Str), ("SharedKey" : PySem.Str), ("InvalidReading" : PySem.Str), ("InvalidLine" : PySem.Str), ("InvalidSwap" : PySem.Str), ("AudibleSwap" : PySem.Str), ("MAX_KEYS" : PySem.Str), ("MAX_KEY" : PySem.Str), ("check_replica" : PySem.Str), ("first_wrong_place" : PySem.Str), ("check_list" : PySem.Str), ("index_of" : PySem.Str), ("swap_at" : PySem.Str), ("DIGITS" : PySem.Str), ("SEPARATOR" : PySem.Str), ("require_key" : PySem.Str), ("_wrong_replica" : PySem.Str), ("_is_key_text" : PySem.Str), ("State" : PySem.Str), ("_first_wrong_pair" : PySem.Str), ("Reading" : PySem.Str), ("read" : PySem.Str), ("dissenter" : PySem.Str), ("dealing" : PySem.Str), ("is_swap" : PySem.Str), ("swap_pair" : PySem.Str), ("is_silent" : PySem.Str), ("_other_replicas" : PySem.Str), ("barred_by" : PySem.Str), ("swapped_state" : PySem.Str), ("apply_swap" : PySem.Str), ("silent_swaps" : PySem.Str), ("_law_box" : PySem.Str), ("_law_take" : PySem.Str), ("_law_keys" : PySem.Str)]
def nm1 : List PySem.Str := [("_law_order" : PySem.Str), ("_law_quiet" : PySem.Str), ("_law_silent" : PySem.Str), ("_law_swapped" : PySem.Str), ("_law_walk" : PySem.Str), ("_law_after" : PySem.Str), ("_law_circle" : PySem.Str), ("_law_lists" : PySem.Str), ("_law_words" : PySem.Str), ("_law_reading" : PySem.Str), ("_law_shares" : PySem.Str), ("_law_lacking" : PySem.Str), ("_law_is_number" : PySem.Str), ("_law_is_truth" : PySem.Str), ("_law_is_row" : PySem.Str), ("_law_is_tuple" : PySem.Str), ("_law_is_tuples" : PySem.Str), ("_law_is_state" : PySem.Str), ("_law_call" : PySem.Str), ("_law_tried" : PySem.Str), ("_law_refused" : PySem.Str), ("_law_swap_holds" : PySem.Str), ("_law_deep_holds" : PySem.Str), ("_law_state_holds" : PySem.Str), ("_law_refuses" : PySem.Str)]
abbrev nms : List PySem.Str := nm0 ++ nm1
def d_first_wrong_place : He.DefD := ⟨("first_wrong_place", none), "first_wrong_place", "first_wrong_place", defArgs s_first_wrong_place, defBody s_first_wrong_place, defScope s_first_wrong_place, [], []⟩
def d__wrong_replica : He.DefD := ⟨("_wrong_replica", none), "_wrong_replica", "_wrong_replica", defArgs s__wrong_replica, defBody s__wrong_replica, defScope s__wrong_replica, [], []⟩
def d_index_of : He.DefD := ⟨("index_of", none), "index_of", "index_of", defArgs s_index_of, defBody s_index_of, defScope s_index_of, [], []⟩
def d_State___init__ : He.DefD := ⟨("State", some "__init__"), "__init__", "State.__init__", defArgs s_State___init__, defBody s_State___init__, defScope s_State___init__, [], []⟩
def d__law_box : He.DefD := ⟨("_law_box", none), "_law_box", "_law_box", defArgs s__law_box, defBody s__law_box, defScope s__law_box, [], []⟩
def d_State_lists : He.DefD := ⟨("State", some "lists"), "lists", "State.lists", defArgs s_State_lists, defBody s_State_lists, defScope s_State_lists, [], []⟩
def d__law_is_number : He.DefD := ⟨("_law_is_number", none), "_law_is_number", "_law_is_number", defArgs s__law_is_number, defBody s__law_is_number, defScope s__law_is_number, [], []⟩
def d__law_is_row : He.DefD := ⟨("_law_is_row", none), "_law_is_row", "_law_is_row", defArgs s__law_is_row, defBody s__law_is_row, defScope s__law_is_row, [], []⟩
def d__law_is_state : He.DefD := ⟨("_law_is_state", none), "_law_is_state", "_law_is_state", defArgs s__law_is_state, defBody s__law_is_state, defScope s__law_is_state, [], []⟩
def d__law_take : He.DefD := ⟨("_law_take", none), "_law_take", "_law_take", defArgs s__law_take, defBody s__law_take, defScope s__law_take, [], []⟩
def d__law_lacking : He.DefD := ⟨("_law_lacking", none), "_law_lacking", "_law_lacking", defArgs s__law_lacking, defBody s__law_lacking, defScope s__law_lacking, [], []⟩
def d__law_swapped : He.DefD := ⟨("_law_swapped", none), "_law_swapped", "_law_swapped", defArgs s__law_swapped, defBody s__law_swapped, defScope s__law_swapped, [], []⟩
def d__law_after : He.DefD := ⟨("_law_after", none), "_law_after", "_law_after", defArgs s__law_after, defBody s__law_after, defScope s__law_after, [], []⟩
def d__law_circle : He.DefD := ⟨("_law_circle", none), "_law_circle", "_law_circle", defArgs s__law_circle, defBody s__law_circle, defScope s__law_circle, [], []⟩
def d__law_order : He.DefD := ⟨("_law_order", none), "_law_order", "_law_order", defArgs s__law_order, defBody s__law_order, defScope s__law_order, [], []⟩
def d__law_keys : He.DefD := ⟨("_law_keys", none), "_law_keys", "_law_keys", defArgs s__law_keys, defBody s__law_keys, defScope s__law_keys, [], []⟩
def d__law_quiet : He.DefD := ⟨("_law_quiet", none), "_law_quiet", "_law_quiet", defArgs s__law_quiet, defBody s__law_quiet, defScope s__law_quiet, [], []⟩
def d__law_silent : He.DefD := ⟨("_law_silent", none), "_law_silent", "_law_silent", defArgs s__law_silent, defBody s__law_silent, defScope s__law_silent, [], []⟩
def d__law_walk : He.DefD := ⟨("_law_walk", none), "_law_walk", "_law_walk", defArgs s__law_walk, defBody s__law_walk, defScope s__law_walk, [], []⟩
def d__law_lists : He.DefD := ⟨("_law_lists", none), "_law_lists", "_law_lists", defArgs s__law_lists, defBody s__law_lists, defScope s__law_lists, [], []⟩
def d__law_refused : He.DefD := ⟨("_law_refused", none), "_law_refused", "_law_refused", defArgs s__law_refused, defBody s__law_refused, defScope s__law_refused, [], []⟩
def d_check_replica : He.DefD := ⟨("check_replica", none), "check_replica", "check_replica", defArgs s_check_replica, defBody s_check_replica, defScope s_check_replica, [], []⟩
def d_require_key : He.DefD := ⟨("require_key", none), "require_key", "require_key", defArgs s_require_key, defBody s_require_key, defScope s_require_key, [], []⟩
def d_State_says : He.DefD := ⟨("State", some "says"), "says", "State.says", defArgs s_State_says, defBody s_State_says, defScope s_State_says, [], []⟩
def d__other_replicas : He.DefD := ⟨("_other_replicas", none), "_other_replicas", "_other_replicas", defArgs s__other_replicas, defBody s__other_replicas, defScope s__other_replicas, [], []⟩
def d_State_list_of : He.DefD := ⟨("State", some "list_of"), "list_of", "State.list_of", defArgs s_State_list_of, defBody s_State_list_of, defScope s_State_list_of, [], []⟩
def d_State___len__ : He.DefD := ⟨("State", some "__len__"), "__len__", "State.__len__", defArgs s_State___len__, defBody s_State___len__, defScope s_State___len__, [], []⟩
def d_is_swap : He.DefD := ⟨("is_swap", none), "is_swap", "is_swap", defArgs s_is_swap, defBody s_is_swap, defScope s_is_swap, [], []⟩
def d_swap_pair : He.DefD := ⟨("swap_pair", none), "swap_pair", "swap_pair", defArgs s_swap_pair, defBody s_swap_pair, defScope s_swap_pair, [], []⟩
def d_is_silent : He.DefD := ⟨("is_silent", none), "is_silent", "is_silent", defArgs s_is_silent, defBody s_is_silent, defScope s_is_silent, [], []⟩
def d_State_all_keys : He.DefD := ⟨("State", some "all_keys"), "all_keys", "State.all_keys", defArgs s_State_all_keys, defBody s_State_all_keys, defScope s_State_all_keys, [], []⟩
def d_State_with_list : He.DefD := ⟨("State", some "with_list"), "with_list", "State.with_list", defArgs s_State_with_list, defBody s_State_with_list, defScope s_State_with_list, [], []⟩
def d_check_list : He.DefD := ⟨("check_list", none), "check_list", "check_list", defArgs s_check_list, defBody s_check_list, defScope s_check_list, [], []⟩
def d_swap_at : He.DefD := ⟨("swap_at", none), "swap_at", "swap_at", defArgs s_swap_at, defBody s_swap_at, defScope s_swap_at, [], []⟩
def d_swapped_state : He.DefD := ⟨("swapped_state", none), "swapped_state", "swapped_state", defArgs s_swapped_state, defBody s_swapped_state, defScope s_swapped_state, [], []⟩
def d_apply_swap : He.DefD := ⟨("apply_swap", none), "apply_swap", "apply_swap", defArgs s_apply_swap, defBody s_apply_swap, defScope s_apply_swap, [], []⟩
def d_dissenter : He.DefD := ⟨("dissenter", none), "dissenter", "dissenter", defArgs s_dissenter, defBody s_dissenter, defScope s_dissenter, [], []⟩
def d_barred_by : He.DefD := ⟨("barred_by", none), "barred_by", "barred_by", defArgs s_barred_by, defBody s_barred_by, defScope s_barred_by, [], []⟩
def d__law_call : He.DefD := ⟨("_law_call", none), "_law_call", "_law_call", defArgs s__law_call, defBody s__law_call, defScope s__law_call, [], []⟩
def d__law_tried : He.DefD := ⟨("_law_tried", none), "_law_tried", "_law_tried", defArgs s__law_tried, defBody s__law_tried, defScope s__law_tried, [], []⟩
def d__law_refuses : He.DefD := ⟨("_law_refuses", none), "_law_refuses", "_law_refuses", defArgs s__law_refuses, defBody s__law_refuses, defScope s__law_refuses, [], []⟩
def d_Reading_pairs : He.DefD := ⟨("Reading", some "pairs"), "pairs", "Reading.pairs", defArgs s_Reading_pairs, defBody s_Reading_pairs, defScope s_Reading_pairs, [], []⟩
def d__law_is_tuple : He.DefD := ⟨("_law_is_tuple", none), "_law_is_tuple", "_law_is_tuple", defArgs s__law_is_tuple, defBody s__law_is_tuple, defScope s__law_is_tuple, [], []⟩
def d__law_is_tuples : He.DefD := ⟨("_law_is_tuples", none), "_law_is_tuples", "_law_is_tuples", defArgs s__law_is_tuples, defBody s__law_is_tuples, defScope s__law_is_tuples, [], []⟩
def d__law_words : He.DefD := ⟨("_law_words", none), "_law_words", "_law_words", defArgs s__law_words, defBody s__law_words, defScope s__law_words, [], []⟩
def d__law_reading : He.DefD := ⟨("_law_reading", none), "_law_reading", "_law_reading", defArgs s__law_reading, defBody s__law_reading, defScope s__law_reading, [], []⟩
def d_Reading__in_a_cycle : He.DefD := ⟨("Reading", some "_in_a_cycle"), "_in_a_cycle", "Reading._in_a_cycle", defArgs s_Reading__in_a_cycle, defBody s_Reading__in_a_cycle, defScope s_Reading__in_a_cycle, [], []⟩
def d_Reading_pinned : He.DefD := ⟨("Reading", some "pinned"), "pinned", "Reading.pinned", defArgs s_Reading_pinned, defBody s_Reading_pinned, defScope s_Reading_pinned, [], []⟩
def d__first_wrong_pair : He.DefD := ⟨("_first_wrong_pair", none), "_first_wrong_pair", "_first_wrong_pair", defArgs s__first_wrong_pair, defBody s__first_wrong_pair, defScope s__first_wrong_pair, [], []⟩
def d_Reading___init__ : He.DefD := ⟨("Reading", some "__init__"), "__init__", "Reading.__init__", defArgs s_Reading___init__, defBody s_Reading___init__, defScope s_Reading___init__, [], []⟩
def d_read : He.DefD := ⟨("read", none), "read", "read", defArgs s_read, defBody s_read, defScope s_read, [], []⟩
def d_dealing : He.DefD := ⟨("dealing", none), "dealing", "dealing", defArgs s_dealing, defBody s_dealing, defScope s_dealing, [], []⟩
def d__law_deep_holds : He.DefD := ⟨("_law_deep_holds", none), "_law_deep_holds", "_law_deep_holds", defArgs s__law_deep_holds, defBody s__law_deep_holds, defScope s__law_deep_holds, [], []⟩
def d__law_is_tuples_own : He.DefD := ⟨("_law_is_tuples", none), "_law_is_tuples", "_law_is_tuples", defArgs s__law_is_tuples_own, defBody s__law_is_tuples_own, defScope s__law_is_tuples_own, [], []⟩
def d__law_shares : He.DefD := ⟨("_law_shares", none), "_law_shares", "_law_shares", defArgs s__law_shares, defBody s__law_shares, defScope s__law_shares, [], []⟩
def d_State_lists_own : He.DefD := ⟨("State", some "lists"), "lists", "State.lists", defArgs s_State_lists_own, defBody s_State_lists_own, defScope s_State_lists_own, [], []⟩
def d__law_is_truth : He.DefD := ⟨("_law_is_truth", none), "_law_is_truth", "_law_is_truth", defArgs s__law_is_truth, defBody s__law_is_truth, defScope s__law_is_truth, [], []⟩
def d__law_swap_holds : He.DefD := ⟨("_law_swap_holds", none), "_law_swap_holds", "_law_swap_holds", defArgs s__law_swap_holds, defBody s__law_swap_holds, defScope s__law_swap_holds, [], []⟩
def d_silent_swaps : He.DefD := ⟨("silent_swaps", none), "silent_swaps", "silent_swaps", defArgs s_silent_swaps, defBody s_silent_swaps, defScope s_silent_swaps, [], []⟩
def d__law_state_holds : He.DefD := ⟨("_law_state_holds", none), "_law_state_holds", "_law_state_holds", defArgs s__law_state_holds, defBody s__law_state_holds, defScope s__law_state_holds, [], []⟩
def d_law : He.DefD := ⟨("law", none), "law", "law", defArgs s_law, defBody s_law, defScope s_law, [], []⟩
def x_AudibleSwap : PyH.ExD := ⟨"AudibleSwap", "step", "AudibleSwap.__init__", i_AudibleSwap⟩
def x_InvalidList : PyH.ExD := ⟨"InvalidList", "place", "InvalidList.__init__", i_InvalidList⟩
def x_InvalidReading : PyH.ExD := ⟨"InvalidReading", "pair", "InvalidReading.__init__", i_InvalidReading⟩
def x_InvalidState : PyH.ExD := ⟨"InvalidState", "replica", "InvalidState.__init__", i_InvalidState⟩
def x_InvalidSwap : PyH.ExD := ⟨"InvalidSwap", "step", "InvalidSwap.__init__", i_InvalidSwap⟩
def x_UnknownKey : PyH.ExD := ⟨"UnknownKey", "key", "UnknownKey.__init__", i_UnknownKey⟩
def x_UnknownReplica : PyH.ExD := ⟨"UnknownReplica", "replica", "UnknownReplica.__init__", i_UnknownReplica⟩
def fn : List He.DefD := [d_first_wrong_place, d__wrong_replica, d_index_of, d_State___init__, d__law_box, d_State_lists, d__law_is_number, d__law_is_row, d__law_is_state, d__law_take, d__law_lacking, d__law_swapped, d__law_after, d__law_circle, d__law_order, d__law_keys, d__law_quiet, d__law_silent, d__law_walk, d__law_lists, d__law_refused, d_check_replica, d_require_key, d_State_says, d__other_replicas, d_State_list_of, d_State___len__, d_is_swap, d_swap_pair, d_is_silent, d_State_all_keys, d_State_with_list, d_check_list, d_swap_at, d_swapped_state, d_apply_swap, d_dissenter, d_barred_by, d__law_call, d__law_tried, d__law_refuses, d_Reading_pairs, d__law_is_tuple, d__law_is_tuples, d__law_words, d__law_reading, d_Reading__in_a_cycle, d_Reading_pinned, d__first_wrong_pair, d_Reading___init__, d_read, d_dealing, d__law_deep_holds, d__law_is_tuples_own, d__law_shares, d_State_lists_own, d__law_is_truth, d__law_swap_holds, d_silent_swaps, d__law_state_holds, d_law]
def fa : List He.Fa := [.glo "first_wrong_place", .glo "_wrong_replica", .glo "index_of", .meth "State" "__init__", .glo "_law_box", .meth "State" "lists", .glo "_law_is_number", .glo "_law_is_row", .glo "_law_is_state", .glo "_law_take", .glo "_law_lacking", .glo "_law_swapped", .glo "_law_after", .glo "_law_circle", .glo "_law_order", .glo "_law_keys", .glo "_law_quiet", .glo "_law_silent", .glo "_law_walk", .glo "_law_lists", .glo "_law_refused", .glo "check_replica", .glo "require_key", .meth "State" "says", .glo "_other_replicas", .meth "State" "list_of", .meth "State" "__len__", .glo "is_swap", .glo "swap_pair", .glo "is_silent", .meth "State" "all_keys", .meth "State" "with_list", .glo "check_list", .glo "swap_at", .glo "swapped_state", .glo "apply_swap", .glo "dissenter", .glo "barred_by", .glo "_law_call", .glo "_law_tried", .glo "_law_refuses", .meth "Reading" "pairs", .glo "_law_is_tuple", .glo "_law_is_tuples", .glo "_law_words", .glo "_law_reading", .meth "Reading" "_in_a_cycle", .meth "Reading" "pinned", .glo "_first_wrong_pair", .meth "Reading" "__init__", .glo "read", .glo "dealing", .glo "_law_deep_holds", .glo "_law_shares", .glo "_law_is_truth", .glo "_law_swap_holds", .glo "silent_swaps", .glo "_law_state_holds", .glo "law", .cls "Reading", .cls "State", .mkr "Reading", .mkr "State", .noat "Reading" "_before", .noat "Reading" "_keys", .noat "State" "_lists", .noat "State" "_places", .glo "AudibleSwap", .glo "DriftError", .glo "InvalidList", .glo "InvalidReading", .glo "InvalidState", .glo "InvalidSwap", .glo "Reading", .glo "State", .glo "UnknownKey", .glo "UnknownReplica", .free "ValueError", .free "abs", .free "any", .free "bool", .free "enumerate", .free "int", .free "isinstance", .free "len", .free "list", .free "max", .free "range", .free "sorted", .free "super", .free "tuple", .int "MAX_KEY" 9999, .int "MAX_KEYS" 12]
def xs : List PyH.ExD := [x_AudibleSwap, x_InvalidList, x_InvalidReading, x_InvalidState, x_InvalidSwap, x_UnknownKey, x_UnknownReplica]
def e_0 : PySem.W.Frag → Bool := fun K => PyH.insCB K (He.ga K "State")
def e_1 : PySem.W.Frag → Bool := fun K => PyH.cvalB K (He.ga K "State") "REPLICAS" 3
def e_2 : PySem.W.Frag → Bool := fun K => PyH.ExD.ok "/claim/cut.py" K x_AudibleSwap
def e_3 : PySem.W.Frag → Bool := fun K => PyH.ExD.ok "/claim/cut.py" K x_InvalidList
def e_4 : PySem.W.Frag → Bool := fun K => PyH.ExD.ok "/claim/cut.py" K x_InvalidReading
def e_5 : PySem.W.Frag → Bool := fun K => PyH.ExD.ok "/claim/cut.py" K x_InvalidState
def e_6 : PySem.W.Frag → Bool := fun K => PyH.ExD.ok "/claim/cut.py" K x_InvalidSwap
def e_7 : PySem.W.Frag → Bool := fun K => PyH.ExD.ok "/claim/cut.py" K x_UnknownKey
def e_8 : PySem.W.Frag → Bool := fun K => PyH.ExD.ok "/claim/cut.py" K x_UnknownReplica
def e_9 : PySem.W.Frag → Bool := fun K => PyH.ex2B K (He.ga K "AudibleSwap") "step"
def e_10 : PySem.W.Frag → Bool := fun K => PyH.ex2B K (He.ga K "InvalidList") "place"
def e_11 : PySem.W.Frag → Bool := fun K => PyH.ex2B K (He.ga K "InvalidReading") "pair"
def e_12 : PySem.W.Frag → Bool := fun K => PyH.ex2B K (He.ga K "InvalidState") "replica"
def e_13 : PySem.W.Frag → Bool := fun K => PyH.ex2B K (He.ga K "InvalidSwap") "step"
def e_14 : PySem.W.Frag → Bool := fun K => PyH.ex2B K (He.ga K "UnknownKey") "key"
def e_15 : PySem.W.Frag → Bool := fun K => PyH.ex2B K (He.ga K "UnknownReplica") "replica"
def e_16 : PySem.W.Frag → Bool := fun K => decide (PySem.W.exmOne K (.ref (He.ga K "AudibleSwap")) (.ref (He.ga K "AudibleSwap")) = some true)
def e_17 : PySem.W.Frag → Bool := fun K => decide (PySem.W.exmOne K (.ref (He.ga K "AudibleSwap")) (.ref (He.ga K "InvalidSwap")) = some false)
def e_18 : PySem.W.Frag → Bool := fun K => decide (PySem.W.exmOne K (.ref (He.ga K "InvalidList")) (.ref (He.ga K "AudibleSwap")) = some false)
def e_19 : PySem.W.Frag → Bool := fun K => decide (PySem.W.exmOne K (.ref (He.ga K "InvalidList")) (.ref (He.ga K "InvalidSwap")) = some false)
def e_20 : PySem.W.Frag → Bool := fun K => decide (PySem.W.exmOne K (.ref (He.ga K "InvalidState")) (.ref (He.ga K "AudibleSwap")) = some false)
def e_21 : PySem.W.Frag → Bool := fun K => decide (PySem.W.exmOne K (.ref (He.ga K "InvalidState")) (.ref (He.ga K "InvalidSwap")) = some false)
def e_22 : PySem.W.Frag → Bool := fun K => decide (PySem.W.exmOne K (.ref (He.ga K "InvalidSwap")) (.ref (He.ga K "AudibleSwap")) = some false)
def e_23 : PySem.W.Frag → Bool := fun K => decide (PySem.W.exmOne K (.ref (He.ga K "InvalidSwap")) (.ref (He.ga K "InvalidSwap")) = some true)
def e_24 : PySem.W.Frag → Bool := fun K => decide (PySem.W.exmOne K (.ref (He.ga K "UnknownKey")) (.ref (He.ga K "AudibleSwap")) = some false)
def e_25 : PySem.W.Frag → Bool := fun K => decide (PySem.W.exmOne K (.ref (He.ga K "UnknownKey")) (.ref (He.ga K "InvalidSwap")) = some false)
def e_26 : PySem.W.Frag → Bool := fun K => decide (PySem.W.exmOne K (.ref (He.ga K "UnknownReplica")) (.ref (He.ga K "AudibleSwap")) = some false)
def e_27 : PySem.W.Frag → Bool := fun K => decide (PySem.W.exmOne K (.ref (He.ga K "UnknownReplica")) (.ref (He.ga K "InvalidSwap")) = some false)
def e_28 : PySem.W.Frag → Bool := fun K => decide (PySem.W.kitOne K (.ref (He.ga K "AudibleSwap")) (.ref (He.ga K "AudibleSwap")) = some true)
def e_29 : PySem.W.Frag → Bool := fun K => decide (PySem.W.kitOne K (.ref (He.ga K "AudibleSwap")) (.ref (He.ga K "DriftError")) = some true)
def e_30 : PySem.W.Frag → Bool := fun K => decide (PySem.W.kitOne K (.ref (He.ga K "AudibleSwap")) (.type "ValueError") = some true)
def e_31 : PySem.W.Frag → Bool := fun K => decide (PySem.W.kitOne K (.ref (He.ga K "InvalidList")) (.ref (He.ga K "AudibleSwap")) = some false)
def e_32 : PySem.W.Frag → Bool := fun K => decide (PySem.W.kitOne K (.ref (He.ga K "InvalidList")) (.ref (He.ga K "DriftError")) = some true)
def e_33 : PySem.W.Frag → Bool := fun K => decide (PySem.W.kitOne K (.ref (He.ga K "InvalidList")) (.type "ValueError") = some true)
def e_34 : PySem.W.Frag → Bool := fun K => decide (PySem.W.kitOne K (.ref (He.ga K "InvalidState")) (.ref (He.ga K "AudibleSwap")) = some false)
def e_35 : PySem.W.Frag → Bool := fun K => decide (PySem.W.kitOne K (.ref (He.ga K "InvalidState")) (.ref (He.ga K "DriftError")) = some true)
def e_36 : PySem.W.Frag → Bool := fun K => decide (PySem.W.kitOne K (.ref (He.ga K "InvalidState")) (.type "ValueError") = some true)
def e_37 : PySem.W.Frag → Bool := fun K => decide (PySem.W.kitOne K (.ref (He.ga K "InvalidSwap")) (.ref (He.ga K "AudibleSwap")) = some false)
def e_38 : PySem.W.Frag → Bool := fun K => decide (PySem.W.kitOne K (.ref (He.ga K "InvalidSwap")) (.ref (He.ga K "DriftError")) = some true)
def e_39 : PySem.W.Frag → Bool := fun K => decide (PySem.W.kitOne K (.ref (He.ga K "InvalidSwap")) (.type "ValueError") = some true)
def e_40 : PySem.W.Frag → Bool := fun K => decide (PySem.W.kitOne K (.ref (He.ga K "UnknownKey")) (.ref (He.ga K "AudibleSwap")) = some false)
def e_41 : PySem.W.Frag → Bool := fun K => decide (PySem.W.kitOne K (.ref (He.ga K "UnknownKey")) (.ref (He.ga K "DriftError")) = some true)
def e_42 : PySem.W.Frag → Bool := fun K => decide (PySem.W.kitOne K (.ref (He.ga K "UnknownKey")) (.type "ValueError") = some true)
def e_43 : PySem.W.Frag → Bool := fun K => decide (PySem.W.kitOne K (.ref (He.ga K "UnknownReplica")) (.ref (He.ga K "AudibleSwap")) = some false)
def e_44 : PySem.W.Frag → Bool := fun K => decide (PySem.W.kitOne K (.ref (He.ga K "UnknownReplica")) (.ref (He.ga K "DriftError")) = some true)
def e_45 : PySem.W.Frag → Bool := fun K => decide (PySem.W.kitOne K (.ref (He.ga K "UnknownReplica")) (.type "ValueError") = some true)
def ex : List (PySem.W.Frag → Bool) := [e_0, e_1, e_2, e_3, e_4, e_5, e_6, e_7, e_8, e_9, e_10, e_11, e_12, e_13, e_14, e_15, e_16, e_17, e_18, e_19, e_20, e_21, e_22, e_23, e_24, e_25, e_26, e_27, e_28, e_29, e_30, e_31, e_32, e_33, e_34, e_35, e_36, e_37, e_38, e_39, e_40, e_41, e_42, e_43, e_44, e_45]
noncomputable abbrev hk : PySem.W.Hook := PyH.hookM 5 fa fn xs ex
noncomputable def ob (s : PySem.W.SharedT) : PyH.AlK := PyH.obsMG 5 fa fn xs ex (HandSHeadRun.getT s)
theorem ob_eq (s : PySem.W.SharedT) : ob s = hk.obs s.abs := PyH.obsMG_eq (HandSHeadRun.getT_eq s)
theorem run (w : World) : HandSHeadRun.RunEq R (PySem.W.view R.prog [72]) hk ob 9000 nms w := by
  intro os
  kernel_rfl
theorem facts {P : Program} {K : PySem.W.Frag} {h : Heap} {mg : Str → Option Value} (X : K.In h) (G : h.Ns mainGlobals mg) (c : PyH.SaysK fa fn xs ex K) (htop : (P.main.scope.names.lookup ("super" : Str)).isSome = false) (hfile : ((P.main.file : Str) == ("/claim/cut.py" : Str)) = true) : TX P K mg where
  F_first_wrong_place := c.d.def_ 0 (d := d_first_wrong_place) rfl
  g_first_wrong_place := He.glo_ok X G (c.d.fact 0 (f := .glo "first_wrong_place") rfl)
  F__wrong_replica := c.d.def_ 1 (d := d__wrong_replica) rfl
  g__wrong_replica := He.glo_ok X G (c.d.fact 1 (f := .glo "_wrong_replica") rfl)
  F_index_of := c.d.def_ 2 (d := d_index_of) rfl
  g_index_of := He.glo_ok X G (c.d.fact 2 (f := .glo "index_of") rfl)
  F_State___init__ := c.d.def_ 3 (d := d_State___init__) rfl
  M_State___init__ := He.meth_ok (c.d.fact 3 (f := .meth "State" "__init__") rfl)
  F__law_box := c.d.def_ 4 (d := d__law_box) rfl
  g__law_box := He.glo_ok X G (c.d.fact 4 (f := .glo "_law_box") rfl)
  F_State_lists := c.d.def_ 5 (d := d_State_lists) rfl
  M_State_lists := He.meth_ok (c.d.fact 5 (f := .meth "State" "lists") rfl)
  F__law_is_number := c.d.def_ 6 (d := d__law_is_number) rfl
  g__law_is_number := He.glo_ok X G (c.d.fact 6 (f := .glo "_law_is_number") rfl)
  F__law_is_row := c.d.def_ 7 (d := d__law_is_row) rfl
  g__law_is_row := He.glo_ok X G (c.d.fact 7 (f := .glo "_law_is_row") rfl)
  F__law_is_state := c.d.def_ 8 (d := d__law_is_state) rfl
  g__law_is_state := He.glo_ok X G (c.d.fact 8 (f := .glo "_law_is_state") rfl)
  F__law_take := c.d.def_ 9 (d := d__law_take) rfl
  g__law_take := He.glo_ok X G (c.d.fact 9 (f := .glo "_law_take") rfl)
  F__law_lacking := c.d.def_ 10 (d := d__law_lacking) rfl
  g__law_lacking := He.glo_ok X G (c.d.fact 10 (f := .glo "_law_lacking") rfl)
  F__law_swapped := c.d.def_ 11 (d := d__law_swapped) rfl
  g__law_swapped := He.glo_ok X G (c.d.fact 11 (f := .glo "_law_swapped") rfl)
  F__law_after := c.d.def_ 12 (d := d__law_after) rfl
  g__law_after := He.glo_ok X G (c.d.fact 12 (f := .glo "_law_after") rfl)
  F__law_circle := c.d.def_ 13 (d := d__law_circle) rfl
  g__law_circle := He.glo_ok X G (c.d.fact 13 (f := .glo "_law_circle") rfl)
  F__law_order := c.d.def_ 14 (d := d__law_order) rfl
  g__law_order := He.glo_ok X G (c.d.fact 14 (f := .glo "_law_order") rfl)
  F__law_keys := c.d.def_ 15 (d := d__law_keys) rfl
  g__law_keys := He.glo_ok X G (c.d.fact 15 (f := .glo "_law_keys") rfl)
  F__law_quiet := c.d.def_ 16 (d := d__law_quiet) rfl
  g__law_quiet := He.glo_ok X G (c.d.fact 16 (f := .glo "_law_quiet") rfl)
  F__law_silent := c.d.def_ 17 (d := d__law_silent) rfl
  g__law_silent := He.glo_ok X G (c.d.fact 17 (f := .glo "_law_silent") rfl)
  F__law_walk := c.d.def_ 18 (d := d__law_walk) rfl
  g__law_walk := He.glo_ok X G (c.d.fact 18 (f := .glo "_law_walk") rfl)
  F__law_lists := c.d.def_ 19 (d := d__law_lists) rfl
  g__law_lists := He.glo_ok X G (c.d.fact 19 (f := .glo "_law_lists") rfl)
  F__law_refused := c.d.def_ 20 (d := d__law_refused) rfl
  g__law_refused := He.glo_ok X G (c.d.fact 20 (f := .glo "_law_refused") rfl)
  F_check_replica := c.d.def_ 21 (d := d_check_replica) rfl
  g_check_replica := He.glo_ok X G (c.d.fact 21 (f := .glo "check_replica") rfl)
  F_require_key := c.d.def_ 22 (d := d_require_key) rfl
  g_require_key := He.glo_ok X G (c.d.fact 22 (f := .glo "require_key") rfl)
  F_State_says := c.d.def_ 23 (d := d_State_says) rfl
  M_State_says := He.meth_ok (c.d.fact 23 (f := .meth "State" "says") rfl)
  F__other_replicas := c.d.def_ 24 (d := d__other_replicas) rfl
  g__other_replicas := He.glo_ok X G (c.d.fact 24 (f := .glo "_other_replicas") rfl)
  F_State_list_of := c.d.def_ 25 (d := d_State_list_of) rfl
  M_State_list_of := He.meth_ok (c.d.fact 25 (f := .meth "State" "list_of") rfl)
  F_State___len__ := c.d.def_ 26 (d := d_State___len__) rfl
  M_State___len__ := He.meth_ok (c.d.fact 26 (f := .meth "State" "__len__") rfl)
  F_is_swap := c.d.def_ 27 (d := d_is_swap) rfl
  g_is_swap := He.glo_ok X G (c.d.fact 27 (f := .glo "is_swap") rfl)
  F_swap_pair := c.d.def_ 28 (d := d_swap_pair) rfl
  g_swap_pair := He.glo_ok X G (c.d.fact 28 (f := .glo "swap_pair") rfl)
  F_is_silent := c.d.def_ 29 (d := d_is_silent) rfl
  g_is_silent := He.glo_ok X G (c.d.fact 29 (f := .glo "is_silent") rfl)
  F_State_all_keys := c.d.def_ 30 (d := d_State_all_keys) rfl
  M_State_all_keys := He.meth_ok (c.d.fact 30 (f := .meth "State" "all_keys") rfl)
  F_State_with_list := c.d.def_ 31 (d := d_State_with_list) rfl
  M_State_with_list := He.meth_ok (c.d.fact 31 (f := .meth "State" "with_list") rfl)
  F_check_list := c.d.def_ 32 (d := d_check_list) rfl
  g_check_list := He.glo_ok X G (c.d.fact 32 (f := .glo "check_list") rfl)
  F_swap_at := c.d.def_ 33 (d := d_swap_at) rfl
  g_swap_at := He.glo_ok X G (c.d.fact 33 (f := .glo "swap_at") rfl)
  F_swapped_state := c.d.def_ 34 (d := d_swapped_state) rfl
  g_swapped_state := He.glo_ok X G (c.d.fact 34 (f := .glo "swapped_state") rfl)
  F_apply_swap := c.d.def_ 35 (d := d_apply_swap) rfl
  g_apply_swap := He.glo_ok X G (c.d.fact 35 (f := .glo "apply_swap") rfl)
  F_dissenter := c.d.def_ 36 (d := d_dissenter) rfl
  g_dissenter := He.glo_ok X G (c.d.fact 36 (f := .glo "dissenter") rfl)
  F_barred_by := c.d.def_ 37 (d := d_barred_by) rfl
  g_barred_by := He.glo_ok X G (c.d.fact 37 (f := .glo "barred_by") rfl)
  F__law_call := c.d.def_ 38 (d := d__law_call) rfl
  g__law_call := He.glo_ok X G (c.d.fact 38 (f := .glo "_law_call") rfl)
  F__law_tried := c.d.def_ 39 (d := d__law_tried) rfl
  g__law_tried := He.glo_ok X G (c.d.fact 39 (f := .glo "_law_tried") rfl)
  F__law_refuses := c.d.def_ 40 (d := d__law_refuses) rfl
  g__law_refuses := He.glo_ok X G (c.d.fact 40 (f := .glo "_law_refuses") rfl)
  F_Reading_pairs := c.d.def_ 41 (d := d_Reading_pairs) rfl
  M_Reading_pairs := He.meth_ok (c.d.fact 41 (f := .meth "Reading" "pairs") rfl)
  F__law_is_tuple := c.d.def_ 42 (d := d__law_is_tuple) rfl
  g__law_is_tuple := He.glo_ok X G (c.d.fact 42 (f := .glo "_law_is_tuple") rfl)
  F__law_is_tuples := c.d.def_ 43 (d := d__law_is_tuples) rfl
  g__law_is_tuples := He.glo_ok X G (c.d.fact 43 (f := .glo "_law_is_tuples") rfl)
  F__law_words := c.d.def_ 44 (d := d__law_words) rfl
  g__law_words := He.glo_ok X G (c.d.fact 44 (f := .glo "_law_words") rfl)
  F__law_reading := c.d.def_ 45 (d := d__law_reading) rfl
  g__law_reading := He.glo_ok X G (c.d.fact 45 (f := .glo "_law_reading") rfl)
  F_Reading__in_a_cycle := c.d.def_ 46 (d := d_Reading__in_a_cycle) rfl
  M_Reading__in_a_cycle := He.meth_ok (c.d.fact 46 (f := .meth "Reading" "_in_a_cycle") rfl)
  F_Reading_pinned := c.d.def_ 47 (d := d_Reading_pinned) rfl
  M_Reading_pinned := He.meth_ok (c.d.fact 47 (f := .meth "Reading" "pinned") rfl)
  F__first_wrong_pair := c.d.def_ 48 (d := d__first_wrong_pair) rfl
  g__first_wrong_pair := He.glo_ok X G (c.d.fact 48 (f := .glo "_first_wrong_pair") rfl)
  F_Reading___init__ := c.d.def_ 49 (d := d_Reading___init__) rfl
  M_Reading___init__ := He.meth_ok (c.d.fact 49 (f := .meth "Reading" "__init__") rfl)
  F_read := c.d.def_ 50 (d := d_read) rfl
  g_read := He.glo_ok X G (c.d.fact 50 (f := .glo "read") rfl)
  F_dealing := c.d.def_ 51 (d := d_dealing) rfl
  g_dealing := He.glo_ok X G (c.d.fact 51 (f := .glo "dealing") rfl)
  F__law_deep_holds := c.d.def_ 52 (d := d__law_deep_holds) rfl
  g__law_deep_holds := He.glo_ok X G (c.d.fact 52 (f := .glo "_law_deep_holds") rfl)
  F__law_is_tuples_own := c.d.def_ 53 (d := d__law_is_tuples_own) rfl
  g__law_is_tuples_own := He.glo_ok X G (c.d.fact 43 (f := .glo "_law_is_tuples") rfl)
  F__law_shares := c.d.def_ 54 (d := d__law_shares) rfl
  g__law_shares := He.glo_ok X G (c.d.fact 53 (f := .glo "_law_shares") rfl)
  F_State_lists_own := c.d.def_ 55 (d := d_State_lists_own) rfl
  M_State_lists_own := He.meth_ok (c.d.fact 5 (f := .meth "State" "lists") rfl)
  F__law_is_truth := c.d.def_ 56 (d := d__law_is_truth) rfl
  g__law_is_truth := He.glo_ok X G (c.d.fact 54 (f := .glo "_law_is_truth") rfl)
  F__law_swap_holds := c.d.def_ 57 (d := d__law_swap_holds) rfl
  g__law_swap_holds := He.glo_ok X G (c.d.fact 55 (f := .glo "_law_swap_holds") rfl)
  F_silent_swaps := c.d.def_ 58 (d := d_silent_swaps) rfl
  g_silent_swaps := He.glo_ok X G (c.d.fact 56 (f := .glo "silent_swaps") rfl)
  F__law_state_holds := c.d.def_ 59 (d := d__law_state_holds) rfl
  g__law_state_holds := He.glo_ok X G (c.d.fact 57 (f := .glo "_law_state_holds") rfl)
  F_law := c.d.def_ 60 (d := d_law) rfl
  g_law := He.glo_ok X G (c.d.fact 58 (f := .glo "law") rfl)
  C_Reading := He.cls_ok (c.d.fact 59 (f := .cls "Reading") rfl)
  C_State := He.cls_ok (c.d.fact 60 (f := .cls "State") rfl)
  mk_Reading := He.mkr_ok (c.d.fact 61 (f := .mkr "Reading") rfl)
  mk_State := He.mkr_ok (c.d.fact 62 (f := .mkr "State") rfl)
  na_Reading__before := He.noat_ok (c.d.fact 63 (f := .noat "Reading" "_before") rfl)
  na_Reading__keys := He.noat_ok (c.d.fact 64 (f := .noat "Reading" "_keys") rfl)
  na_State__lists := He.noat_ok (c.d.fact 65 (f := .noat "State" "_lists") rfl)
  na_State__places := He.noat_ok (c.d.fact 66 (f := .noat "State" "_places") rfl)
  isc_State := PyH.insCB_ok (c.exs 0 rfl) (He.cls_ok (c.d.fact 60 (f := .cls "State") rfl))
  cv_State_REPLICAS := PyH.cvalB_ok (c.exs 1 rfl)
  g_AudibleSwap := He.glo_ok X G (c.d.fact 67 (f := .glo "AudibleSwap") rfl)
  g_DriftError := He.glo_ok X G (c.d.fact 68 (f := .glo "DriftError") rfl)
  g_InvalidList := He.glo_ok X G (c.d.fact 69 (f := .glo "InvalidList") rfl)
  g_InvalidReading := He.glo_ok X G (c.d.fact 70 (f := .glo "InvalidReading") rfl)
  g_InvalidState := He.glo_ok X G (c.d.fact 71 (f := .glo "InvalidState") rfl)
  g_InvalidSwap := He.glo_ok X G (c.d.fact 72 (f := .glo "InvalidSwap") rfl)
  g_Reading := He.glo_ok X G (c.d.fact 73 (f := .glo "Reading") rfl)
  g_State := He.glo_ok X G (c.d.fact 74 (f := .glo "State") rfl)
  g_UnknownKey := He.glo_ok X G (c.d.fact 75 (f := .glo "UnknownKey") rfl)
  g_UnknownReplica := He.glo_ok X G (c.d.fact 76 (f := .glo "UnknownReplica") rfl)
  n_ValueError := He.free_ok X G (c.d.fact 77 (f := .free "ValueError") rfl)
  n_abs := He.free_ok X G (c.d.fact 78 (f := .free "abs") rfl)
  n_any := He.free_ok X G (c.d.fact 79 (f := .free "any") rfl)
  n_bool := He.free_ok X G (c.d.fact 80 (f := .free "bool") rfl)
  n_enumerate := He.free_ok X G (c.d.fact 81 (f := .free "enumerate") rfl)
  n_int := He.free_ok X G (c.d.fact 82 (f := .free "int") rfl)
  n_isinstance := He.free_ok X G (c.d.fact 83 (f := .free "isinstance") rfl)
  n_len := He.free_ok X G (c.d.fact 84 (f := .free "len") rfl)
  n_list := He.free_ok X G (c.d.fact 85 (f := .free "list") rfl)
  n_max := He.free_ok X G (c.d.fact 86 (f := .free "max") rfl)
  n_range := He.free_ok X G (c.d.fact 87 (f := .free "range") rfl)
  n_sorted := He.free_ok X G (c.d.fact 88 (f := .free "sorted") rfl)
  n_super := He.free_ok X G (c.d.fact 89 (f := .free "super") rfl)
  n_tuple := He.free_ok X G (c.d.fact 90 (f := .free "tuple") rfl)
  i_MAX_KEY := He.int_ok X G (c.d.fact 91 (f := .int "MAX_KEY" 9999) rfl)
  i_MAX_KEYS := He.int_ok X G (c.d.fact 92 (f := .int "MAX_KEYS" 12) rfl)
  tx_AudibleSwap := PyH.ex_txt (d := x_AudibleSwap) (c.init 0 rfl) (c.exs 2 rfl) rfl rfl rfl (fun _ => ⟨rfl, _, rfl⟩) ⟨rfl, rfl, rfl, rfl⟩ (by intros; rfl) htop hfile
  tx_InvalidList := PyH.ex_txt (d := x_InvalidList) (c.init 1 rfl) (c.exs 3 rfl) rfl rfl rfl (fun _ => ⟨rfl, _, rfl⟩) ⟨rfl, rfl, rfl, rfl⟩ (by intros; rfl) htop hfile
  tx_InvalidReading := PyH.ex_txt (d := x_InvalidReading) (c.init 2 rfl) (c.exs 4 rfl) rfl rfl rfl (fun _ => ⟨rfl, _, rfl⟩) ⟨rfl, rfl, rfl, rfl⟩ (by intros; rfl) htop hfile
  tx_InvalidState := PyH.ex_txt (d := x_InvalidState) (c.init 3 rfl) (c.exs 5 rfl) rfl rfl rfl (fun _ => ⟨rfl, _, rfl⟩) ⟨rfl, rfl, rfl, rfl⟩ (by intros; rfl) htop hfile
  tx_InvalidSwap := PyH.ex_txt (d := x_InvalidSwap) (c.init 4 rfl) (c.exs 6 rfl) rfl rfl rfl (fun _ => ⟨rfl, _, rfl⟩) ⟨rfl, rfl, rfl, rfl⟩ (by intros; rfl) htop hfile
  tx_UnknownKey := PyH.ex_txt (d := x_UnknownKey) (c.init 5 rfl) (c.exs 7 rfl) rfl rfl rfl (fun _ => ⟨rfl, _, rfl⟩) ⟨rfl, rfl, rfl, rfl⟩ (by intros; rfl) htop hfile
  tx_UnknownReplica := PyH.ex_txt (d := x_UnknownReplica) (c.init 6 rfl) (c.exs 8 rfl) rfl rfl rfl (fun _ => ⟨rfl, _, rfl⟩) ⟨rfl, rfl, rfl, rfl⟩ (by intros; rfl) htop hfile
  x_AudibleSwap := PyH.ex2B_ok (c.exs 9 rfl)
  x_InvalidList := PyH.ex2B_ok (c.exs 10 rfl)
  x_InvalidReading := PyH.ex2B_ok (c.exs 11 rfl)
  x_InvalidState := PyH.ex2B_ok (c.exs 12 rfl)
  x_InvalidSwap := PyH.ex2B_ok (c.exs 13 rfl)
  x_UnknownKey := PyH.ex2B_ok (c.exs 14 rfl)
  x_UnknownReplica := PyH.ex2B_ok (c.exs 15 rfl)
  exm_AudibleSwap_AudibleSwap := of_decide_eq_true (c.exs 16 rfl)
  exm_AudibleSwap_InvalidSwap := of_decide_eq_true (c.exs 17 rfl)
  exm_InvalidList_AudibleSwap := of_decide_eq_true (c.exs 18 rfl)
  exm_InvalidList_InvalidSwap := of_decide_eq_true (c.exs 19 rfl)
  exm_InvalidState_AudibleSwap := of_decide_eq_true (c.exs 20 rfl)
  exm_InvalidState_InvalidSwap := of_decide_eq_true (c.exs 21 rfl)
  exm_InvalidSwap_AudibleSwap := of_decide_eq_true (c.exs 22 rfl)
  exm_InvalidSwap_InvalidSwap := of_decide_eq_true (c.exs 23 rfl)
  exm_UnknownKey_AudibleSwap := of_decide_eq_true (c.exs 24 rfl)
  exm_UnknownKey_InvalidSwap := of_decide_eq_true (c.exs 25 rfl)
  exm_UnknownReplica_AudibleSwap := of_decide_eq_true (c.exs 26 rfl)
  exm_UnknownReplica_InvalidSwap := of_decide_eq_true (c.exs 27 rfl)
  kit_AudibleSwap_AudibleSwap := of_decide_eq_true (c.exs 28 rfl)
  kit_AudibleSwap_DriftError := of_decide_eq_true (c.exs 29 rfl)
  kit_AudibleSwap_ValueError := of_decide_eq_true (c.exs 30 rfl)
  kit_InvalidList_AudibleSwap := of_decide_eq_true (c.exs 31 rfl)
  kit_InvalidList_DriftError := of_decide_eq_true (c.exs 32 rfl)
  kit_InvalidList_ValueError := of_decide_eq_true (c.exs 33 rfl)
  kit_InvalidState_AudibleSwap := of_decide_eq_true (c.exs 34 rfl)
  kit_InvalidState_DriftError := of_decide_eq_true (c.exs 35 rfl)
  kit_InvalidState_ValueError := of_decide_eq_true (c.exs 36 rfl)
  kit_InvalidSwap_AudibleSwap := of_decide_eq_true (c.exs 37 rfl)
  kit_InvalidSwap_DriftError := of_decide_eq_true (c.exs 38 rfl)
  kit_InvalidSwap_ValueError := of_decide_eq_true (c.exs 39 rfl)
  kit_UnknownKey_AudibleSwap := of_decide_eq_true (c.exs 40 rfl)
  kit_UnknownKey_DriftError := of_decide_eq_true (c.exs 41 rfl)
  kit_UnknownKey_ValueError := of_decide_eq_true (c.exs 42 rfl)
  kit_UnknownReplica_AudibleSwap := of_decide_eq_true (c.exs 43 rfl)
  kit_UnknownReplica_DriftError := of_decide_eq_true (c.exs 44 rfl)
  kit_UnknownReplica_ValueError := of_decide_eq_true (c.exs 45 rfl)
end K07
namespace Q
open PySem PySem.Spec L2 PyD PyT PyE PyH PyI PyC
local macro_rules | `(tactic| walk_at "gS") => `(tactic| first
  | ((with_reducible show wpS _ _ _ (tSeq (tAsg _ _) _) _ _ _); refine wpS_seq ?_)
  | ((with_reducible show wpS _ _ _ (tSeq (tDrop _) _) _ _ _); refine wpS_seq ?_)
  | ((with_reducible show wpS _ _ _ (tSeq (sDPut _ _ _) _) _ _ _); refine wpS_seq ?_)
  | ((with_reducible show wpS _ _ _ (tSeq (tSeq _ _) _) _ _ _); refine wpS_seq ?_)
  | ((with_reducible show wpS _ _ _ (tSeq (tNext) _) _ _ _); refine wpS_seq ?_)
  | ((with_reducible show wpS _ _ _ (tSeq (tIfS _ (tRet _) tNext) _) _ _ _); refine wpS_seq ?_)
  | ((with_reducible show wpS _ _ _ (tSeq (tIfS _ tBreak tNext) _) _ _ _); refine wpS_seq ?_)
  | ((with_reducible show wpS _ _ _ (tSeq (tIfS _ tCont tNext) _) _ _ _); refine wpS_seq ?_)
  | ((with_reducible show wpS _ _ _ (tSeq (tIfS _ (tRaiseX _ _ _ _ _) tNext) _) _ _ _); refine wpS_seq ?_)
  | ((with_reducible show wpS _ _ _ (tSeq (tIfS _ (tSeq _ (tRet _)) tNext) _) _ _ _); refine wpS_seq ?_)
  | (with_reducible refine wpS_set ?_)
  | (with_reducible refine wpS_sub ?_)
  | ((with_reducible show wpS _ _ _ (tAsg _ (gTup _ _ _)) _ _ _); refine wpS_asg ?_)
  | ((with_reducible show wpS _ _ _ (tAsg _ (gLst _ _ _)) _ _ _); refine wpS_asg ?_)
  | ((with_reducible show wpS _ _ _ (tAsg _ (gSeq _ _ _)) _ _ _); refine wpS_asg ?_)
  | (with_reducible refine wpS_drop ?_)
  | (with_reducible refine wpS_next ?_)
  | (with_reducible refine wpS_retN ?_)
  | (with_reducible refine wpS_brk ?_)
  | (with_reducible refine wpS_cont ?_)
  | (with_reducible refine wpS_raise ?_)
  | (with_reducible refine wpS_dput ?_)
  | ((with_reducible show wpS _ _ _ (tIfS (tTest _) _ _) _ _ _); refine wpS_if ?_)
  | ((with_reducible show wpS _ _ _ (tIfS (tB _) _ _) _ _ _); refine wpS_if ?_)
  | ((with_reducible show wpS _ _ _ (tIfS (tTru _ _) _ _) _ _ _); refine wpS_if ?_)
  | ((with_reducible show wpS _ _ _ (tIfS (tNot _) _ _) _ _ _); refine wpS_if ?_))
local macro_rules | `(tactic| walk_at "gE") => `(tactic| first
  | ((with_reducible show wpE _ _ _ (tVar _) _ _ _); refine wpE_var rfl ?_)
  | (with_reducible refine wpE_int ?_)
  | (with_reducible refine wpE_bl ?_)
  | (with_reducible refine wpE_str ?_)
  | (with_reducible refine wpE_non ?_)
  | (with_reducible refine wpE_ref ?_)
  | (with_reducible refine wpE_ty ?_)
  | (with_reducible refine wpE_op ?_)
  | (with_reducible refine wpE_un ?_)
  | (with_reducible refine wpE_cb ?_)
  | (with_reducible refine wpE_andV ?_)
  | (with_reducible refine wpE_orV ?_)
  | (with_reducible refine wpE_notV ?_)
  | (with_reducible refine wpE_tup ?_)
  | (with_reducible refine wpE_dnew ?_)
  | (with_reducible refine wpE_dget ?_)
  | (with_reducible refine wpE_din ?_)
  | (with_reducible refine wpE_dnotin ?_)
  | (with_reducible refine wpE_bm rfl ?_)
  | (with_reducible refine wpE_bm0 rfl ?_)
  | (with_reducible refine wpE_call0E (fun _ => .nil) ?_)
  | ((with_reducible show wpE _ _ _ (tFld _ _ _) _ _ _); refine wpE_fld (by assumption) (by assumption) ?_)
  | (with_reducible refine wpE_chain ?_))
local macro_rules | `(tactic| walk_at "gA") => `(tactic| first
  | (with_reducible refine wpA_nil ?_)
  | (with_reducible refine wpA_cons ?_))
local macro_rules | `(tactic| walk_at "gO") => `(tactic| first
  | (with_reducible refine wpO_none ?_)
  | (with_reducible refine wpO_some ?_))
local macro_rules | `(tactic| walk_at "gT") => `(tactic| first
  | (with_reducible refine wpT_test ?_)
  | (with_reducible refine wpT_B ?_)
  | (with_reducible refine wpT_not ?_)
  | (with_reducible refine wpT_tru ?_))
local macro_rules | `(tactic| walk_at "gR") => `(tactic| first
  | (with_reducible refine wpR_addI ?_)
  | (with_reducible refine wpR_sub ?_)
  | (with_reducible refine wpR_lt ?_)
  | (with_reducible refine wpR_le ?_)
  | (with_reducible refine wpR_gt ?_)
  | (with_reducible refine wpR_ge ?_)
  | (with_reducible refine wpR_eqI ?_)
  | (with_reducible refine wpR_neI ?_)
  | (with_reducible refine wpR_eqS ?_)
  | (with_reducible refine wpR_neS ?_)
  | (with_reducible refine wpR_eqB ?_)
  | (with_reducible refine wpR_isN ?_)
  | (with_reducible refine wpR_notN ?_)
  | ((with_reducible show wpR _ rDivA _ _ _ _); refine wpR_div (by omega) (by omega) ?_)
  | ((with_reducible show wpR _ rModA _ _ _ _); refine wpR_mod (by omega) ?_)
  | ((with_reducible show wpR _ rMulA _ _ _ _); first | refine wpR_mul (.inl ⟨by omega, by omega⟩) ?_ | refine wpR_mul (.inr ⟨by omega, by omega⟩) ?_)
  | ((with_reducible show wpR _ rPowA _ _ _ _); refine wpR_pow ⟨by decide, by decide, by decide⟩ ?_)
  | ((with_reducible show wpR _ (rIxLT _) _ _ _ _); first
      | refine wpR_ixI seq_l (by omega) (by omega) ?_
      | refine wpR_ixI (seq_m (i := 0) rfl) (by omega) (by omega) ?_
      | refine wpR_ixI (seq_m (i := 1) rfl) (by omega) (by omega) ?_
      | refine wpR_ixI (seq_m (i := 2) rfl) (by omega) (by omega) ?_
      | refine wpR_ixA (.inl seq_l) rfl ?_
      | refine wpR_ixA (.inr rfl) rfl ?_
      | refine wpR_ixA (.inl (seq_m (i := 0) rfl)) rfl ?_
      | refine wpR_ixA (.inl (seq_m (i := 1) rfl)) rfl ?_
      | refine wpR_ixA (.inl (seq_m (i := 2) rfl)) rfl ?_))
local macro_rules | `(tactic| walk_at "gU") => `(tactic| first
  | (with_reducible refine wpU_neg ?_))
local macro_rules | `(tactic| walk_at "gC") => `(tactic| first
  | (with_reducible refine wpC_int ?_)
  | (with_reducible refine wpC_abs ?_)
  | (with_reducible refine wpC_max2 ?_)
  | (with_reducible refine wpC_min2 ?_)
  | ((with_reducible show wpC _ (rLenA _) _ _ _); first
      | refine wpC_lenI seq_l ?_
      | refine wpC_lenI seq_k ?_
      | refine wpC_lenI (seq_m (i := 0) rfl) ?_
      | refine wpC_lenI (seq_m (i := 1) rfl) ?_
      | refine wpC_lenL seq_l ?_
      | refine wpC_lenL seq_k ?_
      | refine wpC_lenT ?_
      | refine wpC_lenL (seq_m (i := 0) rfl) ?_
      | refine wpC_lenL (seq_m (i := 1) rfl) ?_
      | refine wpC_lenL (seq_m (i := 2) rfl) ?_))
local macro_rules | `(tactic| walk_at "gI") => `(tactic| first
  | (with_reducible refine wpI_list ?_)
  | (with_reducible refine wpI_tup ?_)
  | (with_reducible refine wpI_rng1 ?_)
  | (with_reducible refine wpI_rng2 ?_)
  | (with_reducible refine wpI_enum ?_)
  | (with_reducible refine wpI_seq ?_))
local macro_rules | `(tactic| walk_at "gPut") => `(tactic| first
  | ((with_reducible show wpPut _ rSetL _ (.int _) _ _ _); first
      | refine wpPut_I (j := 0) rfl (by omega) (by omega) ?_
      | refine wpPut_I (j := 1) rfl (by omega) (by omega) ?_
      | refine wpPut_I (j := 0) rfl (by omega) (by simp only [List.length_set]; omega) ?_
      | refine wpPut_I (j := 1) rfl (by omega) (by simp only [List.length_set]; omega) ?_
      | refine wpPut_lst (j := 0) rfl (by omega) (by simp <;> omega) ?_
      | refine wpPut_lst (j := 1) rfl (by omega) (by simp <;> omega) ?_))
local macro_rules | `(tactic| walk_at "gG") => `(tactic| first
  | (with_reducible refine wpG_name ?_)
  | (with_reducible refine wpG_tup rfl ?_)
  | ((with_reducible show wpG _ (gSeq _ _ _) (.tup _) _ _ _); refine wpG_seqT rfl ?_)
  | ((with_reducible show wpG _ (gSeq _ _ _) (.lst _) _ _ _); refine wpG_seqL seq_l rfl ?_)
  | ((with_reducible show wpG _ (gLst _ _ _) (.lst _) _ _ _); refine wpG_lst seq_l rfl ?_))
local macro_rules | `(tactic| walk_at "gGs") => `(tactic| first
  | (with_reducible refine wpGs_cons ?_)
  | (with_reducible refine wpGs_nil ?_))
local macro_rules | `(tactic| walk_at "gX") => `(tactic| first
  | ((with_reducible show (∃ xs, seqOf _ _ xs) ∧ _); first | refine ⟨⟨_, seq_l⟩, ?_⟩ | refine ⟨⟨_, seq_m (i := 0) rfl⟩, ?_⟩ | refine ⟨⟨_, seq_m (i := 1) rfl⟩, ?_⟩ | refine ⟨⟨_, seq_m (i := 2) rfl⟩, ?_⟩ | refine ⟨⟨_, seq_k⟩, ?_⟩)
  | ((with_reducible show ∃ fs v, insOf _ (.ins _ _) _ fs ∧ _); refine ⟨_, _, ins_l, rfl, ?_⟩)
  | ((with_reducible show ∃ b, TrD _ (.bl _) b ∧ _); refine ⟨_, .bl _, ?_⟩)
  | ((with_reducible show ∃ b, TrD _ .non b ∧ _); refine ⟨_, .non, ?_⟩)
  | ((with_reducible show ∃ b, TrD _ (.int _) b ∧ _); refine ⟨_, .int _, ?_⟩)
  | ((with_reducible show ∃ b, TrD _ (.lst _) b ∧ _); refine ⟨_, .seq seq_l, ?_⟩)
  | ((with_reducible show ∃ b, TrD _ (.tup _) b ∧ _); refine ⟨_, .tup _, ?_⟩)
  | (with_reducible refine ⟨_, rfl, ?_⟩)
  | (intro wf; cases wf; done)
  | (dsimp only [List.set_cons_zero, List.set_cons_succ, List.append_nil, List.nil_append, List.cons_append, wipeG, Int.reduceToNat, List.length_map, lcEnd, dcEnd]))
local macro_rules | `(tactic| walk_at "w1") => `(tactic| first
  | ((with_reducible show wpS _ _ _ _ _ _ _); walk_at "gS")
  | ((with_reducible show wpE _ _ _ _ _ _ _); walk_at "gE")
  | ((with_reducible show wpA _ _ _ _ _ _ _); walk_at "gA")
  | ((with_reducible show wpO _ _ _ _ _ _ _); walk_at "gO")
  | ((with_reducible show wpT _ _ _ _ _ _ _); walk_at "gT")
  | ((with_reducible show wpR _ _ _ _ _ _); walk_at "gR")
  | ((with_reducible show wpU _ _ _ _ _); walk_at "gU")
  | ((with_reducible show wpC _ _ _ _ _); walk_at "gC")
  | ((with_reducible show wpI _ _ _ _ _ _ _); walk_at "gI")
  | ((with_reducible show wpPut _ _ _ _ _ _ _); walk_at "gPut")
  | ((with_reducible show wpG _ _ _ _ _ _); walk_at "gG")
  | ((with_reducible show wpGs _ _ _ _ _ _); walk_at "gGs")
  | walk_at "gX")
local macro_rules | `(tactic| walk_at "w") => `(tactic| repeat (walk_at "w1"))
local macro_rules | `(tactic| walk_at "start") => `(tactic| (dsimp only [startD, List.length_cons, List.length_nil, List.map_cons, List.map_nil, Nat.reduceAdd, Nat.reduceSub, List.replicate, List.cons_append, List.nil_append, List.map]))
local macro_rules | `(tactic| walk_at "wr") => `(tactic| ((repeat (walk_at "w1")); (with_reducible refine wpS_ret ?_); (repeat (walk_at "w1"))))
local macro_rules | `(tactic| walk_at "c0") => `(tactic| ((with_reducible refine wpE_call0 (fun _ => .nil) ?_); (repeat (walk_at "w1"))))
local macro_rules | `(tactic| walk_at "c1") => `(tactic| ((with_reducible refine wpE_call1 (fun _ => .nil) ?_); (repeat (walk_at "w1"))))
local macro_rules | `(tactic| walk_at "m0") => `(tactic| ((first | (with_reducible refine wpE_meth0 (fun _ => .nil) ?_) | (with_reducible refine wpE_meth0E (fun _ => .nil) ?_)); (repeat (walk_at "w1")); (refine ⟨rfl, ?_⟩); (repeat (walk_at "w1"))))
local macro_rules | `(tactic| walk_at "k0") => `(tactic| ((with_reducible refine wpE_make (fun _ => .nil) ?_); (repeat (walk_at "w1")); (refine ⟨[], lent_nil, fun s _ => ?_⟩)))
local macro_rules | `(tactic| walk_at "wf") => `(tactic| ((repeat (walk_at "w1")); (with_reducible refine wpS_ret ?_); (refine wpE_fgt ?_); (repeat (walk_at "w1"))))
def bad (ns : List Int) (i : Nat) : Bool := decide (12 ≤ i) || (decide (ns.getD i 0 < 0) || (decide (9999 < ns.getD i 0) || decide (ns.getD i 0 ∈ ns.take i)))
def wrong (ns : List Int) : Option Nat := (List.range ns.length).find? (bad ns)
def only (a b : List Int) : List Int := a.filter fun z => !decide (z ∈ b)
def unlK (a b : List Int) : Option Int := (only a b ++ only b a).min?
def exch (a : List Int) (i : Nat) : List Int := (a.set i (a.getD (i + 1) 0)).set (i + 1) (a.getD i 0)
def srt (a : List Int) : List Int := a.mergeSort fun x y => decide (x ≤ y)
/-- the least place whose two keys stand in the other order in b -/
def turnAt (b o : List Int) (i : Nat) : Prop := i + 1 < o.length ∧ b.idxOf (o.getD (i + 1) 0) < b.idxOf (o.getD i 0) ∧ ∀ j, j < i → ¬ b.idxOf (o.getD (j + 1) 0) < b.idxOf (o.getD j 0)
inductive Gr (b : List Int) : List Int → List Int → Prop where
  | done : Gr b b []
  | step {o : List Int} {i : Nat} {sw : List Int} : turnAt b o i → Gr b (exch o i) sw → Gr b o ((i : Int) :: sw)
inductive Rs where
  | ok | bad (p : Nat) | unl (m : Int) | swp
def res1 (a : List Int) : Rs := match wrong a with
  | some p => .bad p
  | none => .ok
def resS (a : List Int) (i : Int) : Rs := match wrong a with
  | some p => .bad p
  | none => if i < 0 ∨ (a.length : Int) - 2 < i then .swp else .ok
def res2 (a b : List Int) : Rs := match wrong a with
  | some p => .bad p
  | none => match wrong b with
    | some p => .bad p
    | none => match unlK a b with
      | some m => .unl m
      | none => .ok
/-- few small keys -/
def Sm (a : List Int) : Prop := a.length ≤ 16 ∧ ∀ z ∈ a, -1000000 ≤ z ∧ z ≤ 1000000
def oN : Option Nat → D
  | none => .non
  | some p => .int (p : Int)
def exOf (K : PySem.W.Frag) : Rs → Xc
  | .bad p => ⟨He.ga K "InvalidList", [("place", .int (p : Int))]⟩
  | .unl m => ⟨He.ga K "UnlikeKeys", [("key", .int m)]⟩
  | _ => ⟨He.ga K "InvalidSwap", [("step", .int 0)]⟩
def rsp (K : PySem.W.Frag) (r : Rs) (k : Prop) (x : Xk) : Prop := (r = .ok → k) ∧ (r ≠ .ok → x (exOf K r) [])
def idxD (a : List Int) : List (Key × D) := a.zipIdx.map fun p => (.inl p.1, .int (p.2 : Int))
abbrev prs (ps : List (Int × Int)) : D := .lst (ps.map PyD.prD)
def boxD (cs : List Int) (r t : Int) : D := .lst [L cs, .int r, .int t]
def Bx (d : D) : Prop := ∃ cs r t, d = boxD cs r t ∧ 0 ≤ r ∧ 0 ≤ t ∧ cs.length ≤ 63
def sp_first_wrong_place (K : PySem.W.Frag) : DSp := fun ds O k x => ∃ a, (ds = [L a] ∧ O = []) ∧ Sm a ∧ k (oN (wrong a)) []
def sp_check_list (K : PySem.W.Frag) : DSp := fun ds O k x => ∃ a, (ds = [L a] ∧ O = []) ∧ Sm a ∧ rsp K (res1 a) (k .non []) x
def sp_index_of (K : PySem.W.Frag) : DSp := fun ds O k x => ∃ a, (ds = [L a] ∧ O = []) ∧ Sm a ∧ a.Nodup ∧ k (.dK (idxD a)) []
def sp_swap_at (K : PySem.W.Frag) : DSp := fun ds O k x => ∃ a i, (ds = [L a, .int i] ∧ O = []) ∧ Sm a ∧ rsp K (resS a i) (∀ c, k (.mut c) [⟨c, true, L (exch a i.toNat)⟩]) x
def sp__law_box (K : PySem.W.Frag) : DSp := fun ds O k x => ∃ ns : List Int, (ds = [.kl (ns.map D.int)] ∧ O = []) ∧ ns.length ≤ 63 ∧ ∀ c d, Bx d → k (.mut c) [⟨c, true, d⟩]
def sp__law_take (K : PySem.W.Frag) : DSp := fun ds O k x => ∃ a d n, (ds = [.mut a, .int n] ∧ O = [⟨a, false, d⟩]) ∧ Bx d ∧ 1 ≤ n ∧ n < 1099511627776 ∧ ∀ v d', 0 ≤ v → v < n → Bx d' → k (.int v) [⟨a, false, d'⟩]
def sp__law_keys (K : PySem.W.Frag) : DSp := fun ds O k x => ∃ a d n, (ds = [.mut a, .int n] ∧ O = [⟨a, false, d⟩]) ∧ Bx d ∧ 0 ≤ n ∧ n ≤ 12 ∧ ∀ (ks : List Int) d', Bx d' → (ks.length : Int) = n → ks.Nodup → (∀ z ∈ ks, 0 ≤ z ∧ z ≤ 6999) → k (L ks) [⟨a, false, d'⟩]
def sp__law_order (K : PySem.W.Frag) : DSp := fun ds O k x => ∃ a d ns, (ds = [.mut a, L ns] ∧ O = [⟨a, false, d⟩]) ∧ Bx d ∧ ns.length ≤ 63 ∧ ∀ (ks : List Int) d', Bx d' → ks.Perm ns → k (L ks) [⟨a, false, d'⟩]
abbrev N_first_wrong_place : List Str := ["order", "seen", "place", "key"]
def t_first_wrong_place (K : PySem.W.Frag) (W : WX) : TS :=
  tSeq (tAsg (tDNewK) (gName 1))
    (tSeq (tFor (iEnum K (tCons (tVar 0) (tNil))) (gTup K 2 (gCons (gName 2) (gCons (gName 3) (gNil)))) (tSeq (tIfS (tOr (tTest (tOp rGeA (tVar 2) (tC (.int 12)))) (tOr (tTest (tOp rLtA (tVar 3) (tC (.int 0)))) (tOr (tTest (tOp rGtA (tVar 3) (tC (.int 9999)))) (tB (tDIn (tVar 3) (tVar 1)))))) (tRet (tVar 2)) (tNext))
    (sDPut (tVar 1) (tVar 3) (tC (.bl true)))))
    (tRet (tC .non)))
abbrev N_check_list : List Str := ["order", "place"]
def t_check_list (K : PySem.W.Frag) (W : WX) : TS :=
  tSeq (tAsg (tCallSD (toSp K (sp_first_wrong_place K)) [] (WE W) (tCons (tVar 0) (tNil))) (gName 1))
    (tIfS (tTest (tOp rNotN (tVar 1) (tC .non))) (tRaiseX (He.ga K "InvalidList") "place" fmtI W (tCons (tVar 1) (tNil))) (tNext))
abbrev N_index_of : List Str := ["order", "place", "key"]
def t_index_of (K : PySem.W.Frag) (W : WX) : TS :=
  tRet (tDc (iEnum K (tCons (tVar 0) (tNil))) (gTup K 2 (gCons (gName 1) (gCons (gName 2) (gNil)))) (tYes) (tVar 2) (tVar 1) [1, 2])
abbrev N_swap_at : List Str := ["order", "index", "swapped"]
def t_swap_at (K : PySem.W.Frag) (W : WX) : TS :=
  tSeq (tDrop (tCallSD (toSp K (sp_check_list K)) [] (WE W) (tCons (tVar 0) (tNil))))
    (tSeq (tIfS (tOr (tTest (tOp rLtA (tVar 1) (tC (.int 0)))) (tTest (tOp rGtA (tVar 1) (tOp rSubA (tCB (rLenA K) (tCons (tVar 0) (tNil))) (tC (.int 2)))))) (tRaiseX (He.ga K "InvalidSwap") "step" fmtI W (tCons (tC (.int 0)) (tNil))) (tNext))
    (tSeq (tAsg (tCB (rListA K) (tCons (tVar 0) (tNil))) (gName 2))
    (tSeq (tAsg (tOp (rIxLT K) (tVar 0) (tOp rAddA (tVar 1) (tC (.int 1)))) (gSub (tVar 2) (tVar 1) rSetL))
    (tSeq (tAsg (tOp (rIxLT K) (tVar 0) (tVar 1)) (gSub (tVar 2) (tOp rAddA (tVar 1) (tC (.int 1))) rSetL))
    (tRet (tVar 2))))))
abbrev N__law_take : List Str := ["_law_box_here", "_law_size", "_law_rest", "_law_turn", "_law_cells", "_law_cell", "_law_mixed"]
def t__law_take (K : PySem.W.Frag) (W : WX) : TS :=
  tSeq (tAsg (tOp (rIxLT K) (tVar 0) (tC (.int 1))) (gName 2))
    (tSeq (tIfS (tTest (tOp rGtA (tVar 2) (tC (.int 0)))) (tSeq (tAsg (tOp rDivA (tVar 2) (tVar 1)) (gSub (tVar 0) (tC (.int 1)) rSetL))
    (tRet (tOp rModA (tCB (rIntA) (tCons (tVar 2) (tNil))) (tVar 1)))) (tNext))
    (tSeq (tAsg (tOp rAddA (tOp (rIxLT K) (tVar 0) (tC (.int 2))) (tC (.int 1))) (gSub (tVar 0) (tC (.int 2)) rSetL))
    (tSeq (tAsg (tOp (rIxLT K) (tVar 0) (tC (.int 2))) (gName 3))
    (tSeq (tAsg (tOp (rIxLT K) (tVar 0) (tC (.int 0))) (gName 4))
    (tSeq (tAsg (tC (.int 0)) (gName 5))
    (tSeq (tIfS (tTest (tOp rLeA (tVar 3) (tCB (rLenA K) (tCons (tVar 4) (tNil))))) (tSeq (tAsg (tCB (rAbs) (tCons (tOp (rIxLT K) (tVar 4) (tOp rSubA (tVar 3) (tC (.int 1)))) (tNil))) (gName 5))
    (tIfS (tTest (tOp rGeA (tVar 5) (tOp rPowA (tC (.int 10)) (tC (.int 18))))) (tSeq (tAsg (tOp rDivA (tVar 5) (tVar 1)) (gSub (tVar 0) (tC (.int 1)) rSetL))
    (tRet (tOp rModA (tCB (rIntA) (tCons (tVar 5) (tNil))) (tVar 1)))) (tNext))) (tIfS (tTru K (tVar 4)) (tAsg (tCB (rAbs) (tCons (tOp (rIxLT K) (tVar 4) (tOp rModA (tVar 3) (tCB (rLenA K) (tCons (tVar 4) (tNil))))) (tNil))) (gName 5)) (tNext)))
    (tSeq (tAsg (tOp rModA (tCB (rIntA) (tCons (tOp rAddA (tOp rMulA (tOp rAddA (tVar 5) (tOp rMulA (tVar 3) (tC (.int 7919)))) (tC (.int 48271))) (tC (.int 11))) (tNil))) (tC (.int 2147483647))) (gName 6))
    (tSeq (tAsg (tOp rModA (tCB (rIntA) (tCons (tOp rAddA (tOp rMulA (tVar 6) (tOp rAddA (tOp rDivA (tVar 6) (tC (.int 4096))) (tC (.int 69621)))) (tVar 3)) (tNil))) (tC (.int 2147483629))) (gName 6))
    (tRet (tOp rModA (tCB (rIntA) (tCons (tOp rDivA (tVar 6) (tC (.int 7))) (tNil))) (tVar 1)))))))))))
abbrev N__law_box : List Str := ["_law_script"]
def t__law_box (K : PySem.W.Frag) (W : WX) : TS :=
  tRet (tLst (tCons (tCB (rListA K) (tCons (L2.tSl (rSlL K) (tVar 0) (tNoPart) (tPart (tC (.int 63)))) (tNil))) (tCons (tC (.int 0)) (tCons (tC (.int 0)) (tNil)))))
abbrev N__law_order : List Str := ["_law_box_here", "_law_keys_here", "_law_left", "_law_order_here", "_law_k"]
def t__law_order (K : PySem.W.Frag) (W : WX) : TS :=
  tSeq (tAsg (tCB (rListA K) (tCons (tVar 1) (tNil))) (gName 2))
    (tSeq (tAsg (tLst (tNil)) (gName 3))
    (tSeq (tFor (iRng1 (tCons (tCB (rLenA K) (tCons (tVar 1) (tNil))) (tNil))) (gName 4) (tDrop (tBM K "list" rAppend (tVar 3) (tCons (tBM K "list" rPopAt (tVar 2) (tCons (tCallSD (toSp K (sp__law_take K)) [] (WE W) (tCons (tVar 0) (tCons (tCB (rLenA K) (tCons (tVar 2) (tNil))) (tNil)))) (tNil))) (tNil)))))
    (tRet (tVar 3))))
abbrev N__law_keys : List Str := ["_law_box_here", "_law_count", "_law_keys_here", "_law_last", "_law_k"]
def t__law_keys (K : PySem.W.Frag) (W : WX) : TS :=
  tSeq (tAsg (tLst (tNil)) (gName 2))
    (tSeq (tAsg (tCallSD (toSp K (sp__law_take K)) [] (WE W) (tCons (tVar 0) (tCons (tC (.int 600)) (tNil)))) (gName 3))
    (tSeq (tFor (iRng1 (tCons (tVar 1) (tNil))) (gName 4) (tSeq (tDrop (tBM K "list" rAppend (tVar 2) (tCons (tVar 3) (tNil))))
    (tAsg (tOp rAddA (tOp rAddA (tVar 3) (tC (.int 1))) (tOp rMulA (tCallSD (toSp K (sp__law_take K)) [] (WE W) (tCons (tVar 0) (tCons (tC (.int 3)) (tNil)))) (tCallSD (toSp K (sp__law_take K)) [] (WE W) (tCons (tVar 0) (tCons (tC (.int 240)) (tNil)))))) (gName 3))))
    (tRet (tCallSD (toSp K (sp__law_order K)) [] (WE W) (tCons (tVar 0) (tCons (tVar 2) (tNil)))))))
abbrev N_law : List Str := ["_law_script", "_law_box_here", "_law_count", "_law_first", "_law_second_here", "_law_near", "_law_far", "_law_index", "_law_way", "_law_place"]
theorem wrong_some {a : List Int} {p : Nat} (hp : p < a.length) (hb : bad a p = true) (h : ∀ j, j < p → bad a j = false) : wrong a = some p := by
  unfold wrong
  rw [List.find?_range_eq_some]
  exact ⟨hb, List.mem_range.mpr hp, fun j hj => by rw [h j hj]; rfl⟩
theorem wrong_none {a : List Int} (h : ∀ j, j < a.length → bad a j = false) : wrong a = none := by
  unfold wrong
  rw [List.find?_eq_none]
  intro j hj
  rw [h j (List.mem_range.mp hj)]
  decide
theorem wrong_not {a : List Int} (h : wrong a = none) : ∀ j, j < a.length → bad a j = false := fun j hj => by
  unfold wrong at h
  rw [List.find?_eq_none] at h
  have := h j (List.mem_range.mpr hj)
  simpa using this
theorem wrong_lt {a : List Int} {p : Nat} (h : wrong a = some p) : p < a.length := by
  unfold wrong at h
  exact List.mem_range.mp (List.mem_of_find?_eq_some h)
/-- keys seen, as the dict holds them -/
def seenD (l : List Int) : List (Key × D) := l.map fun z => ((Sum.inl z : Key), D.bl true)
theorem seen_val (l : List Int) (z : Int) : (valD (seenD l) (Sum.inl z)).isSome = decide (z ∈ l) := by
  unfold valD seenD
  induction l with
  | nil => rfl
  | cons y l ih =>
    rw [List.map_cons, List.find?_cons]
    by_cases h : y = z
    · subst h
      simp
    · have h1 : decide ((Sum.inl y : Key) = Sum.inl z) = false := decide_eq_false fun e => h (Sum.inl.inj e)
      rw [h1]
      dsimp only
      rw [ih]
      have : (z ∈ y :: l) ↔ z ∈ l := by
        rw [List.mem_cons]
        exact ⟨fun q => q.resolve_left fun e => h e.symm, .inr⟩
      simp only [this]
theorem seen_put {l : List Int} {z : Int} (h : z ∉ l) : putD (seenD l) (Sum.inl z) (.bl true) = seenD (l ++ [z]) := by
  unfold putD
  have : (seenD l).any (fun kv => decide (kv.1 = Sum.inl z)) = false := by
    rw [List.any_eq_false]
    intro kv hkv
    obtain ⟨y, hy, rfl⟩ := List.mem_map.mp hkv
    simp only [decide_eq_true_eq]
    intro e
    exact h (by rw [← Sum.inl.inj e]; exact hy)
  rw [this]
  unfold seenD
  rw [List.map_append] <;> rfl
theorem take_snoc {a : List Int} {i : Nat} {z : Int} (h : a[i]? = some z) : a.take (i + 1) = a.take i ++ [z] := by
  rw [List.take_succ, h] <;> rfl
theorem bad_parts {a : List Int} {i : Nat} {z : Int} (h : a[i]? = some z) : bad a i = (decide (12 ≤ i) || (decide (z < 0) || (decide (9999 < z) || decide (z ∈ a.take i)))) := by
  unfold bad
  rw [get_D h]
theorem unl_nil {a b : List Int} (h : only a b ++ only b a = []) : unlK a b = none := by
  unfold unlK
  rw [h] <;> rfl
theorem unl_none {a b : List Int} (h : unlK a b = none) : only a b ++ only b a = [] := by
  unfold unlK at h
  cases e : only a b ++ only b a with
  | nil => rfl
  | cons c l => rw [e] at h; cases h
theorem only_nil {a b : List Int} (h : only a b = []) : ∀ z ∈ a, z ∈ b := fun z hz => by
  have := List.filter_eq_nil_iff.mp h z hz
  simpa using this
theorem wrong_nodup {a : List Int} (h : wrong a = none) : a.Nodup := by
  rw [List.nodup_iff_pairwise_ne] 
  rw [List.pairwise_iff_getElem]
  intro i j hi hj hij e
  have hb := wrong_not h j hj
  unfold bad at hb
  have hm : a.getD j 0 ∈ a.take j := by
    rw [List.getD_eq_getElem?_getD, List.getElem?_eq_getElem hj]
    show a[j] ∈ a.take j
    rw [← e]
    rw [List.mem_take_iff_getElem]
    exact ⟨i, by omega, rfl⟩
  rw [decide_eq_true hm] at hb
  simp at hb
theorem wrong_len {a : List Int} (h : wrong a = none) : a.length ≤ 12 := by
  refine Nat.le_of_not_lt fun hl => ?_
  have hb := wrong_not h 12 hl
  unfold bad at hb
  simp at hb
theorem same_perm {a b : List Int} (ha : wrong a = none) (hb : wrong b = none) (h : unlK a b = none) : a.Perm b := by
  have h1 := unl_none h
  obtain ⟨h2, h3⟩ := List.append_eq_nil_iff.mp h1
  exact (List.perm_ext_iff_of_nodup (wrong_nodup ha) (wrong_nodup hb)).mpr fun z => ⟨only_nil h2 z, only_nil h3 z⟩
def invN : List Nat → Nat
  | [] => 0
  | x :: xs => (xs.filter fun y => decide (y < x)).length + invN xs
theorem exch_cons {x : Int} {o : List Int} {i : Nat} : exch (x :: o) (i + 1) = x :: exch o i := by
  unfold exch
  rfl
theorem exch_zero {x y : Int} {o : List Int} : exch (x :: y :: o) 0 = y :: x :: o := rfl
theorem exch_perm : ∀ (o : List Int) (i : Nat), i + 1 < o.length → (exch o i).Perm o
  | [], _, h => by simp at h
  | [_], _, h => by simp at h
  | x :: y :: o, 0, _ => List.Perm.swap x y o
  | x :: y :: o, i + 1, h => by
    rw [exch_cons]
    exact (exch_perm (y :: o) i (by simpa using h)).cons x
theorem inv_exch (f : Int → Nat) : ∀ (o : List Int) (i : Nat), i + 1 < o.length → f (o.getD (i + 1) 0) < f (o.getD i 0) → invN (o.map f) = 1 + invN ((exch o i).map f)
  | [], _, h, _ => by simp at h
  | [_], _, h, _ => by simp at h
  | x :: y :: o, 0, _, h => by
    rw [exch_zero]
    have h : f y < f x := h
    simp only [List.map_cons, invN, List.filter_cons]
    rw [decide_eq_true h, decide_eq_false (show ¬ f x < f y by omega)]
    simp
    omega
  | x :: y :: o, i + 1, h, ht => by
    rw [exch_cons]
    have ih := inv_exch f (y :: o) i (by simpa using h) ht
    rw [List.map_cons, List.map_cons]
    have hp : ((exch (y :: o) i).map f).Perm ((y :: o).map f) := (exch_perm (y :: o) i (by simpa using h)).map f
    have hq := (hp.filter fun z => decide (z < f x)).length_eq
    show (List.filter _ ((y :: o).map f)).length + invN ((y :: o).map f) = 1 + ((List.filter _ ((exch (y :: o) i).map f)).length + invN ((exch (y :: o) i).map f))
    rw [hq, ih]
    omega
theorem chain_sorted (f : Int → Nat) : ∀ o : List Int, (∀ j, j + 1 < o.length → ¬ f (o.getD (j + 1) 0) < f (o.getD j 0)) → o.Pairwise (fun x y => f x ≤ f y)
  | [], _ => .nil
  | [x], _ => List.pairwise_singleton _ _
  | x :: y :: o, h => by
    have ih := chain_sorted f (y :: o) fun j hj => h (j + 1) (by simp at hj ⊢; omega)
    have h0 : ¬ f y < f x := h 0 (by simp)
    refine List.pairwise_cons.mpr ⟨fun z hz => ?_, ih⟩
    rcases List.mem_cons.mp hz with rfl | hz
    · omega
    · have := (List.pairwise_cons.mp ih).1 z hz
      omega
theorem idx_ne {z y : Int} {l : List Int} (h : z ≠ y) : (z :: l).idxOf y = l.idxOf y + 1 := by
  rw [List.idxOf_cons, show (z == y) = false by simpa using h] <;> rfl
theorem idx_inj {b : List Int} {x y : Int} (hx : x ∈ b) (hy : y ∈ b) (h : b.idxOf x = b.idxOf y) : x = y := by
  have h1 := List.idxOf_lt_length_iff.mpr hx
  have h2 := List.idxOf_lt_length_iff.mpr hy
  rw [← List.getElem_idxOf h1, ← List.getElem_idxOf h2]
  simp only [h]
theorem self_sorted {b : List Int} (hb : b.Nodup) : b.Pairwise fun x y => b.idxOf x ≤ b.idxOf y := by
  rw [List.pairwise_iff_getElem]
  intro i j hi hj hij
  rw [hb.idxOf_getElem i hi, hb.idxOf_getElem j hj]
  exact Nat.le_of_lt hij
theorem no_turn {b o : List Int} (hb : b.Nodup) (hp : o.Perm b) (h : ∀ j, j + 1 < o.length → ¬ b.idxOf (o.getD (j + 1) 0) < b.idxOf (o.getD j 0)) : o = b :=
  List.Perm.eq_of_pairwise (le := fun x y => b.idxOf x ≤ b.idxOf y) (fun x y hx hy h1 h2 => idx_inj (hp.mem_iff.mp hx) hy (Nat.le_antisymm h1 h2)) (chain_sorted _ o h) (self_sorted hb) hp
theorem srt_perm (a : List Int) : (srt a).Perm a := List.mergeSort_perm _ _
theorem srt_sorted (a : List Int) : (srt a).Pairwise (· ≤ ·) := by
  have h := List.pairwise_mergeSort (le := fun x y : Int => decide (x ≤ y)) (by simp; intros; omega) (by simp; intros; omega) a
  exact h.imp fun h => by simpa using h
theorem srt_uniq {a ms : List Int} (h1 : ms.Perm a) (h2 : ms.Pairwise (· ≤ ·)) : ms = srt a :=
  List.Perm.eq_of_pairwise (le := (· ≤ ·)) (fun x y _ _ h3 h4 => Int.le_antisymm h3 h4) h2 (srt_sorted a) (h1.trans (srt_perm a).symm)
theorem srt_lt {a : List Int} (h : a.Nodup) : (srt a).Pairwise (· < ·) := by
  have h1 := srt_sorted a
  have h2 := List.nodup_iff_pairwise_ne.mp ((srt_perm a).nodup_iff.mpr h)
  exact (h1.and h2).imp fun ⟨p, q⟩ => by omega
theorem idx_val {b : List Int} (hb : b.Nodup) {y : Int} (hy : y ∈ b) : valD (idxD b) (Sum.inl y) = some (.int (b.idxOf y : Nat)) := by
  have go : ∀ (l : List Int) (n : Nat), y ∈ l → (((l.zipIdx n).map fun p => ((Sum.inl p.1 : Key), D.int (p.2 : Int))).find? fun kv => decide (kv.1 = Sum.inl y)).map (·.2) = some (.int ((n + l.idxOf y : Nat) : Int)) := by
    intro l
    induction l with
    | nil => intro n h; cases h
    | cons z l ih =>
      intro n h
      rw [List.zipIdx_cons, List.map_cons, List.find?_cons]
      by_cases e : z = y
      · subst e
        simp
      · have e1 : decide ((Sum.inl z : Key) = Sum.inl y) = false := decide_eq_false fun q => e (Sum.inl.inj q)
        rw [e1]
        dsimp only
        rw [ih (n + 1) ((List.mem_cons.mp h).resolve_left fun q => e q.symm), idx_ne e]
        congr 2
        omega
  have h := go b 0 hy
  unfold valD idxD
  rw [h, Nat.zero_add]
abbrev gD (gs : List (List Int)) : D := .lst (gs.map L)
abbrev stF (gs : List (List Int)) : List (Str × D) := [("_lists", gD gs), ("_places", .lst (gs.map fun o => D.dK (idxD o)))]
abbrev stD (K : PySem.W.Frag) (gs : List (List Int)) : D := .ins (He.ga K "State") (stF gs)
def row (gs : List (List Int)) (h : Nat) : List Int := gs.getD h []
/-- three lists of the same keys -/
structure VS (gs : List (List Int)) : Prop where
  len : gs.length = 3
  ok : ∀ o ∈ gs, wrong o = none
  same : ∀ o ∈ gs, o.Perm (row gs 0)
def wrongRep (gs : List (List Int)) : Option Nat := (List.range gs.length).find? fun i => (wrong (row gs i)).isSome || !decide (srt (row gs i) = srt (row gs 0))
def sayB (o : List Int) (x y : Int) : Bool := decide (o.idxOf x < o.idxOf y)
def kx (gs : List (List Int)) (h i : Nat) : Int := (row gs h).getD i 0
def silB (gs : List (List Int)) (h i : Nat) : Bool := decide (sayB (row gs ((h + 1) % 3)) (kx gs h i) (kx gs h (i + 1)) = sayB (row gs ((h + 2) % 3)) (kx gs h i) (kx gs h (i + 1)))
def swp (gs : List (List Int)) (h i : Nat) : List (List Int) := gs.set h (exch (row gs h) i)
/-- a swap that exists -/
def stepB (gs : List (List Int)) (s : Int × Int) : Bool := (decide (0 ≤ s.1) && decide (s.1 < 3)) && (decide (0 ≤ s.2) && decide (s.2 ≤ ((row gs 0).length : Int) - 2))
abbrev sil (gs : List (List Int)) (s : Int × Int) : Bool := silB gs s.1.toNat s.2.toNat
abbrev sws (gs : List (List Int)) (s : Int × Int) : List (List Int) := swp gs s.1.toNat s.2.toNat
/-- what a run does: the lists, or the fault (audible?) and its step -/
def playR : List (List Int) → List (Int × Int) → Nat → Except (Bool × Nat) (List (List Int))
  | gs, [], _ => .ok gs
  | gs, s :: sw, n => if stepB gs s then (if sil gs s then playR (sws gs s) sw (n + 1) else .error (true, n)) else .error (false, n)
def sp_check_replica (K : PySem.W.Frag) : DSp := fun ds O k x => ∃ h : Int, (ds = [.int h] ∧ O = []) ∧ (-1000000 ≤ h ∧ h ≤ 1000000) ∧ (0 ≤ h ∧ h < 3 → k .non []) ∧ (¬(0 ≤ h ∧ h < 3) → x ⟨He.ga K "UnknownReplica", [("replica", .int h)]⟩ [])
/-- keys: a list of ints, or a dict with ints as keys -/
def hasK (d : D) (z : Int) (b : Bool) : Prop := (∃ ns, d = L ns ∧ b = decide (z ∈ ns)) ∨ ∃ kds, d = .dK kds ∧ b = (valD kds (Sum.inl z)).isSome
def sp_require_key (K : PySem.W.Frag) : DSp := fun ds O k x => ∃ (d : D) (z : Int) (b : Bool), (ds = [d, .int z] ∧ O = []) ∧ (-1000000 ≤ z ∧ z ≤ 1000000) ∧ hasK d z b ∧ (b = true → k .non []) ∧ (b = false → x ⟨He.ga K "UnknownKey", [("key", .int z)]⟩ [])
def sp__wrong_replica (K : PySem.W.Frag) : DSp := fun ds O k x => ∃ gs, (ds = [gD gs] ∧ O = []) ∧ (∀ o ∈ gs, Sm o) ∧ gs ≠ [] ∧ gs.length ≤ 12 ∧ k (oN (wrongRep gs)) []
def sp_State___init__ (K : PySem.W.Frag) : DSp := fun ds O k x => ∃ (s : Addr) (d1 d2 d3 : D) (a b c : List Int) (A : Ow), (ds = [.mut s, d1, d2, d3] ∧ O = ⟨s, false, .ins (He.ga K "State") []⟩ :: A) ∧ (seqOf A d1 (a.map D.int) ∧ seqOf A d2 (b.map D.int) ∧ seqOf A d3 (c.map D.int)) ∧ (Sm a ∧ Sm b ∧ Sm c) ∧
  (wrongRep [a, b, c] = none → k .non (⟨s, false, .ins (He.ga K "State") (stF [a, b, c])⟩ :: A)) ∧ (∀ h, wrongRep [a, b, c] = some h → x ⟨He.ga K "InvalidState", [("replica", .int (h : Int))]⟩ (⟨s, false, .ins (He.ga K "State") []⟩ :: A))
def sp_State_lists (K : PySem.W.Frag) : DSp := fun ds O k x => ∃ gs, (ds = [stD K gs] ∧ O = []) ∧ gs.length ≤ 12 ∧ ∀ c, k (.mut c) [⟨c, true, gD gs⟩]
def sp_State_all_keys (K : PySem.W.Frag) : DSp := fun ds O k x => ∃ gs, (ds = [stD K gs] ∧ O = []) ∧ gs.length = 3 ∧ ∀ c, k (.mut c) [⟨c, true, L (srt (row gs 0))⟩]
def sp_State_list_of (K : PySem.W.Frag) : DSp := fun ds O k x => ∃ (gs : List (List Int)) (h : Int), (ds = [stD K gs, .int h] ∧ O = []) ∧ gs.length = 3 ∧ (-1000000 ≤ h ∧ h ≤ 1000000) ∧ (0 ≤ h ∧ h < 3 → ∀ c, k (.mut c) [⟨c, true, L (row gs h.toNat)⟩]) ∧ (¬(0 ≤ h ∧ h < 3) → x ⟨He.ga K "UnknownReplica", [("replica", .int h)]⟩ [])
def sp_State___len__ (K : PySem.W.Frag) : DSp := fun ds O k x => ∃ gs, (ds = [stD K gs] ∧ O = []) ∧ gs.length = 3 ∧ k (.int ((row gs 0).length : Int)) []
def sp_State_says (K : PySem.W.Frag) : DSp := fun ds O k x => ∃ (gs : List (List Int)) (h a b : Int), (ds = [stD K gs, .int h, .int a, .int b] ∧ O = []) ∧ VS gs ∧ (-1000000 ≤ h ∧ h ≤ 1000000) ∧ (-1000000 ≤ a ∧ a ≤ 1000000) ∧ (-1000000 ≤ b ∧ b ≤ 1000000) ∧
  (0 ≤ h ∧ h < 3 → a ∈ row gs 0 → b ∈ row gs 0 → k (.bl (sayB (row gs h.toNat) a b)) []) ∧ (¬(0 ≤ h ∧ h < 3) → x ⟨He.ga K "UnknownReplica", [("replica", .int h)]⟩ []) ∧
  (0 ≤ h ∧ h < 3 → a ∉ row gs 0 → x ⟨He.ga K "UnknownKey", [("key", .int a)]⟩ []) ∧ (0 ≤ h ∧ h < 3 → a ∈ row gs 0 → b ∉ row gs 0 → x ⟨He.ga K "UnknownKey", [("key", .int b)]⟩ [])
def sp_State_with_list (K : PySem.W.Frag) : DSp := fun ds O k x => ∃ (gs : List (List Int)) (h : Int) (o : List Int), (ds = [stD K gs, .int h, L o] ∧ O = []) ∧ VS gs ∧ (-1000000 ≤ h ∧ h ≤ 1000000) ∧ Sm o ∧
  (0 ≤ h ∧ h < 3 → wrong o = none → o.Perm (row gs 0) → k (stD K (gs.set h.toNat o)) []) ∧ (¬(0 ≤ h ∧ h < 3) → x ⟨He.ga K "UnknownReplica", [("replica", .int h)]⟩ []) ∧ (0 ≤ h ∧ h < 3 → ¬(wrong o = none ∧ o.Perm (row gs 0)) → x ⟨He.ga K "InvalidState", [("replica", .int h)]⟩ [])
def sp_is_swap (K : PySem.W.Frag) : DSp := fun ds O k x => ∃ gs s, (ds = [stD K gs, PyD.prD s] ∧ O = []) ∧ gs.length = 3 ∧ (row gs 0).length ≤ 1000 ∧ k (.bl (stepB gs s)) []
def sp_swap_pair (K : PySem.W.Frag) : DSp := fun ds O k x => ∃ gs s, (ds = [stD K gs, PyD.prD s] ∧ O = []) ∧ VS gs ∧ (stepB gs s = true → k (PyD.prD (kx gs s.1.toNat s.2.toNat, kx gs s.1.toNat (s.2.toNat + 1))) []) ∧ (stepB gs s = false → x ⟨He.ga K "InvalidSwap", [("step", .int 0)]⟩ [])
def sp__other_replicas (K : PySem.W.Frag) : DSp := fun ds O k x => ∃ h : Int, (ds = [.int h] ∧ O = []) ∧ (0 ≤ h ∧ h < 3) ∧ k (L ((([0, 1, 2] : List Int)).filter fun z => !decide (z = h))) []
def sp_is_silent (K : PySem.W.Frag) : DSp := fun ds O k x => ∃ gs s, (ds = [stD K gs, PyD.prD s] ∧ O = []) ∧ VS gs ∧ (stepB gs s = true → k (.bl (sil gs s)) []) ∧ (stepB gs s = false → x ⟨He.ga K "InvalidSwap", [("step", .int 0)]⟩ [])
def sp_swapped_state (K : PySem.W.Frag) : DSp := fun ds O k x => ∃ gs s, (ds = [stD K gs, PyD.prD s] ∧ O = []) ∧ VS gs ∧ stepB gs s = true ∧ k (stD K (sws gs s)) []
/-- three lists of one length, with the same keys -/
structure V3 (gs : List (List Int)) : Prop where
  len : gs.length = 3
  same : ∀ o ∈ gs, o.Perm (row gs 0)
  nd : (row gs 0).Nodup
  l12 : (row gs 0).length ≤ 12
abbrev trD (t : Int × Int × Int) : D := .tup [.int t.1, .int t.2.1, .int t.2.2]
def okR (gs : List (List Int)) (sw : List (Int × Int)) : Prop := ∃ g, playR gs sw 0 = .ok g
def endL (gs : List (List Int)) (sw : List (Int × Int)) : List (List Int) := sw.foldl sws gs
/-- the run of one replica -/
def rwRun (h : Int) (sw : List Int) : List (Int × Int) := sw.map fun i => (h, i)
def sp__law_is_number (K : PySem.W.Frag) : DSp := fun ds O k x => ∃ z : Int, (ds = [.int z, .int z] ∧ O = []) ∧ k (.bl true) []
/-- ints in a list or in a tuple -/
def rowIs (d : D) (a : List Int) : Prop := d = L a ∨ d = .tup (a.map D.int)
def sp__law_is_row (K : PySem.W.Frag) : DSp := fun ds O k x => ∃ d e a, (ds = [d, e] ∧ O = []) ∧ rowIs d a ∧ rowIs e a ∧ a.length ≤ 1000 ∧ k (.bl true) []
def sp__law_is_state (K : PySem.W.Frag) : DSp := fun ds O k x => ∃ gs, (ds = [stD K gs, gD gs] ∧ O = []) ∧ VS gs ∧ k (.bl true) []
def sp__law_is_truth (K : PySem.W.Frag) : DSp := fun ds O k x => ∃ b, (ds = [.bl b, .bl b] ∧ O = []) ∧ k (.bl true) []
def sp__law_quiet (K : PySem.W.Frag) : DSp := fun ds O k x => ∃ gs s, (ds = [gD gs, PyD.prD s] ∧ O = []) ∧ V3 gs ∧ stepB gs s = true ∧ k (.bl (sil gs s)) []
def sp__law_swapped_v2 (K : PySem.W.Frag) : DSp := fun ds O k x => ∃ gs s, (ds = [gD gs, PyD.prD s] ∧ O = []) ∧ V3 gs ∧ stepB gs s = true ∧ k (gD (sws gs s)) []
def sp__law_silent_v2 (K : PySem.W.Frag) : DSp := fun ds O k x => ∃ gs, (ds = [gD gs] ∧ O = []) ∧ V3 gs ∧ ∀ ws : List (Int × Int), (∀ s ∈ ws, stepB gs s = true ∧ sil gs s = true) → ws.length ≤ 100 → k (prs ws) []
def sp__law_walk_v2 (K : PySem.W.Frag) : DSp := fun ds O k x => ∃ (b : Addr) (d : D) (gs : List (List Int)) (n : Int), (ds = [.mut b, gD gs, .int n] ∧ O = [⟨b, false, d⟩]) ∧ Bx d ∧ V3 gs ∧ 0 ≤ n ∧ n ≤ 100 ∧ ∀ (sw : List (Int × Int)) d', Bx d' → okR gs sw → (sw.length : Int) ≤ n → k (prs sw) [⟨b, false, d'⟩]
def sp__law_after (K : PySem.W.Frag) : DSp := fun ds O k x => ∃ gs sw, (ds = [gD gs, prs sw] ∧ O = []) ∧ V3 gs ∧ okR gs sw ∧ k (gD (endL gs sw)) []
def sp__law_circle (K : PySem.W.Frag) : DSp := fun ds O k x => ∃ (b : Addr) (d : D) (ks : List Int), (ds = [.mut b, L ks] ∧ O = [⟨b, false, d⟩]) ∧ Bx d ∧ 2 < ks.length ∧ ks.length ≤ 12 ∧ ∀ l0 l1 l2 d', Bx d' → l0.Perm ks → l1.Perm ks → l2.Perm ks → k (gD [l0, l1, l2]) [⟨b, false, d'⟩]
def sp__law_lists (K : PySem.W.Frag) : DSp := fun ds O k x => ∃ (b : Addr) (d : D), (ds = [.mut b] ∧ O = [⟨b, false, d⟩]) ∧ Bx d ∧ ∀ gs d', Bx d' → VS gs → k (gD gs) [⟨b, false, d'⟩]
/-- the pairs of a list, as they stand -/
def wordsL (o : List Int) : List (Int × Int) := (List.range o.length).flatMap fun i => (o.drop (i + 1)).map fun y => (o.getD i 0, y)
def wordsD (o : List Int) : List (List Key × D) := (wordsL o).map fun p => ([.inl p.1, .inl p.2], D.bl true)
def sp__law_words (K : PySem.W.Frag) : DSp := fun ds O k x => ∃ o, (ds = [L o] ∧ O = []) ∧ o.Nodup ∧ o.length ≤ 12 ∧ ∀ c, k (.mut c) [⟨c, true, .dT (wordsD o)⟩]
/-- the pairs that two lists have so at least -/
def readL (gs : List (List Int)) : List (Int × Int) := (srt (row gs 0)).flatMap fun x => ((srt (row gs 0)).filter fun y => decide (1 < (gs.filter fun o => decide ((x, y) ∈ wordsL o)).length)).map fun y => (x, y)
def sp__law_reading (K : PySem.W.Frag) : DSp := fun ds O k x => ∃ gs, (ds = [gD gs] ∧ O = []) ∧ V3 gs ∧ k (prs (readL gs)) []
structure Mv where
  h : Int
  s : Int
  m : Int
  e : Int
/-- a move of lists of n keys -/
def okM (n : Nat) (v : Mv) : Prop := (0 ≤ v.h ∧ v.h < 3) ∧ 0 ≤ v.s ∧ v.s < v.m ∧ v.m < v.e ∧ v.e ≤ (n : Int)
def mvIx (v : Mv) : List Int := (List.range (v.e - v.m).toNat).flatMap fun (j : Nat) => (List.range (v.m - v.s).toNat).map fun (t : Nat) => v.m + (j : Int) - 1 - (t : Int)
def mvRun (v : Mv) : List (Int × Int) := rwRun v.h (mvIx v)
/-- the list with the blocks exchanged -/
def exO (o : List Int) (v : Mv) : List Int := o.take v.s.toNat ++ (o.drop v.m.toNat).take (v.e - v.m).toNat ++ (o.drop v.s.toNat).take (v.m - v.s).toNat ++ o.drop v.e.toNat
def exM (gs : List (List Int)) (v : Mv) : List (List Int) := gs.set v.h.toNat (exO (row gs v.h.toNat) v)
abbrev trs (ps : List (Int × Int × Int)) : D := .lst (ps.map trD)
abbrev tupD (a : List Int) : D := .tup (a.map D.int)
def sp__law_is_tuple_v2 (K : PySem.W.Frag) : DSp := fun ds O k x => ∃ a, (ds = [tupD a, tupD a] ∧ O = []) ∧ a.length ≤ 1000 ∧ k (.bl true) []
def sp__law_is_tuples_v2 (K : PySem.W.Frag) : DSp := fun ds O k x => ∃ xs : List (List Int), (ds = [.lst (xs.map tupD), .lst (xs.map tupD)] ∧ O = []) ∧ xs.length ≤ 10000 ∧ (∀ a ∈ xs, a.length ≤ 1000) ∧ k (.bl true) []
abbrev sp__law_is_number_v2 (K : PySem.W.Frag) : DSp := sp__law_is_number K
abbrev sp__law_is_row_v2 (K : PySem.W.Frag) : DSp := sp__law_is_row K
abbrev sp__law_is_state_v2 (K : PySem.W.Frag) : DSp := sp__law_is_state K
abbrev sp__law_is_truth_v2 (K : PySem.W.Frag) : DSp := sp__law_is_truth K
abbrev N__law_is_number_v2 : List Str := ["_law_actual", "_law_due"]
def t__law_is_number_v2 (K : PySem.W.Frag) (W : WX) : TS :=
  tRet (tAndV (tCB (rIsi K) (tCons (tVar 0) (tCons (tC (.ty "int")) (tNil)))) (tAndV (tNotV (tCB (rIsi K) (tCons (tVar 0) (tCons (tC (.ty "bool")) (tNil))))) (tOp (rEqA K) (tVar 0) (tVar 1))))
abbrev N__law_is_row_v2 : List Str := ["_law_actual", "_law_due", "_law_k"]
def t__law_is_row_v2 (K : PySem.W.Frag) (W : WX) : TS :=
  tSeq (tIfS (tTest (tOp (rNeA K) (tCB (rLenA K) (tCons (tVar 0) (tNil))) (tCB (rLenA K) (tCons (tVar 1) (tNil))))) (tRet (tC (.bl false))) (tNext))
    (tSeq (tFor (iRng1 (tCons (tCB (rLenA K) (tCons (tVar 1) (tNil))) (tNil))) (gName 2) (tIfS (tNot (tTru K (tCallSD (toSp K (sp__law_is_number_v2 K)) [] (WE W) (tCons (tOp (rIxLT K) (tVar 0) (tVar 2)) (tCons (tOp (rIxLT K) (tVar 1) (tVar 2)) (tNil)))))) (tRet (tC (.bl false))) (tNext)))
    (tRet (tC (.bl true))))
abbrev N__law_is_state_v2 : List Str := ["_law_actual", "_law_due", "_law_told", "_law_k"]
def t__law_is_state_v2 (K : PySem.W.Frag) (W : WX) : TS :=
  tSeq (tIfS (tNot (tTru K (tCB (rIsC (He.ga K "State")) (tCons (tVar 0) (tCons (tC (.ref (He.ga K "State"))) (tNil)))))) (tRet (tC (.bl false))) (tNext))
    (tSeq (tAsg (tMethA (He.ga K "State") "lists" (toSp K (sp_State_lists K)) [] (WE W) (tVar 0) tNil) (gName 2))
    (tSeq (tIfS (tOr (tNot (tTru K (tCB (rIsi K) (tCons (tVar 2) (tCons (tC (.ty "list")) (tNil)))))) (tTest (tOp (rNeA K) (tCB (rLenA K) (tCons (tVar 2) (tNil))) (tC (.int 3))))) (tRet (tC (.bl false))) (tNext))
    (tSeq (tFor (iRng1 (tCons (tC (.int 3)) (tNil))) (gName 3) (tIfS (tOr (tNot (tTru K (tCB (rIsi K) (tCons (tOp (rIxLT K) (tVar 2) (tVar 3)) (tCons (tC (.ty "list")) (tNil)))))) (tNot (tTru K (tCallSD (toSp K (sp__law_is_row_v2 K)) [] (WE W) (tCons (tOp (rIxLT K) (tVar 2) (tVar 3)) (tCons (tOp (rIxLT K) (tVar 1) (tVar 3)) (tNil))))))) (tRet (tC (.bl false))) (tNext)))
    (tRet (tC (.bl true))))))
abbrev N__law_is_tuple_v2 : List Str := ["_law_actual", "_law_due"]
def t__law_is_tuple_v2 (K : PySem.W.Frag) (W : WX) : TS :=
  tRet (tAndV (tCB (rIsi K) (tCons (tVar 0) (tCons (tC (.ty "tuple")) (tNil)))) (tCallSD (toSp K (sp__law_is_row_v2 K)) [] (WE W) (tCons (tVar 0) (tCons (tVar 1) (tNil)))))
abbrev N__law_is_tuples_v2 : List Str := ["_law_actual", "_law_due", "_law_k"]
def t__law_is_tuples_v2 (K : PySem.W.Frag) (W : WX) : TS :=
  tSeq (tIfS (tOr (tNot (tTru K (tCB (rIsi K) (tCons (tVar 0) (tCons (tC (.ty "list")) (tNil)))))) (tTest (tOp (rNeA K) (tCB (rLenA K) (tCons (tVar 0) (tNil))) (tCB (rLenA K) (tCons (tVar 1) (tNil)))))) (tRet (tC (.bl false))) (tNext))
    (tSeq (tFor (iRng1 (tCons (tCB (rLenA K) (tCons (tVar 1) (tNil))) (tNil))) (gName 2) (tIfS (tNot (tTru K (tCallSD (toSp K (sp__law_is_tuple_v2 K)) [] (WE W) (tCons (tOp (rIxLT K) (tVar 0) (tVar 2)) (tCons (tOp (rIxLT K) (tVar 1) (tVar 2)) (tNil)))))) (tRet (tC (.bl false))) (tNext)))
    (tRet (tC (.bl true))))
abbrev N__law_is_truth_v2 : List Str := ["_law_actual", "_law_due"]
def t__law_is_truth_v2 (K : PySem.W.Frag) (W : WX) : TS :=
  tRet (tAndV (tCB (rIsi K) (tCons (tVar 0) (tCons (tC (.ty "bool")) (tNil)))) (tOp (rEqA K) (tVar 0) (tVar 1)))
abbrev N__law_refuses : List Str := ["_law_state", "_law_bad", "_law_move_here", "_law_way"]
def rdF (ks : List Int) (ps : List (Int × Int)) : List (Str × D) := [("_keys", L ks), ("_before", .dT (pdD ps))]
abbrev rdD (K : PySem.W.Frag) (ks : List Int) (ps : List (Int × Int)) : D := .ins (He.ga K "Reading") (rdF ks ps)
/-- x, y and a third key form a circle -/
def cycB (ks : List Int) (ps : List (Int × Int)) (x y : Int) : Bool := ks.any fun z => decide ((y, z) ∈ ps) && decide ((z, x) ∈ ps)
def pinL (ks : List Int) (ps : List (Int × Int)) : List (Int × Int) := ps.filter fun p => cycB ks ps p.1 p.2
/-- a pair of two keys in exactly one order, none of equal keys -/
structure Gd (ks : List Int) (ps : List (Int × Int)) : Prop where
  nd : ks.Nodup
  self : ∀ x ∈ ks, (x, x) ∉ ps
  one : ∀ x ∈ ks, ∀ y ∈ ks, x ≠ y → decide ((x, y) ∈ ps) ≠ decide ((y, x) ∈ ps)
def wsB (gs : List (List Int)) (x y : Int) : List Bool := (List.range 3).map fun h => sayB (row gs h) x y
/-- the replica that dissents -/
def disN (gs : List (List Int)) (x y : Int) : Option Nat := (List.range 3).find? fun h => decide ((wsB gs x y).count ((wsB gs x y).getD h false) = 1)
def barN (gs : List (List Int)) (s : Int × Int) : Option Nat := if sil gs s then none else disN gs (kx gs s.1.toNat s.2.toNat) (kx gs s.1.toNat (s.2.toNat + 1))
abbrev swX (K : PySem.W.Frag) : Xc := ⟨He.ga K "InvalidSwap", [("step", .int 0)]⟩
abbrev auX (K : PySem.W.Frag) : Xc := ⟨He.ga K "AudibleSwap", [("step", .int 0)]⟩
/-- the pinned pairs and who dissents -/
def shL (gs : List (List Int)) : List (Int × Int × Int) := (readL gs).flatMap fun p => ((List.range 3).filter fun h => cycB (row gs 0) (readL gs) p.1 p.2 && !decide (p ∈ wordsL (row gs h))).map fun (h : Nat) => (p.1, p.2, (h : Int))
def allS (n : Nat) : List (Int × Int) := (List.range 3).flatMap fun (h : Nat) => (List.range (n - 1)).map fun (i : Nat) => ((h : Int), (i : Int))
def silL (gs : List (List Int)) : List (Int × Int) := (allS (row gs 0).length).filter fun s => sil gs s
def sp_apply_swap (K : PySem.W.Frag) : DSp := fun ds O k x => ∃ gs s, (ds = [stD K gs, PyD.prD s] ∧ O = []) ∧ VS gs ∧ (stepB gs s = false → x (swX K) []) ∧ (stepB gs s = true → sil gs s = true → k (stD K (sws gs s)) []) ∧ (stepB gs s = true → sil gs s = false → x (auX K) [])
def sp_dissenter (K : PySem.W.Frag) : DSp := fun ds O k x => ∃ (gs : List (List Int)) (a b : Int), (ds = [stD K gs, .int a, .int b] ∧ O = []) ∧ VS gs ∧ a ∈ row gs 0 ∧ b ∈ row gs 0 ∧ k (oN (disN gs a b)) []
def sp_barred_by (K : PySem.W.Frag) : DSp := fun ds O k x => ∃ gs s, (ds = [stD K gs, PyD.prD s] ∧ O = []) ∧ VS gs ∧ (stepB gs s = false → x (swX K) []) ∧ (stepB gs s = true → k (oN (barN gs s)) [])
def sp_Reading_pairs (K : PySem.W.Frag) : DSp := fun ds O k x => ∃ ks ps, (ds = [rdD K ks ps] ∧ O = []) ∧ ps.Pairwise lexI ∧ k (prs ps) []
def sp_Reading__in_a_cycle (K : PySem.W.Frag) : DSp := fun ds O k x => ∃ ks ps a b, (ds = [rdD K ks ps, .int a, .int b] ∧ O = []) ∧ ks.length ≤ 1000 ∧ k (.bl (cycB ks ps a b)) []
def sp_Reading_pinned (K : PySem.W.Frag) : DSp := fun ds O k x => ∃ ks ps, (ds = [rdD K ks ps] ∧ O = []) ∧ ps.Pairwise lexI ∧ ks.length ≤ 1000 ∧ ps.length ≤ 10000 ∧ k (prs (pinL ks ps)) []
def sp__first_wrong_pair (K : PySem.W.Frag) : DSp := fun ds O k x => ∃ ks ps, (ds = [L ks, .dT (pdD ps)] ∧ O = []) ∧ ks.length ≤ 1000 ∧ Gd ks ps ∧ k .non []
def sp_Reading___init__ (K : PySem.W.Frag) : DSp := fun ds O k x => ∃ (s : Addr) (ks : List Int) (ps : List (Int × Int)), (ds = [.mut s, L ks, prs ps] ∧ O = [⟨s, false, .ins (He.ga K "Reading") []⟩]) ∧ wrong ks = none ∧ Gd ks ps ∧ (∀ p ∈ ps, p.1 ∈ ks ∧ p.2 ∈ ks) ∧ ps.Nodup ∧ ps.length ≤ 10000 ∧ k .non [⟨s, false, .ins (He.ga K "Reading") (rdF (srt ks) ps)⟩]
def sp_read (K : PySem.W.Frag) : DSp := fun ds O k x => ∃ gs, (ds = [stD K gs] ∧ O = []) ∧ VS gs ∧ k (rdD K (srt (row gs 0)) (readL gs)) []
def sp_dealing (K : PySem.W.Frag) : DSp := fun ds O k x => ∃ gs, (ds = [stD K gs] ∧ O = []) ∧ VS gs ∧ k (trs (shL gs)) []
def sp_State_lists_own (K : PySem.W.Frag) : DSp := fun ds O k x => ∃ gs, (ds = [stD K gs] ∧ O = []) ∧ gs.length = 3 ∧ ∀ cs : List Addr, cs.length = 3 → k (.lst (cs.map D.mut)) (ownOf cs gs)
def sp_silent_swaps (K : PySem.W.Frag) : DSp := fun ds O k x => ∃ gs, (ds = [stD K gs] ∧ O = []) ∧ VS gs ∧ ∀ c, k (.mut c) [⟨c, true, prs (silL gs)⟩]
def sp__law_lacking (K : PySem.W.Frag) : DSp := fun ds O k x => ∃ (b : Addr) (d : D) (n : Nat), (ds = [.mut b, .int (n : Int)] ∧ O = [⟨b, false, d⟩]) ∧ Bx d ∧ n ≤ 12 ∧ ∀ (ls : List (Int × Int)) d', Bx d' → ls.length ≤ 20 → (∀ s ∈ ls, ∀ gs : List (List Int), (row gs 0).length = n → stepB gs s = false) → k (prs ls) [⟨b, false, d'⟩]
def sp__law_refused_v4 (K : PySem.W.Frag) : DSp := fun ds O k x => ∃ s : Str, (ds = [.tup [.str s, .int 0, .bl true], .str s] ∧ O = []) ∧ k (.bl true) []
def toldS (K : PySem.W.Frag) (gs : List (List Int)) (s : Int × Int) (w : Int) : D := if w = 0 then PyD.prD (kx gs s.1.toNat s.2.toNat, kx gs s.1.toNat (s.2.toNat + 1)) else if w = 1 then .bl (sil gs s) else if w = 2 then oN (barN gs s) else stD K (sws gs s)
def sp__law_call_v3 (K : PySem.W.Frag) : DSp := fun ds O k x => ∃ gs s w, (ds = [stD K gs, PyD.prD s, .int w] ∧ O = []) ∧ VS gs ∧ (0 ≤ w ∧ w ≤ 3) ∧ (stepB gs s = false → x (swX K) []) ∧ (stepB gs s = true → w = 3 → sil gs s = false → x (auX K) []) ∧ (stepB gs s = true → (w = 3 → sil gs s = true) → k (toldS K gs s w) [])
def sp__law_tried_v3 (K : PySem.W.Frag) : DSp := fun ds O k x => ∃ gs s w, (ds = [stD K gs, PyD.prD s, .int w] ∧ O = []) ∧ VS gs ∧ (0 ≤ w ∧ w ≤ 3) ∧ (stepB gs s = false → k (.tup [.str "invalid", .int 0, .bl true]) []) ∧ (stepB gs s = true → w = 3 → sil gs s = false → k (.tup [.str "audible", .int 0, .bl true]) []) ∧ (stepB gs s = true → (w = 3 → sil gs s = true) → k (.tup [.str "told", toldS K gs s w, .bl true]) [])
def sp__law_refuses_v2 (K : PySem.W.Frag) : DSp := fun ds O k x => ∃ gs ls, (ds = [stD K gs, prs ls] ∧ O = []) ∧ VS gs ∧ ls.length ≤ 20 ∧ (∀ s ∈ ls, stepB gs s = false) ∧ k (.bl true) []
/-- is_tuples, the told list perhaps one's own -/
def sp__law_is_tuples_own (K : PySem.W.Frag) : DSp := fun ds O k x => ∃ (d : D) (xs : List (List Int)) (A : Ow), (ds = [d, .lst (xs.map tupD)] ∧ O = A) ∧ seqOf A d (xs.map tupD) ∧ (d = .lst (xs.map tupD) ∨ ∃ a b, d = .mut a ∧ (⟨a, b, .lst (xs.map tupD)⟩ : Ob) ∈ A) ∧ xs.length ≤ 10000 ∧ (∀ a ∈ xs, a.length ≤ 1000) ∧ k (.bl true) A
def sp__law_shares (K : PySem.W.Frag) : DSp := fun ds O k x => ∃ gs, (ds = [gD gs] ∧ O = []) ∧ VS gs ∧ k (trs (shL gs)) []
def sp__law_deep_holds (K : PySem.W.Frag) : DSp := fun ds O k x => ∃ gs s b, (ds = [stD K gs, gD gs, PyD.prD s, .bl b, trs (shL gs)] ∧ O = []) ∧ VS gs ∧ stepB gs s = true ∧ b = sil gs s ∧ k (.bl true) []
def sp__law_swap_holds (K : PySem.W.Frag) : DSp := fun ds O k x => ∃ gs s b, (ds = [stD K gs, gD gs, PyD.prD s, .bl b, prs (readL gs)] ∧ O = []) ∧ VS gs ∧ stepB gs s = true ∧ b = sil gs s ∧ k (.bl true) []
def sp__law_state_holds (K : PySem.W.Frag) : DSp := fun ds O k x => ∃ gs s, (ds = [stD K gs, gD gs, PyD.prD s] ∧ O = []) ∧ VS gs ∧ k (.bl true) []
def sp_law_v5 (K : PySem.W.Frag) : DSp := fun ds O k x => ∃ ns : List Int, (ds = [.kl (ns.map D.int)] ∧ O = []) ∧ ns.length ≤ 63 ∧ k (.bl true) []
abbrev N__law_lacking : List Str := ["_law_box_here", "_law_size", "_law_replica", "_law_index", "_law_far", "_law_below", "_law_lacking_here"]
def t__law_lacking (K : PySem.W.Frag) (W : WX) : TS :=
  tSeq (tAsg (tCallSD (toSp K (sp__law_take K)) [] (WE W) (tCons (tVar 0) (tCons (tC (.int 3)) (tNil)))) (gName 2))
    (tSeq (tAsg (tCallSD (toSp K (sp__law_take K)) [] (WE W) (tCons (tVar 0) (tCons (tCB (rMax2) (tCons (tC (.int 1)) (tCons (tOp rSubA (tVar 1) (tC (.int 1))) (tNil)))) (tNil)))) (gName 3))
    (tSeq (tAsg (tOp rAddA (tC (.int 3)) (tCallSD (toSp K (sp__law_take K)) [] (WE W) (tCons (tVar 0) (tCons (tC (.int 9997)) (tNil))))) (gName 4))
    (tSeq (tAsg (tOp rSubA (tUn rNegA (tC (.int 1))) (tCallSD (toSp K (sp__law_take K)) [] (WE W) (tCons (tVar 0) (tCons (tC (.int 3)) (tNil))))) (gName 5))
    (tSeq (tAsg (tLst (tCons (tTup (tCons (tVar 4) (tCons (tVar 3) (tNil)))) (tCons (tTup (tCons (tVar 5) (tCons (tVar 3) (tNil)))) (tCons (tTup (tCons (tVar 2) (tCons (tOp rSubA (tVar 1) (tC (.int 1))) (tNil)))) (tCons (tTup (tCons (tVar 2) (tCons (tOp rAddA (tVar 1) (tCallSD (toSp K (sp__law_take K)) [] (WE W) (tCons (tVar 0) (tCons (tC (.int 9000)) (tNil))))) (tNil)))) (tNil)))))) (gName 6))
    (tRet (tOp rAddA (tVar 6) (tLst (tCons (tTup (tCons (tVar 2) (tCons (tOp rSubA (tUn rNegA (tC (.int 1))) (tCallSD (toSp K (sp__law_take K)) [] (WE W) (tCons (tVar 0) (tCons (tC (.int 14)) (tNil))))) (tNil)))) (tCons (tTup (tCons (tVar 5) (tCons (tVar 4) (tNil)))) (tNil))))))))))
abbrev N__law_refused_v4 : List Str := ["_law_answer", "_law_word"]
def t__law_refused_v4 (K : PySem.W.Frag) (W : WX) : TS :=
  tRet (tAndV (tOp (rEqA K) (tOp (rIxLT K) (tVar 0) (tC (.int 0))) (tVar 1)) (tAndV (tOp (rIxLT K) (tVar 0) (tC (.int 2))) (tCallSD (toSp K (sp__law_is_number_v2 K)) [] (WE W) (tCons (tOp (rIxLT K) (tVar 0) (tC (.int 1))) (tCons (tC (.int 0)) (tNil))))))
abbrev N_apply_swap : List Str := ["state", "swap"]
def t_apply_swap (K : PySem.W.Frag) (W : WX) : TS :=
  tSeq (tIfS (tNot (tTru K (tCallSD (toSp K (sp_is_silent K)) [] (WE W) (tCons (tVar 0) (tCons (tVar 1) (tNil)))))) (tRaiseX (He.ga K "AudibleSwap") "step" fmtI W (tCons (tC (.int 0)) (tNil))) (tNext))
    (tRet (tCallSD (toSp K (sp_swapped_state K)) [] (WE W) (tCons (tVar 0) (tCons (tVar 1) (tNil)))))
abbrev N_dissenter : List Str := ["state", "x", "y", "words", "replica", "word"]
def t_dissenter (K : PySem.W.Frag) (W : WX) : TS :=
  tSeq (tAsg (tLc (iRng1 (tCons (ClX.tCVal K (tC (.ref (He.ga K "State"))) "REPLICAS") (tNil))) (gName 4) (tYes) (tMethA (He.ga K "State") "says" (toSp K (sp_State_says K)) [] (fun _ => E0) (tVar 0) (tCons (tVar 4) (tCons (tVar 1) (tCons (tVar 2) (tNil))))) [4]) (gName 3))
    (tSeq (tFor (iEnum K (tCons (tVar 3) (tNil))) (gTup K 2 (gCons (gName 4) (gCons (gName 5) (gNil)))) (tIfS (tTest (tOp (rEqA K) (tBM K "list" (rCntA K) (tVar 3) (tCons (tVar 5) (tNil))) (tC (.int 1)))) (tRet (tVar 4)) (tNext)))
    (tRet (tC .non)))
structure FT_dissenter (K : PySem.W.Frag) : Prop where
  cv_State_REPLICAS : ClX.CRead K (He.ga K "State") (.type "type") ∧ ∃ u, ClX.CVal K (He.ga K "State") (.type "type") "REPLICAS" (.int 3) u
abbrev N_barred_by : List Str := ["state", "swap", "x", "y"]
def t_barred_by (K : PySem.W.Frag) (W : WX) : TS :=
  tSeq (tIfS (tTru K (tCallSD (toSp K (sp_is_silent K)) [] (WE W) (tCons (tVar 0) (tCons (tVar 1) (tNil))))) (tRet (tC .non)) (tNext))
    (tSeq (tAsg (tCallSD (toSp K (sp_swap_pair K)) [] (WE W) (tCons (tVar 0) (tCons (tVar 1) (tNil)))) (gTup K 2 (gCons (gName 2) (gCons (gName 3) (gNil)))))
    (tRet (tCallSD (toSp K (sp_dissenter K)) [] (WE W) (tCons (tVar 0) (tCons (tVar 2) (tCons (tVar 3) (tNil)))))))
abbrev N__law_call_v3 : List Str := ["_law_state", "_law_swap", "_law_way"]
def t__law_call_v3 (K : PySem.W.Frag) (W : WX) : TS :=
  tSeq (tIfS (tTest (tOp (rEqA K) (tVar 2) (tC (.int 0)))) (tRet (tCallSD (toSp K (sp_swap_pair K)) [] (WE W) (tCons (tVar 0) (tCons (tVar 1) (tNil))))) (tNext))
    (tSeq (tIfS (tTest (tOp (rEqA K) (tVar 2) (tC (.int 1)))) (tRet (tCallSD (toSp K (sp_is_silent K)) [] (WE W) (tCons (tVar 0) (tCons (tVar 1) (tNil))))) (tNext))
    (tSeq (tIfS (tTest (tOp (rEqA K) (tVar 2) (tC (.int 2)))) (tRet (tCallSD (toSp K (sp_barred_by K)) [] (WE W) (tCons (tVar 0) (tCons (tVar 1) (tNil))))) (tNext))
    (tRet (tCallSD (toSp K (sp_apply_swap K)) [] (WE W) (tCons (tVar 0) (tCons (tVar 1) (tNil)))))))
abbrev N__law_tried_v3 : List Str := ["_law_state", "_law_swap", "_law_way", "stray", "heard", "_law_told", "_law_good"]
def tl__law_tried_v3_0 (K : PySem.W.Frag) : List PyT.Cl :=
    [(.ref (He.ga K "InvalidSwap"), 3, (fun ea ecls ed => tSeq (tAsg (tAndV (tCB (rIsX K ea ecls ed) (tCons (tVar 3) (tCons (tC (.ref (He.ga K "DriftError"))) (tNil)))) (tCB (rIsX K ea ecls ed) (tCons (tVar 3) (tCons (tC (.ty "ValueError")) (tNil))))) (gName 6))
    (tRet (tTup (tCons (tC (.str "invalid")) (tCons (tXf ea ecls ed (He.ga K "InvalidSwap") "step" (tVar 3)) (tCons (tAndV (tVar 6) (tNotV (tCB (rIsX K ea ecls ed) (tCons (tVar 3) (tCons (tC (.ref (He.ga K "AudibleSwap"))) (tNil)))))) (tNil)))))))),
    (.ref (He.ga K "AudibleSwap"), 4, (fun ea ecls ed => tSeq (tAsg (tAndV (tCB (rIsX K ea ecls ed) (tCons (tVar 4) (tCons (tC (.ref (He.ga K "DriftError"))) (tNil)))) (tCB (rIsX K ea ecls ed) (tCons (tVar 4) (tCons (tC (.ty "ValueError")) (tNil))))) (gName 6))
    (tRet (tTup (tCons (tC (.str "audible")) (tCons (tXf ea ecls ed (He.ga K "AudibleSwap") "step" (tVar 4)) (tCons (tVar 6) (tNil))))))))]
def t__law_tried_v3 (K : PySem.W.Frag) (W : WX) : TS :=
  tSeq (tTry K W (tl__law_tried_v3_0 K) (fun W1 => tAsg (tCallSD (toSp K (sp__law_call_v3 K)) [] (WE W1) (tCons (tVar 0) (tCons (tVar 1) (tCons (tVar 2) (tNil))))) (gName 5)))
    (tRet (tTup (tCons (tC (.str "told")) (tCons (tVar 5) (tCons (tC (.bl true)) (tNil))))))
structure FT__law_tried_v3 (K : PySem.W.Frag) : Prop where
  exm_AudibleSwap_AudibleSwap : PySem.W.exmOne K (.ref (He.ga K "AudibleSwap")) (.ref (He.ga K "AudibleSwap")) = some true
  exm_AudibleSwap_InvalidSwap : PySem.W.exmOne K (.ref (He.ga K "AudibleSwap")) (.ref (He.ga K "InvalidSwap")) = some false
  exm_InvalidList_AudibleSwap : PySem.W.exmOne K (.ref (He.ga K "InvalidList")) (.ref (He.ga K "AudibleSwap")) = some false
  exm_InvalidList_InvalidSwap : PySem.W.exmOne K (.ref (He.ga K "InvalidList")) (.ref (He.ga K "InvalidSwap")) = some false
  exm_InvalidState_AudibleSwap : PySem.W.exmOne K (.ref (He.ga K "InvalidState")) (.ref (He.ga K "AudibleSwap")) = some false
  exm_InvalidState_InvalidSwap : PySem.W.exmOne K (.ref (He.ga K "InvalidState")) (.ref (He.ga K "InvalidSwap")) = some false
  exm_InvalidSwap_AudibleSwap : PySem.W.exmOne K (.ref (He.ga K "InvalidSwap")) (.ref (He.ga K "AudibleSwap")) = some false
  exm_InvalidSwap_InvalidSwap : PySem.W.exmOne K (.ref (He.ga K "InvalidSwap")) (.ref (He.ga K "InvalidSwap")) = some true
  exm_UnknownKey_AudibleSwap : PySem.W.exmOne K (.ref (He.ga K "UnknownKey")) (.ref (He.ga K "AudibleSwap")) = some false
  exm_UnknownKey_InvalidSwap : PySem.W.exmOne K (.ref (He.ga K "UnknownKey")) (.ref (He.ga K "InvalidSwap")) = some false
  exm_UnknownReplica_AudibleSwap : PySem.W.exmOne K (.ref (He.ga K "UnknownReplica")) (.ref (He.ga K "AudibleSwap")) = some false
  exm_UnknownReplica_InvalidSwap : PySem.W.exmOne K (.ref (He.ga K "UnknownReplica")) (.ref (He.ga K "InvalidSwap")) = some false
  kit_AudibleSwap_AudibleSwap : PySem.W.kitOne K (.ref (He.ga K "AudibleSwap")) (.ref (He.ga K "AudibleSwap")) = some true
  kit_AudibleSwap_DriftError : PySem.W.kitOne K (.ref (He.ga K "AudibleSwap")) (.ref (He.ga K "DriftError")) = some true
  kit_AudibleSwap_ValueError : PySem.W.kitOne K (.ref (He.ga K "AudibleSwap")) (.type "ValueError") = some true
  kit_InvalidList_AudibleSwap : PySem.W.kitOne K (.ref (He.ga K "InvalidList")) (.ref (He.ga K "AudibleSwap")) = some false
  kit_InvalidList_DriftError : PySem.W.kitOne K (.ref (He.ga K "InvalidList")) (.ref (He.ga K "DriftError")) = some true
  kit_InvalidList_ValueError : PySem.W.kitOne K (.ref (He.ga K "InvalidList")) (.type "ValueError") = some true
  kit_InvalidState_AudibleSwap : PySem.W.kitOne K (.ref (He.ga K "InvalidState")) (.ref (He.ga K "AudibleSwap")) = some false
  kit_InvalidState_DriftError : PySem.W.kitOne K (.ref (He.ga K "InvalidState")) (.ref (He.ga K "DriftError")) = some true
  kit_InvalidState_ValueError : PySem.W.kitOne K (.ref (He.ga K "InvalidState")) (.type "ValueError") = some true
  kit_InvalidSwap_AudibleSwap : PySem.W.kitOne K (.ref (He.ga K "InvalidSwap")) (.ref (He.ga K "AudibleSwap")) = some false
  kit_InvalidSwap_DriftError : PySem.W.kitOne K (.ref (He.ga K "InvalidSwap")) (.ref (He.ga K "DriftError")) = some true
  kit_InvalidSwap_ValueError : PySem.W.kitOne K (.ref (He.ga K "InvalidSwap")) (.type "ValueError") = some true
  kit_UnknownKey_AudibleSwap : PySem.W.kitOne K (.ref (He.ga K "UnknownKey")) (.ref (He.ga K "AudibleSwap")) = some false
  kit_UnknownKey_DriftError : PySem.W.kitOne K (.ref (He.ga K "UnknownKey")) (.ref (He.ga K "DriftError")) = some true
  kit_UnknownKey_ValueError : PySem.W.kitOne K (.ref (He.ga K "UnknownKey")) (.type "ValueError") = some true
  kit_UnknownReplica_AudibleSwap : PySem.W.kitOne K (.ref (He.ga K "UnknownReplica")) (.ref (He.ga K "AudibleSwap")) = some false
  kit_UnknownReplica_DriftError : PySem.W.kitOne K (.ref (He.ga K "UnknownReplica")) (.ref (He.ga K "DriftError")) = some true
  kit_UnknownReplica_ValueError : PySem.W.kitOne K (.ref (He.ga K "UnknownReplica")) (.type "ValueError") = some true
  x_AudibleSwap : PyH.ExC2 K (He.ga K "AudibleSwap") "step"
  x_InvalidList : PyH.ExC2 K (He.ga K "InvalidList") "place"
  x_InvalidState : PyH.ExC2 K (He.ga K "InvalidState") "replica"
  x_InvalidSwap : PyH.ExC2 K (He.ga K "InvalidSwap") "step"
  x_UnknownKey : PyH.ExC2 K (He.ga K "UnknownKey") "key"
  x_UnknownReplica : PyH.ExC2 K (He.ga K "UnknownReplica") "replica"
abbrev N__law_refuses_v2 : List Str := ["_law_state", "_law_lacking_here", "_law_swap", "_law_way"]
def t__law_refuses_v2 (K : PySem.W.Frag) (W : WX) : TS :=
  tSeq (tFor (iList K (tVar 1)) (gName 2) (tFor (iRng1 (tCons (tC (.int 4)) (tNil))) (gName 3) (tIfS (tNot (tTru K (tCallSD (toSp K (sp__law_refused_v4 K)) [] (WE W) (tCons (tCallSD (toSp K (sp__law_tried_v3 K)) [] (WE W) (tCons (tVar 0) (tCons (tVar 2) (tCons (tVar 3) (tNil))))) (tCons (tC (.str "invalid")) (tNil)))))) (tRet (tC (.bl false))) (tNext))))
    (tRet (tC (.bl true)))
abbrev N_Reading_pairs : List Str := ["self"]
def t_Reading_pairs (K : PySem.W.Frag) (W : WX) : TS :=
  tRet (tCB (rSortTD K) (tCons (tFld K (tVar 0) "_before") (tNil)))
structure FT_Reading_pairs (K : PySem.W.Frag) : Prop where
  C_Reading : Cls K (He.ga K "Reading")
  na_Reading__before : NoAttr K (He.ga K "Reading") "_before"
abbrev N_Reading__in_a_cycle : List Str := ["self", "x", "y", "z"]
def t_Reading__in_a_cycle (K : PySem.W.Frag) (W : WX) : TS :=
  tRet (tCB (rAny K) (tCons (tLc (iList K (tFld K (tVar 0) "_keys")) (gName 3) (tYes) (tAndV (tDIn (tTup (tCons (tVar 2) (tCons (tVar 3) (tNil)))) (tFld K (tVar 0) "_before")) (tDIn (tTup (tCons (tVar 3) (tCons (tVar 1) (tNil)))) (tFld K (tVar 0) "_before"))) [3]) (tNil)))
structure FT_Reading__in_a_cycle (K : PySem.W.Frag) : Prop where
  C_Reading : Cls K (He.ga K "Reading")
  na_Reading__before : NoAttr K (He.ga K "Reading") "_before"
  na_Reading__keys : NoAttr K (He.ga K "Reading") "_keys"
abbrev N_Reading_pinned : List Str := ["self", "x", "y"]
def t_Reading_pinned (K : PySem.W.Frag) (W : WX) : TS :=
  tRet (tLc (iList K (tMethA (He.ga K "Reading") "pairs" (toSp K (sp_Reading_pairs K)) [] (WE W) (tVar 0) tNil)) (gTup K 2 (gCons (gName 1) (gCons (gName 2) (gNil)))) (tTru K (tMethA (He.ga K "Reading") "_in_a_cycle" (toSp K (sp_Reading__in_a_cycle K)) [] (fun _ => E0) (tVar 0) (tCons (tVar 1) (tCons (tVar 2) (tNil))))) (tTup (tCons (tVar 1) (tCons (tVar 2) (tNil)))) [1, 2])
abbrev N__first_wrong_pair : List Str := ["keys", "pairs", "at", "x", "y"]
def t__first_wrong_pair (K : PySem.W.Frag) (W : WX) : TS :=
  tSeq (tFor (iEnum K (tCons (tVar 0) (tNil))) (gTup K 2 (gCons (gName 2) (gCons (gName 3) (gNil)))) (tSeq (tIfS (tB (tDIn (tTup (tCons (tVar 3) (tCons (tVar 3) (tNil)))) (tVar 1))) (tRet (tTup (tCons (tVar 3) (tCons (tVar 3) (tNil))))) (tNext))
    (tFor (iList K (L2.tSl (rSlL K) (tVar 0) (tPart (tOp rAddA (tVar 2) (tC (.int 1)))) (tNoPart))) (gName 4) (tIfS (tTest (tOp (rEqA K) (tDIn (tTup (tCons (tVar 3) (tCons (tVar 4) (tNil)))) (tVar 1)) (tDIn (tTup (tCons (tVar 4) (tCons (tVar 3) (tNil)))) (tVar 1)))) (tRet (tTup (tCons (tVar 3) (tCons (tVar 4) (tNil))))) (tNext)))))
    (tRet (tC .non))
abbrev N_Reading___init__ : List Str := ["self", "all_keys", "pairs", "keys", "before", "wrong", "x", "y"]
def t_Reading___init__ (K : PySem.W.Frag) (W : WX) : TS :=
  tSeq (tDrop (tCallSD (toSp K (sp_check_list K)) [] (WE W) (tCons (tVar 1) (tNil))))
    (tSeq (tFor (iList K (tVar 2)) (gTup K 2 (gCons (gName 6) (gCons (gName 7) (gNil)))) (tSeq (tDrop (tCallSD (toSp K (sp_require_key K)) [] (WE W) (tCons (tVar 1) (tCons (tVar 6) (tNil)))))
    (tDrop (tCallSD (toSp K (sp_require_key K)) [] (WE W) (tCons (tVar 1) (tCons (tVar 7) (tNil)))))))
    (tSeq (tAsg (tCB (rSortA K) (tCons (tVar 1) (tNil))) (gName 3))
    (tSeq (tAsg (tDcG (.dT []) putT (iList K (tVar 2)) (gTup K 2 (gCons (gName 6) (gCons (gName 7) (gNil)))) (tYes) (tTup (tCons (tVar 6) (tCons (tVar 7) (tNil)))) (tC (.bl true)) [6, 7]) (gName 4))
    (tSeq (tAsg (tCallSD (toSp K (sp__first_wrong_pair K)) [] (WE W) (tCons (tVar 3) (tCons (tVar 4) (tNil)))) (gName 5))
    (tSeq (tIfS (tTest (tOp rNotN (tVar 5) (tC .non))) (tRaiseX (He.ga K "InvalidReading") "pair" fmtI W (tCons (tVar 5) (tNil))) (tNext))
    (tSeq (sFld K (tVar 0) (tVar 3) "_keys")
    (sFld K (tVar 0) (tVar 4) "_before")))))))
structure FT_Reading___init__ (K : PySem.W.Frag) : Prop where
  C_Reading : Cls K (He.ga K "Reading")
  na_Reading__before : NoAttr K (He.ga K "Reading") "_before"
  na_Reading__keys : NoAttr K (He.ga K "Reading") "_keys"
abbrev N_read : List Str := ["state", "places", "keys", "pairs", "order", "x", "y", "place"]
def t_read (K : PySem.W.Frag) (W : WX) : TS :=
  tSeq (tAsg (tLc (iList K (tMethA (He.ga K "State") "lists" (toSp K (sp_State_lists K)) [] (WE W) (tVar 0) tNil)) (gName 4) (tYes) (tCallSD (toSp K (sp_index_of K)) [] (fun _ => E0) (tCons (tVar 4) (tNil))) [4]) (gName 1))
    (tSeq (tAsg (tMethA (He.ga K "State") "all_keys" (toSp K (sp_State_all_keys K)) [] (WE W) (tVar 0) tNil) (gName 2))
    (tSeq (tAsg (tLc2 (iList K (tVar 2)) (gName 5) (tYes) (iList K (tVar 2)) (gName 6) (tTest (tOp rGeA (tCB (rLenA K) (tCons (tLc (iList K (tVar 1)) (gName 7) (tTest (tOp rLtA (tDGet (tVar 7) (tVar 5)) (tDGet (tVar 7) (tVar 6)))) (tVar 7) [7]) (tNil))) (tC (.int 2)))) (tTup (tCons (tVar 5) (tCons (tVar 6) (tNil)))) [5, 6] [6]) (gName 3))
    (tRet (tMakeA (He.ga K "Reading") (toSp K (sp_Reading___init__ K)) [] (WE W) (tCons (tVar 2) (tCons (tVar 3) (tNil)))))))
abbrev N_dealing : List Str := ["state", "x", "y"]
def t_dealing (K : PySem.W.Frag) (W : WX) : TS :=
  tRet (tLc (iList K (tMethA (He.ga K "Reading") "pinned" (toSp K (sp_Reading_pinned K)) [] (WE W) (tCallSD (toSp K (sp_read K)) [] (WE W) (tCons (tVar 0) (tNil))) tNil)) (gTup K 2 (gCons (gName 1) (gCons (gName 2) (gNil)))) (tYes) (tTup (tCons (tVar 1) (tCons (tVar 2) (tCons (tCallSD (toSp K (sp_dissenter K)) [] (fun _ => E0) (tCons (tVar 0) (tCons (tVar 1) (tCons (tVar 2) (tNil))))) (tNil))))) [1, 2])
abbrev N__law_deep_holds : List Str := ["_law_state", "_law_lists_here", "_law_swap", "_law_silent_here", "_law_shares_here", "_law_after_here", "_law_moved"]
def t__law_deep_holds (K : PySem.W.Frag) (W : WX) : TS :=
  tSeq (tAsg (tCallSD (toSp K (sp__law_swapped_v2 K)) [] (WE W) (tCons (tVar 1) (tCons (tVar 2) (tNil)))) (gName 5))
    (tSeq (tAsg (tMethA (He.ga K "State") "with_list" (toSp K (sp_State_with_list K)) [] (WE W) (tVar 0) (tCons (tOp (rIxLT K) (tVar 2) (tC (.int 0))) (tCons (tCB (rListA K) (tCons (tOp (rIxLT K) (tVar 5) (tOp (rIxLT K) (tVar 2) (tC (.int 0)))) (tNil))) (tNil)))) (gName 6))
    (tSeq (tIfS (tNot (tTru K (tCallSD (toSp K (sp__law_is_tuples_v2 K)) [] (WE W) (tCons (tMethA (He.ga K "Reading") "pairs" (toSp K (sp_Reading_pairs K)) [] (WE W) (tCallSD (toSp K (sp_read K)) [] (WE W) (tCons (tVar 6) (tNil))) tNil) (tCons (tCallSD (toSp K (sp__law_reading K)) [] (WE W) (tCons (tVar 5) (tNil))) (tNil)))))) (tRet (tC (.bl false))) (tNext))
    (tRet (tOrV (tNotV (tVar 3)) (tCallSD (toSp K (sp__law_is_tuples_v2 K)) [] (WE W) (tCons (tCallSD (toSp K (sp_dealing K)) [] (WE W) (tCons (tVar 6) (tNil))) (tCons (tVar 4) (tNil))))))))
abbrev N__law_is_tuples_own : List Str := ["_law_actual", "_law_due", "_law_k"]
def t__law_is_tuples_own (K : PySem.W.Frag) (W : WX) : TS :=
  tSeq (tIfS (tOr (tNot (tTru K (tCB (rIsi K) (tCons (tVar 0) (tCons (tC (.ty "list")) (tNil)))))) (tTest (tOp (rNeA K) (tCB (rLenA K) (tCons (tVar 0) (tNil))) (tCB (rLenA K) (tCons (tVar 1) (tNil)))))) (tRet (tC (.bl false))) (tNext))
    (tSeq (tFor (iRng1 (tCons (tCB (rLenA K) (tCons (tVar 1) (tNil))) (tNil))) (gName 2) (tIfS (tNot (tTru K (tCallSD (toSp K (sp__law_is_tuple_v2 K)) [] (WE W) (tCons (tOp (rIxLT K) (tVar 0) (tVar 2)) (tCons (tOp (rIxLT K) (tVar 1) (tVar 2)) (tNil)))))) (tRet (tC (.bl false))) (tNext)))
    (tRet (tC (.bl true))))
abbrev N__law_shares : List Str := ["_law_lists_here", "_law_words_here", "_law_said", "_law_known", "_law_pair", "_law_shares_here", "_law_circle_here", "_law_replica", "_law_order_here", "_law_z"]
def t__law_shares (K : PySem.W.Frag) (W : WX) : TS :=
  tSeq (tAsg (tLc (iList K (tVar 0)) (gName 8) (tYes) (tCallSD (toSp K (sp__law_words K)) [] (fun _ => E0) (tCons (tVar 8) (tNil))) [8]) (gName 1))
    (tSeq (tAsg (tCallSD (toSp K (sp__law_reading K)) [] (WE W) (tCons (tVar 0) (tNil))) (gName 2))
    (tSeq (tAsg (tDNewT) (gName 3))
    (tSeq (tFor (iList K (tVar 2)) (gName 4) (sDPut (tVar 3) (tVar 4) (tC (.bl true))))
    (tSeq (tAsg (tLst (tNil)) (gName 5))
    (tSeq (tFor (iList K (tVar 2)) (gName 4) (tSeq (tAsg (tLc (iList K (tOp (rIxLT K) (tVar 0) (tC (.int 0)))) (gName 9) (tAnd (tB (tDIn (tTup (tCons (tOp (rIxLT K) (tVar 4) (tC (.int 1))) (tCons (tVar 9) (tNil)))) (tVar 3))) (tB (tDIn (tTup (tCons (tVar 9) (tCons (tOp (rIxLT K) (tVar 4) (tC (.int 0))) (tNil)))) (tVar 3)))) (tVar 9) [9]) (gName 6))
    (tFor (iRng1 (tCons (tC (.int 3)) (tNil))) (gName 7) (tIfS (tAnd (tTru K (tVar 6)) (tB (tDNotIn (tVar 4) (tOp (rIxLT K) (tVar 1) (tVar 7))))) (tDrop (tBM K "list" rAppend (tVar 5) (tCons (tTup (tCons (tOp (rIxLT K) (tVar 4) (tC (.int 0))) (tCons (tOp (rIxLT K) (tVar 4) (tC (.int 1))) (tCons (tVar 7) (tNil))))) (tNil)))) (tNext)))))
    (tRet (tVar 5)))))))
abbrev N_State_lists_own : List Str := ["self", "order"]
def t_State_lists_own (K : PySem.W.Frag) (W : WX) : TS :=
  tRet (tLc (iList K (tFld K (tVar 0) "_lists")) (gName 1) (tYes) (tCB (rListA K) (tCons (tVar 1) (tNil))) [1])
structure FT_State_lists_own (K : PySem.W.Frag) : Prop where
  C_State : Cls K (He.ga K "State")
  na_State__lists : NoAttr K (He.ga K "State") "_lists"
abbrev N__law_swap_holds : List Str := ["_law_state", "_law_lists_here", "_law_swap", "_law_silent_here", "_law_said", "_law_x", "_law_y", "_law_others", "_law_first", "_law_against", "_law_barrier", "_law_answer", "_law_after_here", "_law_given", "_law_k"]
def t__law_swap_holds (K : PySem.W.Frag) (W : WX) : TS :=
  tSeq (tAsg (tOp (rIxLT K) (tOp (rIxLT K) (tVar 1) (tOp (rIxLT K) (tVar 2) (tC (.int 0)))) (tOp (rIxLT K) (tVar 2) (tC (.int 1)))) (gName 5))
    (tSeq (tAsg (tOp (rIxLT K) (tOp (rIxLT K) (tVar 1) (tOp (rIxLT K) (tVar 2) (tC (.int 0)))) (tOp rAddA (tOp (rIxLT K) (tVar 2) (tC (.int 1))) (tC (.int 1)))) (gName 6))
    (tSeq (tIfS (tNot (tTru K (tCallSD (toSp K (sp__law_is_tuple_v2 K)) [] (WE W) (tCons (tCallSD (toSp K (sp_swap_pair K)) [] (WE W) (tCons (tVar 0) (tCons (tVar 2) (tNil)))) (tCons (tTup (tCons (tVar 5) (tCons (tVar 6) (tNil)))) (tNil)))))) (tRet (tC (.bl false))) (tNext))
    (tSeq (tIfS (tNot (tTru K (tCallSD (toSp K (sp__law_is_truth_v2 K)) [] (WE W) (tCons (tCallSD (toSp K (sp_is_silent K)) [] (WE W) (tCons (tVar 0) (tCons (tVar 2) (tNil)))) (tCons (tVar 3) (tNil)))))) (tRet (tC (.bl false))) (tNext))
    (tSeq (tAsg (tLc (iRng1 (tCons (tC (.int 3)) (tNil))) (gName 14) (tTest (tOp (rNeA K) (tVar 14) (tOp (rIxLT K) (tVar 2) (tC (.int 0))))) (tVar 14) [14]) (gName 7))
    (tSeq (tAsg (tOp (rInL K false) (tTup (tCons (tVar 5) (tCons (tVar 6) (tNil)))) (tVar 4)) (gName 8))
    (tSeq (tAsg (tLc (iList K (tVar 7)) (gName 14) (tTest (tOp (rNeA K) (tOp rLtA (tBM K "list" (rIndex K) (tOp (rIxLT K) (tVar 1) (tVar 14)) (tCons (tVar 5) (tNil))) (tBM K "list" (rIndex K) (tOp (rIxLT K) (tVar 1) (tVar 14)) (tCons (tVar 6) (tNil)))) (tVar 8))) (tVar 14) [14]) (gName 9))
    (tSeq (tAsg (tCallSD (toSp K (sp_barred_by K)) [] (WE W) (tCons (tVar 0) (tCons (tVar 2) (tNil)))) (gName 10))
    (tSeq (tAsg (tCallSD (toSp K (sp__law_tried_v3 K)) [] (WE W) (tCons (tVar 0) (tCons (tVar 2) (tCons (tC (.int 3)) (tNil))))) (gName 11))
    (tSeq (tIfS (tNot (tTru K (tVar 3))) (tRet (tAndV (tOp (rEqA K) (tCB (rLenA K) (tCons (tVar 9) (tNil))) (tC (.int 1))) (tAndV (tCallSD (toSp K (sp__law_is_number_v2 K)) [] (WE W) (tCons (tVar 10) (tCons (tOp (rIxLT K) (tVar 9) (tC (.int 0))) (tNil)))) (tCallSD (toSp K (sp__law_refused_v4 K)) [] (WE W) (tCons (tVar 11) (tCons (tC (.str "audible")) (tNil))))))) (tNext))
    (tSeq (tIfS (tOr (tTru K (tVar 9)) (tOr (tTest (tOp rNotN (tVar 10) (tC .non))) (tTest (tOp (rNeA K) (tOp (rIxLT K) (tVar 11) (tC (.int 0))) (tC (.str "told")))))) (tRet (tC (.bl false))) (tNext))
    (tSeq (tAsg (tCallSD (toSp K (sp__law_swapped_v2 K)) [] (WE W) (tCons (tVar 1) (tCons (tVar 2) (tNil)))) (gName 12))
    (tSeq (tIfS (tNot (tTru K (tCallSD (toSp K (sp__law_is_state_v2 K)) [] (WE W) (tCons (tOp (rIxLT K) (tVar 11) (tC (.int 1))) (tCons (tVar 12) (tNil)))))) (tRet (tC (.bl false))) (tNext))
    (tSeq (tAsg (tMethA (He.ga K "State") "lists" (toSp K (sp_State_lists_own K)) [] (WE W) (tOp (rIxLT K) (tVar 11) (tC (.int 1))) tNil) (gName 13))
    (tSeq (tDrop (tBM0 K "list" rReverse (tOp (rIxLT K) (tVar 13) (tOp (rIxLT K) (tVar 2) (tC (.int 0))))))
    (tSeq (tDrop (tBM K "list" rAppend (tOp (rIxLT K) (tVar 13) (tC (.int 0))) (tCons (tC (.int 0)) (tNil))))
    (tRet (tAndV (tCallSD (toSp K (sp__law_is_state_v2 K)) [] (WE W) (tCons (tOp (rIxLT K) (tVar 11) (tC (.int 1))) (tCons (tVar 12) (tNil)))) (tCallSD (toSp K (sp__law_is_state_v2 K)) [] (WE W) (tCons (tVar 0) (tCons (tVar 1) (tNil)))))))))))))))))))))
abbrev N_silent_swaps : List Str := ["state", "swaps", "replica", "index", "swap"]
def t_silent_swaps (K : PySem.W.Frag) (W : WX) : TS :=
  tSeq (tAsg (tLc2 (iRng1 (tCons (ClX.tCVal K (tC (.ref (He.ga K "State"))) "REPLICAS") (tNil))) (gName 2) (tYes) (iRng1 (tCons (tOp rSubA (tCB (rLenI (He.ga K "State") (toSp K (sp_State___len__ K))) (tCons (tVar 0) (tNil))) (tC (.int 1))) (tNil))) (gName 3) (tYes) (tTup (tCons (tVar 2) (tCons (tVar 3) (tNil)))) [2, 3] [3]) (gName 1))
    (tRet (tLc (iList K (tVar 1)) (gName 4) (tTru K (tCallSD (toSp K (sp_is_silent K)) [] (fun _ => E0) (tCons (tVar 0) (tCons (tVar 4) (tNil))))) (tVar 4) [4]))
structure FT_silent_swaps (K : PySem.W.Frag) : Prop where
  cv_State_REPLICAS : ClX.CRead K (He.ga K "State") (.type "type") ∧ ∃ u, ClX.CVal K (He.ga K "State") (.type "type") "REPLICAS" (.int 3) u
abbrev N__law_state_holds : List Str := ["_law_state", "_law_lists_here", "_law_drawn", "_law_said", "_law_shares_here", "_law_size", "_law_due", "_law_replica", "_law_told", "_law_index", "_law_swap", "_law_silent_here"]
def t__law_state_holds (K : PySem.W.Frag) (W : WX) : TS :=
  tSeq (tAsg (tCallSD (toSp K (sp__law_reading K)) [] (WE W) (tCons (tVar 1) (tNil))) (gName 3))
    (tSeq (tAsg (tCallSD (toSp K (sp__law_shares K)) [] (WE W) (tCons (tVar 1) (tNil))) (gName 4))
    (tSeq (tIfS (tOr (tNot (tTru K (tCallSD (toSp K (sp__law_is_tuples_own K)) [] (WE W) (tCons (tMethA (He.ga K "Reading") "pairs" (toSp K (sp_Reading_pairs K)) [] (WE W) (tCallSD (toSp K (sp_read K)) [] (WE W) (tCons (tVar 0) (tNil))) tNil) (tCons (tVar 3) (tNil)))))) (tNot (tTru K (tCallSD (toSp K (sp__law_is_tuples_own K)) [] (WE W) (tCons (tCallSD (toSp K (sp_dealing K)) [] (WE W) (tCons (tVar 0) (tNil))) (tCons (tVar 4) (tNil))))))) (tRet (tC (.bl false))) (tNext))
    (tSeq (tAsg (tCB (rLenA K) (tCons (tOp (rIxLT K) (tVar 1) (tC (.int 0))) (tNil))) (gName 5))
    (tSeq (tAsg (tLst (tNil)) (gName 6))
    (tSeq (tFor (iRng1 (tCons (tC (.int 3)) (tNil))) (gName 7) (tFor (iRng1 (tCons (tOp rSubA (tVar 5) (tC (.int 1))) (tNil))) (gName 9) (tSeq (tAsg (tTup (tCons (tVar 7) (tCons (tVar 9) (tNil)))) (gName 10))
    (tSeq (tAsg (tOp (rEqA K) (tCallSD (toSp K (sp__law_reading K)) [] (WE W) (tCons (tCallSD (toSp K (sp__law_swapped_v2 K)) [] (WE W) (tCons (tVar 1) (tCons (tVar 10) (tNil)))) (tNil))) (tVar 3)) (gName 11))
    (tSeq (tIfS (tTru K (tVar 11)) (tDrop (tBM K "list" rAppend (tVar 6) (tCons (tVar 10) (tNil)))) (tNext))
    (tSeq (tIfS (tNot (tTru K (tCallSD (toSp K (sp__law_swap_holds K)) [] (WE W) (tCons (tVar 0) (tCons (tVar 1) (tCons (tVar 10) (tCons (tVar 11) (tCons (tVar 3) (tNil))))))))) (tRet (tC (.bl false))) (tNext))
    (tIfS (tAnd (tOr (tTest (tOp rLtA (tVar 5) (tC (.int 7)))) (tTest (tOp (rEqA K) (tVar 10) (tVar 2)))) (tNot (tTru K (tCallSD (toSp K (sp__law_deep_holds K)) [] (WE W) (tCons (tVar 0) (tCons (tVar 1) (tCons (tVar 10) (tCons (tVar 11) (tCons (tVar 4) (tNil)))))))))) (tRet (tC (.bl false))) (tNext))))))))
    (tSeq (tAsg (tCallSD (toSp K (sp_silent_swaps K)) [] (WE W) (tCons (tVar 0) (tNil))) (gName 8))
    (tSeq (tIfS (tNot (tTru K (tCallSD (toSp K (sp__law_is_tuples_own K)) [] (WE W) (tCons (tVar 8) (tCons (tVar 6) (tNil)))))) (tRet (tC (.bl false))) (tNext))
    (tSeq (tDrop (tBM K "list" rAppend (tVar 8) (tCons (tTup (tCons (tC (.int 0)) (tCons (tC (.int 0)) (tNil)))) (tNil))))
    (tSeq (tDrop (tBM0 K "list" rReverse (tVar 8)))
    (tRet (tAndV (tCallSD (toSp K (sp__law_is_tuples_own K)) [] (WE W) (tCons (tCallSD (toSp K (sp_silent_swaps K)) [] (WE W) (tCons (tVar 0) (tNil))) (tCons (tVar 6) (tNil)))) (tCallSD (toSp K (sp__law_is_state_v2 K)) [] (WE W) (tCons (tVar 0) (tCons (tVar 1) (tNil)))))))))))))))
abbrev N_law_v5 : List Str := ["_law_script", "_law_box_here", "_law_lists_here", "_law_size", "_law_drawn", "_law_lacking_here", "_law_handed", "_law_state", "_law_turned", "_law_other", "_law_order_here"]
def t_law_v5 (K : PySem.W.Frag) (W : WX) : TS :=
  tSeq (tAsg (tCallSD (toSp K (sp__law_box K)) [] (WE W) (tCons (tVar 0) (tNil))) (gName 1))
    (tSeq (tAsg (tCallSD (toSp K (sp__law_lists K)) [] (WE W) (tCons (tVar 1) (tNil))) (gName 2))
    (tSeq (tAsg (tCB (rLenA K) (tCons (tOp (rIxLT K) (tVar 2) (tC (.int 0))) (tNil))) (gName 3))
    (tSeq (tAsg (tTup (tCons (tCallSD (toSp K (sp__law_take K)) [] (WE W) (tCons (tVar 1) (tCons (tC (.int 3)) (tNil)))) (tCons (tCallSD (toSp K (sp__law_take K)) [] (WE W) (tCons (tVar 1) (tCons (tCB (rMax2) (tCons (tC (.int 1)) (tCons (tOp rSubA (tVar 3) (tC (.int 1))) (tNil)))) (tNil)))) (tNil)))) (gName 4))
    (tSeq (tAsg (tCallSD (toSp K (sp__law_lacking K)) [] (WE W) (tCons (tVar 1) (tCons (tVar 3) (tNil)))) (gName 5))
    (tSeq (tAsg (tLc (iList K (tVar 2)) (gName 10) (tYes) (tCB (rListA K) (tCons (tVar 10) (tNil))) [10]) (gName 6))
    (tSeq (tAsg (tMakeA (He.ga K "State") (toSp K (sp_State___init__ K)) [] (WE W) (tCons (tOp (rIxLT K) (tVar 6) (tC (.int 0))) (tCons (tOp (rIxLT K) (tVar 6) (tC (.int 1))) (tCons (tOp (rIxLT K) (tVar 6) (tC (.int 2))) (tNil))))) (gName 7))
    (tSeq (tIfS (tTest (tOp (rNeA K) (tVar 6) (tVar 2))) (tRet (tC (.bl false))) (tNext))
    (tSeq (tDrop (tBM0 K "list" rReverse (tOp (rIxLT K) (tVar 6) (tC (.int 0)))))
    (tSeq (tDrop (tBM K "list" rAppend (tOp (rIxLT K) (tVar 6) (tC (.int 1))) (tCons (tC (.int 0)) (tNil))))
    (tSeq (tAsg (tLst (tCons (tOp (rIxLT K) (tVar 2) (tC (.int 1))) (tCons (tOp (rIxLT K) (tVar 2) (tC (.int 2))) (tCons (tOp (rIxLT K) (tVar 2) (tC (.int 0))) (tNil))))) (gName 8))
    (tSeq (tAsg (tMakeA (He.ga K "State") (toSp K (sp_State___init__ K)) [] (WE W) (tCons (tCB (rListA K) (tCons (tOp (rIxLT K) (tVar 8) (tC (.int 0))) (tNil))) (tCons (tCB (rListA K) (tCons (tOp (rIxLT K) (tVar 8) (tC (.int 1))) (tNil))) (tCons (tCB (rListA K) (tCons (tOp (rIxLT K) (tVar 8) (tC (.int 2))) (tNil))) (tNil))))) (gName 9))
    (tSeq (tIfS (tOr (tNot (tTru K (tCallSD (toSp K (sp__law_state_holds K)) [] (WE W) (tCons (tVar 7) (tCons (tVar 2) (tCons (tVar 4) (tNil))))))) (tNot (tTru K (tCallSD (toSp K (sp__law_state_holds K)) [] (WE W) (tCons (tVar 9) (tCons (tVar 8) (tCons (tVar 4) (tNil)))))))) (tRet (tC (.bl false))) (tNext))
    (tSeq (tIfS (tOr (tNot (tTru K (tCallSD (toSp K (sp__law_refuses_v2 K)) [] (WE W) (tCons (tVar 7) (tCons (tVar 5) (tNil)))))) (tNot (tTru K (tCallSD (toSp K (sp__law_refuses_v2 K)) [] (WE W) (tCons (tVar 9) (tCons (tVar 5) (tNil))))))) (tRet (tC (.bl false))) (tNext))
    (tRet (tAndV (tCallSD (toSp K (sp__law_is_state_v2 K)) [] (WE W) (tCons (tVar 9) (tCons (tVar 8) (tNil)))) (tCallSD (toSp K (sp__law_is_state_v2 K)) [] (WE W) (tCons (tVar 7) (tCons (tVar 2) (tNil)))))))))))))))))))
abbrev N__law_is_number : List Str := ["_law_actual", "_law_due_here"]
def t__law_is_number (K : PySem.W.Frag) (W : WX) : TS :=
  tRet (tAndV (tCB (rIsi K) (tCons (tVar 0) (tCons (tC (.ty "int")) (tNil)))) (tAndV (tNotV (tCB (rIsi K) (tCons (tVar 0) (tCons (tC (.ty "bool")) (tNil))))) (tOp (rEqA K) (tVar 0) (tVar 1))))
abbrev N__law_quiet : List Str := ["_law_lists_here", "_law_swap", "_law_x", "_law_y", "_law_one", "_law_two"]
def t__law_quiet (K : PySem.W.Frag) (W : WX) : TS :=
  tSeq (tAsg (tOp (rIxLT K) (tOp (rIxLT K) (tVar 0) (tOp (rIxLT K) (tVar 1) (tC (.int 0)))) (tOp (rIxLT K) (tVar 1) (tC (.int 1)))) (gName 2))
    (tSeq (tAsg (tOp (rIxLT K) (tOp (rIxLT K) (tVar 0) (tOp (rIxLT K) (tVar 1) (tC (.int 0)))) (tOp rAddA (tOp (rIxLT K) (tVar 1) (tC (.int 1))) (tC (.int 1)))) (gName 3))
    (tSeq (tAsg (tOp (rIxLT K) (tVar 0) (tOp rModA (tCB (rIntA) (tCons (tOp rAddA (tOp (rIxLT K) (tVar 1) (tC (.int 0))) (tC (.int 1))) (tNil))) (tC (.int 3)))) (gName 4))
    (tSeq (tAsg (tOp (rIxLT K) (tVar 0) (tOp rModA (tCB (rIntA) (tCons (tOp rAddA (tOp (rIxLT K) (tVar 1) (tC (.int 0))) (tC (.int 2))) (tNil))) (tC (.int 3)))) (gName 5))
    (tRet (tOp (rEqA K) (tOp rLtA (tBM K "list" (rIndex K) (tVar 4) (tCons (tVar 2) (tNil))) (tBM K "list" (rIndex K) (tVar 4) (tCons (tVar 3) (tNil)))) (tOp rLtA (tBM K "list" (rIndex K) (tVar 5) (tCons (tVar 2) (tNil))) (tBM K "list" (rIndex K) (tVar 5) (tCons (tVar 3) (tNil)))))))))
abbrev N__law_swapped_v2 : List Str := ["_law_lists_here", "_law_swap", "_law_order_here", "_law_index", "_law_fresh", "_law_row"]
def t__law_swapped_v2 (K : PySem.W.Frag) (W : WX) : TS :=
  tSeq (tAsg (tOp (rIxLT K) (tVar 0) (tOp (rIxLT K) (tVar 1) (tC (.int 0)))) (gName 2))
    (tSeq (tAsg (tOp (rIxLT K) (tVar 1) (tC (.int 1))) (gName 3))
    (tSeq (tAsg (tLc (iList K (tVar 0)) (gName 5) (tYes) (tCB (rListA K) (tCons (tVar 5) (tNil))) [5]) (gName 4))
    (tSeq (tAsg (tOp rAddA (tOp rAddA (L2.tSl (rSlL K) (tVar 2) (tNoPart) (tPart (tVar 3))) (tLst (tCons (tOp (rIxLT K) (tVar 2) (tOp rAddA (tVar 3) (tC (.int 1)))) (tCons (tOp (rIxLT K) (tVar 2) (tVar 3)) (tNil))))) (L2.tSl (rSlL K) (tVar 2) (tPart (tOp rAddA (tVar 3) (tC (.int 2)))) (tNoPart))) (gSub (tVar 4) (tOp (rIxLT K) (tVar 1) (tC (.int 0))) rSetL))
    (tRet (tVar 4)))))
abbrev N__law_words : List Str := ["_law_order_here", "_law_words_here", "_law_i", "_law_j"]
def t__law_words (K : PySem.W.Frag) (W : WX) : TS :=
  tSeq (tAsg (tDNewT) (gName 1))
    (tSeq (tFor (iRng1 (tCons (tCB (rLenA K) (tCons (tVar 0) (tNil))) (tNil))) (gName 2) (tFor (iRng2 (tCons (tOp rAddA (tVar 2) (tC (.int 1))) (tCons (tCB (rLenA K) (tCons (tVar 0) (tNil))) (tNil)))) (gName 3) (sDPut (tVar 1) (tTup (tCons (tOp (rIxLT K) (tVar 0) (tVar 2)) (tCons (tOp (rIxLT K) (tVar 0) (tVar 3)) (tNil)))) (tC (.bl true)))))
    (tRet (tVar 1)))
abbrev N__law_is_row : List Str := ["_law_actual", "_law_due_here", "_law_k"]
def t__law_is_row (K : PySem.W.Frag) (W : WX) : TS :=
  tSeq (tIfS (tTest (tOp (rNeA K) (tCB (rLenA K) (tCons (tVar 0) (tNil))) (tCB (rLenA K) (tCons (tVar 1) (tNil))))) (tRet (tC (.bl false))) (tNext))
    (tSeq (tFor (iRng1 (tCons (tCB (rLenA K) (tCons (tVar 1) (tNil))) (tNil))) (gName 2) (tIfS (tNot (tTru K (tCallSD (toSp K (sp__law_is_number K)) [] (WE W) (tCons (tOp (rIxLT K) (tVar 0) (tVar 2)) (tCons (tOp (rIxLT K) (tVar 1) (tVar 2)) (tNil)))))) (tRet (tC (.bl false))) (tNext)))
    (tRet (tC (.bl true))))
abbrev N__law_is_tuple : List Str := ["_law_actual", "_law_due_here"]
abbrev N__law_is_tuples : List Str := ["_law_actual", "_law_due_here", "_law_k"]
abbrev N__law_is_state : List Str := ["_law_actual", "_law_due_here", "_law_told", "_law_k"]
def t__law_is_state (K : PySem.W.Frag) (W : WX) : TS :=
  tSeq (tIfS (tNot (tTru K (tCB (rIsC (He.ga K "State")) (tCons (tVar 0) (tCons (tC (.ref (He.ga K "State"))) (tNil)))))) (tRet (tC (.bl false))) (tNext))
    (tSeq (tAsg (tMethA (He.ga K "State") "lists" (toSp K (sp_State_lists K)) [] (WE W) (tVar 0) tNil) (gName 2))
    (tSeq (tIfS (tOr (tNot (tTru K (tCB (rIsi K) (tCons (tVar 2) (tCons (tC (.ty "list")) (tNil)))))) (tTest (tOp (rNeA K) (tCB (rLenA K) (tCons (tVar 2) (tNil))) (tC (.int 3))))) (tRet (tC (.bl false))) (tNext))
    (tSeq (tFor (iRng1 (tCons (tC (.int 3)) (tNil))) (gName 3) (tIfS (tOr (tNot (tTru K (tCB (rIsi K) (tCons (tOp (rIxLT K) (tVar 2) (tVar 3)) (tCons (tC (.ty "list")) (tNil)))))) (tNot (tTru K (tCallSD (toSp K (sp__law_is_row K)) [] (WE W) (tCons (tOp (rIxLT K) (tVar 2) (tVar 3)) (tCons (tOp (rIxLT K) (tVar 1) (tVar 3)) (tNil))))))) (tRet (tC (.bl false))) (tNext)))
    (tRet (tC (.bl true))))))
abbrev N__law_is_truth : List Str := ["_law_actual", "_law_due_here"]
def t__law_is_truth (K : PySem.W.Frag) (W : WX) : TS :=
  tRet (tAndV (tCB (rIsi K) (tCons (tVar 0) (tCons (tC (.ty "bool")) (tNil)))) (tOp (rEqA K) (tVar 0) (tVar 1)))
abbrev N__law_reading : List Str := ["_law_lists_here", "_law_words_here", "_law_keys_here", "_law_said", "_law_x", "_law_y", "_law_order_here", "_law_one"]
def t__law_reading (K : PySem.W.Frag) (W : WX) : TS :=
  tSeq (tAsg (tLc (iList K (tVar 0)) (gName 6) (tYes) (tCallSD (toSp K (sp__law_words K)) [] (fun _ => E0) (tCons (tVar 6) (tNil))) [6]) (gName 1))
    (tSeq (tAsg (tCB (rSortA K) (tCons (tOp (rIxLT K) (tVar 0) (tC (.int 0))) (tNil))) (gName 2))
    (tSeq (tAsg (tLst (tNil)) (gName 3))
    (tSeq (tFor (iList K (tVar 2)) (gName 4) (tFor (iList K (tVar 2)) (gName 5) (tIfS (tTest (tOp rGtA (tCB (rLenA K) (tCons (tLc (iList K (tVar 1)) (gName 7) (tB (tDIn (tTup (tCons (tVar 4) (tCons (tVar 5) (tNil)))) (tVar 7))) (tVar 7) [7]) (tNil))) (tC (.int 1)))) (tDrop (tBM K "list" rAppend (tVar 3) (tCons (tTup (tCons (tVar 4) (tCons (tVar 5) (tNil)))) (tNil)))) (tNext))))
    (tRet (tVar 3)))))
abbrev N__law_call : List Str := ["_law_state", "_law_replica", "_law_order_here", "_law_way"]
abbrev N__law_tried : List Str := ["_law_state", "_law_replica", "_law_order_here", "_law_way", "stray", "_law_wrong", "unlike", "heard", "_law_told"]
abbrev N__law_after : List Str := ["_law_lists_here", "_law_swaps", "_law_now", "_law_swap"]
def t__law_after (K : PySem.W.Frag) (W : WX) : TS :=
  tSeq (tAsg (tVar 0) (gName 2))
    (tSeq (tFor (iList K (tVar 1)) (gName 3) (tAsg (tCallSD (toSp K (sp__law_swapped_v2 K)) [] (WE W) (tCons (tVar 2) (tCons (tVar 3) (tNil)))) (gName 2)))
    (tRet (tVar 2)))
abbrev N__law_circle : List Str := ["_law_box_here", "_law_keys_here", "_law_lists_here", "_law_key", "_law_place", "_law_order_here"]
def t__law_circle (K : PySem.W.Frag) (W : WX) : TS :=
  tSeq (tAsg (tLst (tCons (L2.tSl (rSlL K) (tVar 1) (tNoPart) (tPart (tC (.int 3)))) (tCons (tLst (tCons (tOp (rIxLT K) (tVar 1) (tC (.int 1))) (tCons (tOp (rIxLT K) (tVar 1) (tC (.int 2))) (tCons (tOp (rIxLT K) (tVar 1) (tC (.int 0))) (tNil))))) (tCons (tLst (tCons (tOp (rIxLT K) (tVar 1) (tC (.int 2))) (tCons (tOp (rIxLT K) (tVar 1) (tC (.int 0))) (tCons (tOp (rIxLT K) (tVar 1) (tC (.int 1))) (tNil))))) (tNil))))) (gName 2))
    (tSeq (tFor (iList K (L2.tSl (rSlL K) (tVar 1) (tPart (tC (.int 3))) (tNoPart))) (gName 3) (tSeq (tAsg (tCallSD (toSp K (sp__law_take K)) [] (WE W) (tCons (tVar 0) (tCons (tOp rAddA (tCB (rLenA K) (tCons (tOp (rIxLT K) (tVar 2) (tC (.int 0))) (tNil))) (tC (.int 1))) (tNil)))) (gName 4))
    (tAsg (tLc (iList K (tVar 2)) (gName 5) (tYes) (tOp rAddA (tOp rAddA (L2.tSl (rSlL K) (tVar 5) (tNoPart) (tPart (tVar 4))) (tLst (tCons (tVar 3) (tNil)))) (L2.tSl (rSlL K) (tVar 5) (tPart (tVar 4)) (tNoPart))) [5]) (gName 2))))
    (tRet (tVar 2)))
abbrev N__law_silent_v2 : List Str := ["_law_lists_here", "_law_found", "_law_replica", "_law_index"]
def t__law_silent_v2 (K : PySem.W.Frag) (W : WX) : TS :=
  tSeq (tAsg (tLst (tNil)) (gName 1))
    (tSeq (tFor (iRng1 (tCons (tC (.int 3)) (tNil))) (gName 2) (tFor (iRng1 (tCons (tOp rSubA (tCB (rLenA K) (tCons (tOp (rIxLT K) (tVar 0) (tC (.int 0))) (tNil))) (tC (.int 1))) (tNil))) (gName 3) (tIfS (tTru K (tCallSD (toSp K (sp__law_quiet K)) [] (WE W) (tCons (tVar 0) (tCons (tTup (tCons (tVar 2) (tCons (tVar 3) (tNil)))) (tNil))))) (tDrop (tBM K "list" rAppend (tVar 1) (tCons (tTup (tCons (tVar 2) (tCons (tVar 3) (tNil)))) (tNil)))) (tNext))))
    (tRet (tVar 1)))
abbrev N__law_walk_v2 : List Str := ["_law_box_here", "_law_lists_here", "_law_steps", "_law_swaps", "_law_now", "_law_k", "_law_silent_here"]
def t__law_walk_v2 (K : PySem.W.Frag) (W : WX) : TS :=
  tSeq (tAsg (tLst (tNil)) (gName 3))
    (tSeq (tAsg (tVar 1) (gName 4))
    (tSeq (tFor (iRng1 (tCons (tVar 2) (tNil))) (gName 5) (tSeq (tAsg (tCallSD (toSp K (sp__law_silent_v2 K)) [] (WE W) (tCons (tVar 4) (tNil))) (gName 6))
    (tIfS (tTru K (tVar 6)) (tSeq (tDrop (tBM K "list" rAppend (tVar 3) (tCons (tOp (rIxLT K) (tVar 6) (tCallSD (toSp K (sp__law_take K)) [] (WE W) (tCons (tVar 0) (tCons (tCB (rLenA K) (tCons (tVar 6) (tNil))) (tNil))))) (tNil))))
    (tAsg (tCallSD (toSp K (sp__law_swapped_v2 K)) [] (WE W) (tCons (tVar 4) (tCons (tOp (rIxLT K) (tVar 3) (tUn rNegA (tC (.int 1)))) (tNil)))) (gName 4))) (tNext))))
    (tRet (tVar 3))))
abbrev N__law_lists : List Str := ["_law_box_here", "_law_count", "_law_keys_here", "_law_kind", "_law_lists_here", "_law_steps"]
def t__law_lists (K : PySem.W.Frag) (W : WX) : TS :=
  tSeq (tAsg (tOp (rIxLT K) (tLst (tCons (tC (.int 3)) (tCons (tC (.int 4)) (tCons (tC (.int 5)) (tCons (tC (.int 6)) (tCons (tC (.int 3)) (tCons (tC (.int 4)) (tCons (tC (.int 5)) (tCons (tC (.int 6)) (tCons (tC (.int 4)) (tCons (tC (.int 5)) (tCons (tC (.int 2)) (tCons (tC (.int 7)) (tCons (tC (.int 0)) (tCons (tC (.int 1)) (tCons (tC (.int 9)) (tCons (tC (.int 12)) (tNil)))))))))))))))))) (tCallSD (toSp K (sp__law_take K)) [] (WE W) (tCons (tVar 0) (tCons (tC (.int 16)) (tNil))))) (gName 1))
    (tSeq (tIfS (tTest (tOp (rEqA K) (tVar 1) (tC (.int 9)))) (tAsg (tOp rAddA (tC (.int 8)) (tCallSD (toSp K (sp__law_take K)) [] (WE W) (tCons (tVar 0) (tCons (tC (.int 4)) (tNil))))) (gName 1)) (tNext))
    (tSeq (tAsg (tCallSD (toSp K (sp__law_keys K)) [] (WE W) (tCons (tVar 0) (tCons (tVar 1) (tNil)))) (gName 2))
    (tSeq (tAsg (tCallSD (toSp K (sp__law_take K)) [] (WE W) (tCons (tVar 0) (tCons (tC (.int 4)) (tNil)))) (gName 3))
    (tSeq (tIfS (tTest (tOp (rEqA K) (tVar 3) (tC (.int 0)))) (tRet (tLst (tCons (tVar 2) (tCons (tCallSD (toSp K (sp__law_order K)) [] (WE W) (tCons (tVar 0) (tCons (tVar 2) (tNil)))) (tCons (tCallSD (toSp K (sp__law_order K)) [] (WE W) (tCons (tVar 0) (tCons (tVar 2) (tNil)))) (tNil)))))) (tNext))
    (tSeq (tAsg (tLst (tCons (tCB (rListA K) (tCons (tVar 2) (tNil))) (tCons (tCB (rListA K) (tCons (tVar 2) (tNil))) (tCons (tCB (rListA K) (tCons (tVar 2) (tNil))) (tNil))))) (gName 4))
    (tSeq (tIfS (tAnd (tTest (tOp (rEqA K) (tVar 3) (tC (.int 1)))) (tTest (tOp rGtA (tVar 1) (tC (.int 2))))) (tAsg (tCallSD (toSp K (sp__law_circle K)) [] (WE W) (tCons (tVar 0) (tCons (tVar 2) (tNil)))) (gName 4)) (tNext))
    (tSeq (tAsg (tOp (rIxLT K) (tLst (tCons (tC (.int 0)) (tCons (tC (.int 1)) (tCons (tC (.int 2)) (tCons (tC (.int 3)) (tCons (tC (.int 4)) (tCons (tC (.int 5)) (tCons (tC (.int 6)) (tCons (tC (.int 8)) (tCons (tC (.int 10)) (tCons (tC (.int 12)) (tCons (tC (.int 16)) (tCons (tC (.int 24)) (tNil)))))))))))))) (tCallSD (toSp K (sp__law_take K)) [] (WE W) (tCons (tVar 0) (tCons (tC (.int 12)) (tNil))))) (gName 5))
    (tRet (tCallSD (toSp K (sp__law_after K)) [] (WE W) (tCons (tVar 4) (tCons (tCallSD (toSp K (sp__law_walk_v2 K)) [] (WE W) (tCons (tVar 0) (tCons (tVar 4) (tCons (tVar 5) (tNil))))) (tNil))))))))))))
abbrev N_State_lists : List Str := ["self", "order"]
def t_State_lists (K : PySem.W.Frag) (W : WX) : TS :=
  tRet (tLc (iList K (tFld K (tVar 0) "_lists")) (gName 1) (tYes) (tCB (rListA K) (tCons (tVar 1) (tNil))) [1])
structure FT_State_lists (K : PySem.W.Frag) : Prop where
  C_State : Cls K (He.ga K "State")
  na_State__lists : NoAttr K (He.ga K "State") "_lists"
abbrev N_check_replica : List Str := ["replica"]
def t_check_replica (K : PySem.W.Frag) (W : WX) : TS :=
  tIfS (tTest (tOp (rIn K true) (tVar 0) (tTup (tCons (tC (.int 0)) (tCons (tC (.int 1)) (tCons (tC (.int 2)) (tNil))))))) (tRaiseX (He.ga K "UnknownReplica") "replica" fmtI W (tCons (tVar 0) (tNil))) (tNext)
abbrev N_require_key : List Str := ["keys", "key"]
def t_require_key (K : PySem.W.Frag) (W : WX) : TS :=
  tIfS (tB (tOrE (tOp (rIn K true) (tVar 1) (tVar 0)) (tDNotIn (tVar 1) (tVar 0)))) (tRaiseX (He.ga K "UnknownKey") "key" fmtI W (tCons (tVar 1) (tNil))) (tNext)
abbrev N_State_says : List Str := ["self", "replica", "x", "y", "place"]
def t_State_says (K : PySem.W.Frag) (W : WX) : TS :=
  tSeq (tDrop (tCallSD (toSp K (sp_check_replica K)) [] (WE W) (tCons (tVar 1) (tNil))))
    (tSeq (tAsg (tOp (rIxLT K) (tFld K (tVar 0) "_places") (tVar 1)) (gName 4))
    (tSeq (tDrop (tCallSD (toSp K (sp_require_key K)) [] (WE W) (tCons (tVar 4) (tCons (tVar 2) (tNil)))))
    (tSeq (tDrop (tCallSD (toSp K (sp_require_key K)) [] (WE W) (tCons (tVar 4) (tCons (tVar 3) (tNil)))))
    (tRet (tOp rLtA (tDGet (tVar 4) (tVar 2)) (tDGet (tVar 4) (tVar 3)))))))
structure FT_State_says (K : PySem.W.Frag) : Prop where
  C_State : Cls K (He.ga K "State")
  na_State__places : NoAttr K (He.ga K "State") "_places"
abbrev N__other_replicas : List Str := ["replica", "other"]
def t__other_replicas (K : PySem.W.Frag) (W : WX) : TS :=
  tRet (tLc (iRng1 (tCons (ClX.tCVal K (tC (.ref (He.ga K "State"))) "REPLICAS") (tNil))) (gName 1) (tTest (tOp (rNeA K) (tVar 1) (tVar 0))) (tVar 1) [1])
structure FT__other_replicas (K : PySem.W.Frag) : Prop where
  cv_State_REPLICAS : ClX.CRead K (He.ga K "State") (.type "type") ∧ ∃ u, ClX.CVal K (He.ga K "State") (.type "type") "REPLICAS" (.int 3) u
abbrev N_State_list_of : List Str := ["self", "replica"]
def t_State_list_of (K : PySem.W.Frag) (W : WX) : TS :=
  tSeq (tDrop (tCallSD (toSp K (sp_check_replica K)) [] (WE W) (tCons (tVar 1) (tNil))))
    (tRet (tCB (rListA K) (tCons (tOp (rIxLT K) (tFld K (tVar 0) "_lists") (tVar 1)) (tNil))))
structure FT_State_list_of (K : PySem.W.Frag) : Prop where
  C_State : Cls K (He.ga K "State")
  na_State__lists : NoAttr K (He.ga K "State") "_lists"
abbrev N_State___len__ : List Str := ["self"]
def t_State___len__ (K : PySem.W.Frag) (W : WX) : TS :=
  tRet (tCB (rLenA K) (tCons (tOp (rIxLT K) (tFld K (tVar 0) "_lists") (tC (.int 0))) (tNil)))
structure FT_State___len__ (K : PySem.W.Frag) : Prop where
  C_State : Cls K (He.ga K "State")
  na_State__lists : NoAttr K (He.ga K "State") "_lists"
abbrev N_is_swap : List Str := ["state", "swap", "last", "replica", "index"]
def t_is_swap (K : PySem.W.Frag) (W : WX) : TS :=
  tSeq (tAsg (tVar 1) (gTup K 2 (gCons (gName 3) (gCons (gName 4) (gNil)))))
    (tSeq (tAsg (tOp rSubA (tCB (rLenI (He.ga K "State") (toSp K (sp_State___len__ K))) (tCons (tVar 0) (tNil))) (tC (.int 2))) (gName 2))
    (tRet (tAndV (tChain rLeA rLtA (tC (.int 0)) (tVar 3) (ClX.tCVal K (tC (.ref (He.ga K "State"))) "REPLICAS")) (tChain rLeA rLeA (tC (.int 0)) (tVar 4) (tVar 2)))))
structure FT_is_swap (K : PySem.W.Frag) : Prop where
  cv_State_REPLICAS : ClX.CRead K (He.ga K "State") (.type "type") ∧ ∃ u, ClX.CVal K (He.ga K "State") (.type "type") "REPLICAS" (.int 3) u
abbrev N_swap_pair : List Str := ["state", "swap", "order", "replica", "index"]
def t_swap_pair (K : PySem.W.Frag) (W : WX) : TS :=
  tSeq (tIfS (tNot (tTru K (tCallSD (toSp K (sp_is_swap K)) [] (WE W) (tCons (tVar 0) (tCons (tVar 1) (tNil)))))) (tRaiseX (He.ga K "InvalidSwap") "step" fmtI W (tCons (tC (.int 0)) (tNil))) (tNext))
    (tSeq (tAsg (tVar 1) (gTup K 2 (gCons (gName 3) (gCons (gName 4) (gNil)))))
    (tSeq (tAsg (tMethA (He.ga K "State") "list_of" (toSp K (sp_State_list_of K)) [] (WE W) (tVar 0) (tCons (tVar 3) (tNil))) (gName 2))
    (tRet (tTup (tCons (tOp (rIxLT K) (tVar 2) (tVar 4)) (tCons (tOp (rIxLT K) (tVar 2) (tOp rAddA (tVar 4) (tC (.int 1)))) (tNil)))))))
abbrev N_is_silent : List Str := ["state", "swap", "x", "y", "first", "second"]
def t_is_silent (K : PySem.W.Frag) (W : WX) : TS :=
  tSeq (tAsg (tCallSD (toSp K (sp_swap_pair K)) [] (WE W) (tCons (tVar 0) (tCons (tVar 1) (tNil)))) (gTup K 2 (gCons (gName 2) (gCons (gName 3) (gNil)))))
    (tSeq (tAsg (tCallSD (toSp K (sp__other_replicas K)) [] (WE W) (tCons (tOp (rIxLT K) (tVar 1) (tC (.int 0))) (tNil))) (gLst K 2 (gCons (gName 4) (gCons (gName 5) (gNil)))))
    (tRet (tOp (rEqA K) (tMethA (He.ga K "State") "says" (toSp K (sp_State_says K)) [] (WE W) (tVar 0) (tCons (tVar 4) (tCons (tVar 2) (tCons (tVar 3) (tNil))))) (tMethA (He.ga K "State") "says" (toSp K (sp_State_says K)) [] (WE W) (tVar 0) (tCons (tVar 5) (tCons (tVar 2) (tCons (tVar 3) (tNil))))))))
abbrev N__wrong_replica : List Str := ["orders", "keys", "replica", "order"]
def t__wrong_replica (K : PySem.W.Frag) (W : WX) : TS :=
  tSeq (tAsg (tCB (rSortA K) (tCons (tOp (rIxLT K) (tVar 0) (tC (.int 0))) (tNil))) (gName 1))
    (tSeq (tFor (iEnum K (tCons (tVar 0) (tNil))) (gTup K 2 (gCons (gName 2) (gCons (gName 3) (gNil)))) (tIfS (tOr (tTest (tOp rNotN (tCallSD (toSp K (sp_first_wrong_place K)) [] (WE W) (tCons (tVar 3) (tNil))) (tC .non))) (tTest (tOp (rNeA K) (tCB (rSortA K) (tCons (tVar 3) (tNil))) (tVar 1)))) (tRet (tVar 2)) (tNext)))
    (tRet (tC .non)))
abbrev N_State___init__ : List Str := ["self", "first", "second", "third", "orders", "wrong", "order"]
def t_State___init__ (K : PySem.W.Frag) (W : WX) : TS :=
  tSeq (tAsg (tLst (tCons (tCB (rListA K) (tCons (tVar 1) (tNil))) (tCons (tCB (rListA K) (tCons (tVar 2) (tNil))) (tCons (tCB (rListA K) (tCons (tVar 3) (tNil))) (tNil))))) (gName 4))
    (tSeq (tAsg (tCallSD (toSp K (sp__wrong_replica K)) [] (WE W) (tCons (tVar 4) (tNil))) (gName 5))
    (tSeq (tIfS (tTest (tOp rNotN (tVar 5) (tC .non))) (tRaiseX (He.ga K "InvalidState") "replica" fmtI W (tCons (tVar 5) (tNil))) (tNext))
    (tSeq (sFld K (tVar 0) (tVar 4) "_lists")
    (sFld K (tVar 0) (tLc (iList K (tVar 4)) (gName 6) (tYes) (tCallSD (toSp K (sp_index_of K)) [] (fun _ => E0) (tCons (tVar 6) (tNil))) [6]) "_places"))))
structure FT_State___init__ (K : PySem.W.Frag) : Prop where
  C_State : Cls K (He.ga K "State")
  na_State__lists : NoAttr K (He.ga K "State") "_lists"
  na_State__places : NoAttr K (He.ga K "State") "_places"
abbrev N_State_all_keys : List Str := ["self"]
def t_State_all_keys (K : PySem.W.Frag) (W : WX) : TS :=
  tRet (tCB (rSortA K) (tCons (tOp (rIxLT K) (tFld K (tVar 0) "_lists") (tC (.int 0))) (tNil)))
structure FT_State_all_keys (K : PySem.W.Frag) : Prop where
  C_State : Cls K (He.ga K "State")
  na_State__lists : NoAttr K (He.ga K "State") "_lists"
abbrev N_State_with_list : List Str := ["self", "replica", "order", "orders", "first", "second", "third"]
def t_State_with_list (K : PySem.W.Frag) (W : WX) : TS :=
  tSeq (tDrop (tCallSD (toSp K (sp_check_replica K)) [] (WE W) (tCons (tVar 1) (tNil))))
    (tSeq (tIfS (tOr (tTest (tOp rNotN (tCallSD (toSp K (sp_first_wrong_place K)) [] (WE W) (tCons (tVar 2) (tNil))) (tC .non))) (tTest (tOp (rNeA K) (tCB (rSortA K) (tCons (tVar 2) (tNil))) (tMethA (He.ga K "State") "all_keys" (toSp K (sp_State_all_keys K)) [] (WE W) (tVar 0) tNil)))) (tRaiseX (He.ga K "InvalidState") "replica" fmtI W (tCons (tVar 1) (tNil))) (tNext))
    (tSeq (tAsg (tMethA (He.ga K "State") "lists" (toSp K (sp_State_lists K)) [] (WE W) (tVar 0) tNil) (gName 3))
    (tSeq (tAsg (tVar 2) (gSub (tVar 3) (tVar 1) rSetL))
    (tSeq (tAsg (tVar 3) (gLst K 3 (gCons (gName 4) (gCons (gName 5) (gCons (gName 6) (gNil))))))
    (tRet (tMakeA (He.ga K "State") (toSp K (sp_State___init__ K)) [] (WE W) (tCons (tVar 4) (tCons (tVar 5) (tCons (tVar 6) (tNil))))))))))
abbrev N_swapped_state : List Str := ["state", "swap", "replica", "index"]
def t_swapped_state (K : PySem.W.Frag) (W : WX) : TS :=
  tSeq (tAsg (tVar 1) (gTup K 2 (gCons (gName 2) (gCons (gName 3) (gNil)))))
    (tRet (tMethA (He.ga K "State") "with_list" (toSp K (sp_State_with_list K)) [] (WE W) (tVar 0) (tCons (tVar 2) (tCons (tCallSD (toSp K (sp_swap_at K)) [] (WE W) (tCons (tMethA (He.ga K "State") "list_of" (toSp K (sp_State_list_of K)) [] (WE W) (tVar 0) (tCons (tVar 2) (tNil))) (tCons (tVar 3) (tNil)))) (tNil)))))
abbrev N__law_silent : List Str := ["_law_lists", "_law_h", "_law_i", "_law_x", "_law_y", "_law_one", "_law_two"]
abbrev N__law_swapped : List Str := ["_law_lists", "_law_h", "_law_i", "_law_now", "_law_order_here"]
abbrev N__law_refused : List Str := ["_law_box_here", "_law_state_here", "_law_run", "_law_lists", "_law_steps_here", "_law_keys_here", "_law_cut", "_law_bad", "_law_broken", "_law_strange_here", "_law_key"]
abbrev N__law_walk : List Str := ["_law_box_here", "_law_lists", "_law_count", "_law_lot", "_law_now", "_law_steps_here", "_law_k", "_law_ways_here", "_law_swap"]
section
variable {K : PySem.W.Frag} {W : WX} {ds : List D} {O : Ow} {k : Kk} {x : Xk}
theorem w__law_take (h : sp__law_take K ds O k x) (lo : ∀ p ∈ O, p.loc = false) : wpS K W (fun e _ O' => x e O') (t__law_take K W) (startD N__law_take.length ds) O { nx := fun _ O' => k .non O', rt := k } := by
  obtain ⟨a, d, n, ⟨rfl, rfl⟩, ⟨cs, r, t, rfl, hr, ht, hl⟩, h1, h2, hk⟩ := h
  unfold t__law_take boxD
  walk_at "start"
  walk_at "w"
  refine ⟨fun h => ?_, fun h => ?_⟩
  · have hr' := of_decide_eq_true h
    walk_at "wr"
    exact hk _ _ (Int.emod_nonneg _ (by omega)) (Int.emod_lt_of_pos _ (by omega)) ⟨cs, r / n, t, rfl, Int.ediv_nonneg hr (by omega), ht, hl⟩
  · walk_at "w"
    -- the cell
    refine wpS_mid (fun G O' => ∃ c : Int, 0 ≤ c ∧ G = [some (.mut a), some (.int n), some (.int r), some (.int (t + 1)), some (L cs), some (.int c), none] ∧ O' = [⟨a, false, boxD cs r (t + 1)⟩]) ?_ ?_
    · walk_at "w"
      refine ⟨fun h1' => ?_, fun h1' => ?_⟩
      · have h1' := of_decide_eq_true h1'
        walk_at "w"
        have hc : ∀ z : Int, 0 ≤ if z < 0 then -z else z := fun z => by split <;> omega
        generalize e : (if cs.getD (t + 1 - 1).toNat 0 < 0 then -cs.getD (t + 1 - 1).toNat 0 else cs.getD (t + 1 - 1).toNat 0) = c
        have c0 : 0 ≤ c := by rw [← e]; exact hc _
        refine ⟨fun h2' => ?_, fun h2' => ?_⟩
        · walk_at "wr"
          exact hk _ _ (Int.emod_nonneg _ (by omega)) (Int.emod_lt_of_pos _ (by omega)) ⟨cs, c / n, t + 1, rfl, Int.ediv_nonneg c0 (by omega), by omega, hl⟩
        · walk_at "w"
          exact ⟨c, c0, rfl, rfl⟩
      · walk_at "w"
        refine ⟨fun h2' => ?_, fun h2' => ?_⟩
        · have hp : 0 < cs.length := by
            cases cs with
            | nil => simp at h2'
            | cons a b => simp
          walk_at "w"
          refine wpR_ixI seq_l (Int.emod_nonneg _ (by omega)) (Int.emod_lt_of_pos _ (by omega)) ?_
          walk_at "w"
          exact ⟨_, by split <;> omega, rfl, rfl⟩
        · walk_at "w"
          exact ⟨0, by omega, rfl, rfl⟩
    · intro G O' h
      obtain ⟨c, c0, rfl, rfl⟩ := h
      walk_at "wr"
      exact hk _ _ (Int.emod_nonneg _ (by omega)) (Int.emod_lt_of_pos _ (by omega)) ⟨cs, r, t + 1, rfl, hr, by omega, hl⟩
end
section
variable {K : PySem.W.Frag} {W : WX} {ds : List D} {O : Ow} {k : Kk} {x : Xk}
theorem w__law_box (h : sp__law_box K ds O k x) (lo : ∀ p ∈ O, p.loc = false) : wpS K W (fun e _ O' => x e O') (t__law_box K W) (startD N__law_box.length ds) O { nx := fun _ O' => k .non O', rt := k } := by
  obtain ⟨ns, ⟨rfl, rfl⟩, hl, hk⟩ := h
  unfold t__law_box
  walk_at "start"
  walk_at "wr"
  refine wpE_lst false ?_
  walk_at "w"
  refine wpE_slL true ?_
  walk_at "w"
  refine ⟨ns.map D.int, seq_k, ?_⟩
  walk_at "w"
  rw [show (some (63 : Int)) = some ((63 : Nat) : Int) from rfl, cut_take hl]
  refine wpC_list true seq_l ?_
  walk_at "w"
  refine ⟨by show 3 ≤ sizeLine; decide, ?_⟩
  intro c hc
  exact hk c _ ⟨ns, 0, 0, rfl, by omega, by omega, hl⟩
theorem perm_erase : ∀ (l : List Int) (i : Nat) (h : i < l.length), (l[i] :: l.eraseIdx i).Perm l
  | [], _, h => by simp at h
  | a :: l, 0, _ => List.Perm.refl _
  | a :: l, i + 1, h => by
    have h2 : i < l.length := by simpa using h
    refine List.Perm.trans (List.Perm.swap a (l[i]'h2) _) ?_
    exact List.Perm.cons a (perm_erase l i h2)
theorem perm_pop {o l ns : List Int} {i : Nat} (h : (o ++ l).Perm ns) (hi : i < l.length) : (o ++ [l.getD i 0] ++ l.eraseIdx i).Perm ns := by
  refine List.Perm.trans ?_ h
  rw [List.append_assoc]
  refine List.Perm.append_left o ?_
  have e : l.getD i 0 = l[i] := by rw [List.getD_eq_getElem?_getD, List.getElem?_eq_getElem hi] <;> rfl
  rw [e]
  exact perm_erase l i hi
theorem w__law_order (h : sp__law_order K ds O k x) (lo : ∀ p ∈ O, p.loc = false) : wpS K W (fun e _ O' => x e O') (t__law_order K W) (startD N__law_order.length ds) O { nx := fun _ O' => k .non O', rt := k } := by
  obtain ⟨a, d, ns, ⟨rfl, rfl⟩, hB, hl, hk⟩ := h
  unfold t__law_order
  walk_at "start"
  walk_at "w"
  refine wpC_list false seq_l ?_
  intro lf hlf
  walk_at "w"
  refine wpE_lst false ?_
  walk_at "w"
  refine ⟨by simp, ?_⟩
  intro od hod
  refine wpS_seq ?_
  refine wpS_forA (List.range ns.length) (fun i => .int (0 + (i : Int))) (fun i G O => ∃ v o l d', G = [some (.mut a), some (L ns), some (.mut lf), some (.mut od), v] ∧ O = [⟨od, true, L o⟩, ⟨lf, true, L l⟩, ⟨a, false, d'⟩] ∧ Bx d' ∧ (o ++ l).Perm ns ∧ o.length = i ∧ o.length + l.length = ns.length) ?_
  walk_at "w"
  refine ⟨⟨by omega, by omega⟩, by rw [Int.toNat_natCast]; rfl, ⟨none, [], ns, d, rfl, rfl, hB, List.Perm.refl _, rfl, by simp⟩, fun _ _ _ _ _ => trivial, ?_, ?_⟩
  · intro i j G' O' hij hI
    obtain ⟨rfl, hi⟩ := range_get hij
    obtain ⟨v, o, l, d', rfl, rfl, hB, hp, h1, h2⟩ := hI
    walk_at "w"
    walk_at "w"
    walk_at "w"
    walk_at "c1"
    refine ⟨2, _, _, _, rfl, ⟨_, _, _, ⟨rfl, rfl⟩, hB, by omega, by omega, fun v d' v0 v1 hB' => ⟨[], _, rfl, ?_⟩⟩⟩
    walk_at "w"
    refine wpM_popAtI (j := 1) rfl v0 v1 (by omega) ?_
    walk_at "w"
    refine wpM_appendI (j := 0) rfl (by omega) ?_
    walk_at "w"
    exact ⟨_, _, _, _, rfl, rfl, hB', perm_pop hp (by omega), by simp; omega, by simp [List.length_eraseIdx]; split <;> omega⟩
  · intro G' O' hI
    obtain ⟨v, o, l, d', rfl, rfl, hB, hp, h1, h2⟩ := hI
    rw [List.length_range] at h1
    have hl0 : l = [] := List.length_eq_zero_iff.mp (by omega)
    subst hl0
    rw [List.append_nil] at hp
    refine wpS_frz (i := 3) (j := 0) rfl rfl ?_
    refine wpS_subO (O' := [⟨a, false, d'⟩]) (by simp) ?_
    walk_at "wr"
    exact hk o d' hB hp
theorem w__law_keys (h : sp__law_keys K ds O k x) (lo : ∀ p ∈ O, p.loc = false) : wpS K W (fun e _ O' => x e O') (t__law_keys K W) (startD N__law_keys.length ds) O { nx := fun _ O' => k .non O', rt := k } := by
  obtain ⟨a, d, n, ⟨rfl, rfl⟩, hB, h0, h1, hk⟩ := h
  unfold t__law_keys
  walk_at "start"
  walk_at "w"
  refine wpE_lst false ?_
  walk_at "w"
  refine ⟨by simp, ?_⟩
  intro ks hks
  walk_at "w"
  walk_at "c1"
  refine ⟨1, _, _, _, rfl, ⟨_, _, _, ⟨rfl, rfl⟩, hB, by omega, by omega, fun v d' v0 v1 hB' => ⟨[], _, rfl, ?_⟩⟩⟩
  walk_at "w"
  refine wpS_seq ?_
  refine wpS_forA (List.range n.toNat) (fun i => .int (0 + (i : Int))) (fun i G O => ∃ w l q d', G = [some (.mut a), some (.int n), some (.mut ks), some (.int w), q] ∧ O = [⟨ks, true, L l⟩, ⟨a, false, d'⟩] ∧ Bx d' ∧ l.length = i ∧ l.Nodup ∧ (∀ z ∈ l, 0 ≤ z ∧ z < w) ∧ 0 ≤ w ∧ w < 600 + 500 * (i : Int)) ?_
  walk_at "w"
  refine ⟨⟨by omega, by omega⟩, rfl, ⟨v, [], none, d', rfl, rfl, hB', rfl, List.nodup_nil, by simp, v0, by omega⟩, fun _ _ _ _ _ => trivial, ?_, ?_⟩
  · intro i j G' O' hij hI
    obtain ⟨rfl, hi⟩ := range_get hij
    obtain ⟨w, l, q, d', rfl, rfl, hB, h3, h4, h5, h6, h7⟩ := hI
    walk_at "w"
    walk_at "w"
    refine wpM_appendI (j := 0) rfl (by omega) ?_
    walk_at "w"
    walk_at "c1"
    refine ⟨1, _, _, _, rfl, ⟨_, _, _, ⟨rfl, rfl⟩, hB, by omega, by omega, fun v d' v0 v1 hB' => ⟨[], _, rfl, ?_⟩⟩⟩
    walk_at "w"
    walk_at "c1"
    refine ⟨1, _, _, _, rfl, ⟨_, _, _, ⟨rfl, rfl⟩, hB', by omega, by omega, fun u d'' u0 u1 hB'' => ⟨[], _, rfl, ?_⟩⟩⟩
    walk_at "w"
    have m0 : 0 ≤ v * u := Int.mul_nonneg v0 u0
    have m1 : v * u ≤ 2 * 239 := Int.mul_le_mul (by omega) (by omega) u0 (by omega)
    refine ⟨_, _, _, _, rfl, rfl, hB'', by simp; omega, ?_, ?_, by omega, by omega⟩
    · rw [List.nodup_append]
      refine ⟨h4, by simp, fun x hx y hy => ?_⟩
      rw [List.mem_singleton.mp hy]
      have := (h5 x hx).2
      omega
    · intro z hz
      rcases List.mem_append.mp hz with hz | hz
      · have := h5 z hz
        omega
      · rw [List.mem_singleton.mp hz]
        omega
  · intro G' O' hI
    obtain ⟨w, l, q, d', rfl, rfl, hB, h3, h4, h5, h6, h7⟩ := hI
    rw [List.length_range] at h3 h7
    refine wpS_frz (i := 2) (j := 0) rfl rfl ?_
    walk_at "wr"
    walk_at "c1"
    refine ⟨0, _, _, _, rfl, ⟨_, _, _, ⟨rfl, rfl⟩, hB, by omega, fun ms d'' hB'' hp => ⟨[], _, rfl, ?_⟩⟩⟩
    walk_at "w"
    exact hk ms d'' hB'' (by rw [hp.length_eq]; omega) (hp.nodup_iff.mpr h4) fun z hz => by have := h5 z (hp.mem_iff.mp hz); omega
end
section
variable {K : PySem.W.Frag} {W : WX} {ds : List D} {O : Ow} {k : Kk} {x : Xk}
theorem Sm.perm {a b : List Int} (h : Sm a) (p : b.Perm a) : Sm b := ⟨by rw [p.length_eq]; exact h.1, fun z hz => h.2 z (p.mem_iff.mp hz)⟩
theorem mem_getD {a : List Int} {i : Nat} (h : i < a.length) : a.getD i 0 ∈ a := by
  rw [List.getD_eq_getElem?_getD, List.getElem?_eq_getElem h]
  exact List.getElem_mem h
theorem Sm.set {a : List Int} {i : Nat} {z : Int} (h : Sm a) (hz : -1000000 ≤ z ∧ z ≤ 1000000) : Sm (a.set i z) := ⟨by rw [List.length_set]; exact h.1, fun y hy => by
  rcases List.mem_or_eq_of_mem_set hy with hy | rfl
  · exact h.2 y hy
  · exact hz⟩
theorem Sm.exch {a : List Int} {i : Nat} (h : Sm a) (hi : i + 1 < a.length) : Sm (exch a i) := (h.set (h.2 _ (mem_getD hi))).set (h.2 _ (mem_getD (by omega)))
end
section
variable {K : PySem.W.Frag} {W : WX} {ds : List D} {O : Ow} {k : Kk} {x : Xk}
theorem w_first_wrong_place (h : sp_first_wrong_place K ds O k x) (lo : ∀ p ∈ O, p.loc = false) : wpS K W (fun e _ O' => x e O') (t_first_wrong_place K W) (startD N_first_wrong_place.length ds) O { nx := fun _ O' => k .non O', rt := k } := by
  obtain ⟨a, ⟨rfl, rfl⟩, hs, hk⟩ := h
  have hl := hs.1
  unfold t_first_wrong_place
  walk_at "start"
  walk_at "w"
  intro s hs
  walk_at "w"
  refine wpS_seq ?_
  refine wpS_forE (α := Int × Nat) ?_
  walk_at "w"
  refine ⟨_, a.map D.int, rfl, seq_l, ?_⟩
  refine ⟨a.zipIdx, fun p => D.tup [.int (p.2 : Nat), .int p.1], fun i G O => ∃ q2 q3, G = [some (L a), some (.mut s), q2, q3] ∧ O = [⟨s, true, .dK (seenD (a.take i))⟩] ∧ ∀ j, j < i → bad a j = false, enumD_map _ _, ⟨none, none, rfl, rfl, fun j hj => absurd hj (Nat.not_lt_zero j)⟩, fun _ _ _ _ _ => seq_l, ?_, ?_⟩
  · rintro i ⟨z, i'⟩ G O hz hI
    obtain ⟨hz, e⟩ := zip_get hz
    dsimp only at hz e
    subst e
    obtain ⟨q2, q3, rfl, rfl, hb⟩ := hI
    have hi : i' < a.length := (List.getElem?_eq_some_iff.mp hz).1
    walk_at "w"
    refine wpS_ite (bad a i') ?_ (fun h => ?_) fun h => ?_
    · rw [bad_parts hz]
      refine wpT_or ?_
      walk_at "w"
      refine ⟨fun h => ⟨by rw [show decide (12 ≤ i') = true by simp at h ⊢; omega]; rfl, rfl⟩, fun h => ?_⟩
      rw [show decide (12 ≤ i') = false by simp at h ⊢; omega, Bool.false_or]
      refine wpT_or ?_
      walk_at "w"
      refine ⟨fun h => ⟨by rw [h]; rfl, rfl⟩, fun h => ?_⟩
      rw [h, Bool.false_or]
      refine wpT_or ?_
      walk_at "w"
      refine ⟨fun h => ⟨by rw [h]; rfl, rfl⟩, fun h => ?_⟩
      rw [h, Bool.false_or]
      walk_at "w"
      refine ⟨_, Sum.inl z, d_m (i := 0) rfl, rfl, ?_⟩
      walk_at "w"
      exact ⟨seen_val _ _, rfl⟩
    · refine wpS_subO (O' := []) (by simp) ?_
      walk_at "wr"
      rw [wrong_some hi h hb] at hk
      exact hk
    · walk_at "w"
      have hn : z ∉ a.take i' := fun hm => by
        rw [bad_parts hz, decide_eq_true hm] at h
        simp at h
      refine ⟨0, s, true, _, .inl z, rfl, rfl, rfl, small1000 (by simp [seenD]; omega), ?_⟩
      walk_at "w"
      refine ⟨_, _, rfl, by rw [seen_put hn, take_snoc hz], fun j hj => ?_⟩
      rcases Nat.lt_or_eq_of_le (Nat.le_of_lt_succ hj) with hj | rfl
      · exact hb j hj
      · exact h
  · intro G O hI
    obtain ⟨q2, q3, rfl, rfl, hb⟩ := hI
    rw [List.length_zipIdx] at hb
    refine wpS_subO (O' := []) (by simp) ?_
    walk_at "wr"
    rw [wrong_none hb] at hk
    exact hk
theorem fmt_small {z : Int} (h : -1000000 ≤ z ∧ z ≤ 1000000) (F : Hp) (v : V) (r : Rp K F (.int z) v) : fmtI v := by
  cases r
  refine ⟨z, rfl, ?_⟩
  have h1 : z.natAbs < 2 ^ 20 := by omega
  exact Nat.lt_of_lt_of_le (PySem.Flt.log2_lt_of (by decide) h1) (by decide)
theorem w_check_list (h : sp_check_list K ds O k x) (lo : ∀ p ∈ O, p.loc = false) : wpS K W (fun e _ O' => x e O') (t_check_list K W) (startD N_check_list.length ds) O { nx := fun _ O' => k .non O', rt := k } := by
  obtain ⟨a, ⟨rfl, rfl⟩, hs, h1, h2⟩ := h
  have hl := hs.1
  unfold t_check_list
  walk_at "start"
  walk_at "w"
  walk_at "c0"
  refine ⟨a, ⟨rfl, rfl⟩, hs, ?_⟩
  walk_at "w"
  unfold res1 at h1 h2
  cases e : wrong a with
  | none =>
    rw [e] at h1
    walk_at "w"
    refine ⟨fun h => (by cases h), fun _ => ?_⟩
    walk_at "w"
    exact h1 rfl
  | some p =>
    rw [e] at h2
    have hp := wrong_lt e
    walk_at "w"
    refine ⟨fun _ => ?_, fun h => (by cases h)⟩
    walk_at "w"
    exact ⟨fmt_small (by omega), h2 (by simp)⟩
end
section
variable {K : PySem.W.Frag} {W : WX} {ds : List D} {O : Ow} {k : Kk} {x : Xk}
theorem w_check_replica (h : sp_check_replica K ds O k x) (lo : ∀ p ∈ O, p.loc = false) : wpS K W (fun e _ O' => x e O') (t_check_replica K W) (startD N_check_replica.length ds) O { nx := fun _ O' => k .non O', rt := k } := by
  obtain ⟨h, ⟨rfl, rfl⟩, hb, h1, h2⟩ := h
  unfold t_check_replica
  walk_at "start"
  walk_at "w"
  refine ⟨by decide, ?_⟩
  refine wpR_inI (ns := [0, 1, 2]) (.inr rfl) ?_
  walk_at "w"
  have e : (decide (h ∈ ([0, 1, 2] : List Int))) = decide (0 ≤ h ∧ h < 3) := by
    apply decide_eq_decide.mpr
    simp only [List.mem_cons, List.not_mem_nil, or_false]
    omega
  rw [e]
  refine ⟨fun hc => ?_, fun hc => ?_⟩
  · have hc : ¬(0 ≤ h ∧ h < 3) := fun q => by simp [q] at hc
    walk_at "w"
    exact ⟨fmt_small hb, h2 hc⟩
  · have hc : 0 ≤ h ∧ h < 3 := by simpa using hc
    walk_at "w"
    exact h1 hc
theorem w_require_key (h : sp_require_key K ds O k x) (lo : ∀ p ∈ O, p.loc = false) : wpS K W (fun e _ O' => x e O') (t_require_key K W) (startD N_require_key.length ds) O { nx := fun _ O' => k .non O', rt := k } := by
  obtain ⟨d, z, b, ⟨rfl, rfl⟩, hb, hk, h1, h2⟩ := h
  unfold t_require_key
  walk_at "start"
  refine wpS_iteP (c := !b) ?_ ⟨fun hc => ?_, fun hc => ?_⟩
  · walk_at "w"
    rcases hk with ⟨ns, rfl, rfl⟩ | ⟨kds, rfl, rfl⟩
    · refine wpE_or1 ?_
      walk_at "w"
      refine wpR_inI (.inl seq_l) ?_
      walk_at "w"
      exact ⟨rfl, rfl⟩
    · refine wpE_or2 ?_
      walk_at "w"
      exact ⟨kds, Sum.inl z, d_l, rfl, _, rfl, rfl, rfl⟩
  · walk_at "w"
    exact ⟨fmt_small hb, h2 (by simpa using hc)⟩
  · walk_at "w"
    exact h1 (by simpa using hc)
theorem wrongRep_some {gs : List (List Int)} {h : Nat} (hh : h < gs.length) (hb : ((wrong (row gs h)).isSome || !decide (srt (row gs h) = srt (row gs 0))) = true) (hl : ∀ j, j < h → ((wrong (row gs j)).isSome || !decide (srt (row gs j) = srt (row gs 0))) = false) : wrongRep gs = some h := by
  unfold wrongRep
  rw [List.find?_range_eq_some]
  exact ⟨hb, List.mem_range.mpr hh, fun j hj => by rw [hl j hj] <;> rfl⟩
theorem wrongRep_none {gs : List (List Int)} (h : ∀ j, j < gs.length → ((wrong (row gs j)).isSome || !decide (srt (row gs j) = srt (row gs 0))) = false) : wrongRep gs = none := by
  unfold wrongRep
  rw [List.find?_eq_none]
  intro j hj
  rw [h j (List.mem_range.mp hj)]
  decide
theorem row_get {gs : List (List Int)} {i : Nat} {o : List Int} (h : gs[i]? = some o) : row gs i = o := by
  unfold row
  rw [List.getD_eq_getElem?_getD, h] <;> rfl
theorem row_mem {gs : List (List Int)} {i : Nat} (h : i < gs.length) : row gs i ∈ gs := by
  unfold row
  rw [List.getD_eq_getElem?_getD, List.getElem?_eq_getElem h]
  exact List.getElem_mem h
theorem row_at {gs : List (List Int)} {i : Nat} (h : i < gs.length) : gs[i]? = some (row gs i) := by
  unfold row
  rw [List.getD_eq_getElem?_getD, List.getElem?_eq_getElem h] <;> rfl
theorem rowD {gs : List (List Int)} {i : Int} (h0 : 0 ≤ i) (h : i < (gs.length : Int)) : atI (gs.map L) i = some (L (row gs i.toNat)) := atI_nn h0 (by
  rw [List.getElem?_map, row_at (by omega)] <;> rfl)
theorem w__wrong_replica (h : sp__wrong_replica K ds O k x) (lo : ∀ p ∈ O, p.loc = false) : wpS K W (fun e _ O' => x e O') (t__wrong_replica K W) (startD N__wrong_replica.length ds) O { nx := fun _ O' => k .non O', rt := k } := by
  obtain ⟨gs, ⟨rfl, rfl⟩, hs, hne, hl, hk⟩ := h
  have hp : 0 < gs.length := List.length_pos_iff.mpr hne
  unfold t__wrong_replica
  walk_at "start"
  walk_at "w"
  refine wpR_ixA (.inl seq_l) (rowD (by omega) (by omega)) ?_
  walk_at "w"
  refine wpC_sortAI true seq_l fun ms hm hsr => ?_
  obtain rfl := srt_uniq hm hsr
  walk_at "w"
  refine wpS_seq ?_
  refine wpS_for2 2 3 (fun i q r O' => O' = [] ∧ ∀ j, j < i → ((wrong (row gs j)).isSome || !decide (srt (row gs j) = srt (row gs 0))) = false) (as := gs.zipIdx) (enc := fun p => D.tup [.int (p.2 : Nat), L p.1]) ?_
  walk_at "w"
  refine ⟨_, gs.map L, rfl, seq_l, enumD_map L gs, ⟨rfl, fun j hj => by omega⟩, fun _ _ _ _ _ _ => seq_l, ?_, ?_⟩
  · intro i p q r O' hp hJ
    obtain ⟨rfl, hJ⟩ := hJ
    obtain ⟨o, i'⟩ := p
    obtain ⟨ho, e⟩ := zip_get hp
    dsimp only at ho e
    subst e
    have ho' := row_get ho
    subst ho'
    have hi : i' < gs.length := (List.getElem?_eq_some_iff.mp ho).1
    have hsm : Sm (row gs i') := hs _ (row_mem hi)
    walk_at "w"
    refine wpS_iteP (c := (wrong (row gs i')).isSome || !decide (srt (row gs i') = srt (row gs 0))) ?_ ⟨fun hc => ?_, fun hc => ?_⟩
    · refine wpT_orP ?_ fun _ => ?_
      · walk_at "w"
        walk_at "c0"
        refine ⟨_, ⟨rfl, rfl⟩, hsm, ?_⟩
        walk_at "w"
        refine ⟨?_, rfl⟩
        cases wrong (row gs i') <;> rfl
      · walk_at "w"
        refine wpC_sortAI true seq_l fun ms hm hsr => ?_
        obtain rfl := srt_uniq hm hsr
        walk_at "w"
        refine wpR_neLd view_self view_self ?_
        walk_at "w"
        exact ⟨rfl, rfl⟩
    · walk_at "wr"
      rw [wrongRep_some hi hc hJ] at hk
      exact hk
    · walk_at "w"
      refine ⟨_, _, rfl, rfl, fun j hj => ?_⟩
      by_cases e : j = i'
      · rw [e]
        exact hc
      · exact hJ j (by omega)
  · intro q r O' hJ
    obtain ⟨rfl, hJ⟩ := hJ
    walk_at "wr"
    rw [wrongRep_none (by simpa using hJ)] at hk
    exact hk
end
section
variable {K : PySem.W.Frag} {W : WX} {ds : List D} {O : Ow} {k : Kk} {x : Xk}
theorem idx_put {l : List Int} {z : Int} (h : z ∉ l) : putD (idxD l) (Sum.inl z) (.int (l.length : Int)) = idxD (l ++ [z]) := by
  unfold putD
  have : (idxD l).any (fun kv => decide (kv.1 = Sum.inl z)) = false := by
    rw [List.any_eq_false]
    intro kv hkv
    obtain ⟨⟨y, i⟩, hy, rfl⟩ := List.mem_map.mp hkv
    simp only [decide_eq_true_eq]
    intro e
    exact h (by rw [← Sum.inl.inj e]; exact (List.mem_zipIdx hy).2.2 ▸ List.getElem_mem _)
  rw [this]
  unfold idxD
  rw [List.zipIdx_append, List.map_append]
  simp
theorem w_index_of (h : sp_index_of K ds O k x) (lo : ∀ p ∈ O, p.loc = false) : wpS K W (fun e _ O' => x e O') (t_index_of K W) (startD N_index_of.length ds) O { nx := fun _ O' => k .non O', rt := k } := by
  obtain ⟨a, ⟨rfl, rfl⟩, ha, hn, hk⟩ := h
  have hl := ha.1
  unfold t_index_of
  walk_at "start"
  walk_at "wr"
  refine wpE_dc true (gIn_tup2 (by simp) (by simp)) gMono_tup2 ?_
  walk_at "w"
  refine ⟨_, a.map D.int, rfl, seq_l, fun i acc O' => O' = [] ∧ acc = idxD (a.take i), ⟨rfl, rfl⟩, fun i acc O' hi hI => ⟨seq_l, ?_⟩, fun i q acc O' hq hI => ?_, fun acc O' hI => ?_⟩
  · rw [hI.2]
    exact small1000 (by simp [idxD]; omega)
  · obtain ⟨rfl, rfl⟩ := hI
    rw [enumD_map] at hq
    obtain ⟨⟨z, i'⟩, hz, rfl⟩ := map_get hq
    obtain ⟨hz, e⟩ := zip_get hz
    dsimp only at hz e
    subst e
    walk_at "w"
    refine wpT_yes ⟨fun _ => ?_, fun h => (by cases h)⟩
    walk_at "w"
    have hi : i' < a.length := (List.getElem?_eq_some_iff.mp hz).1
    have hnt : z ∉ a.take i' := fun hm => by
      obtain ⟨j, hj, e⟩ := List.mem_take_iff_getElem.mp hm
      have e2 : a[i'] = z := by
        rw [List.getElem?_eq_getElem hi] at hz
        exact Option.some.inj hz
      have := (List.getElem_inj hn).mp (e.trans e2.symm)
      omega
    refine ⟨Sum.inl z, rfl, rfl, ?_⟩
    have e := idx_put hnt
    rw [List.length_take, Nat.min_eq_left (Nat.le_of_lt hi)] at e
    rw [e, take_snoc hz]
  · obtain ⟨rfl, rfl⟩ := hI
    rw [enumD_map, List.length_map, List.length_zipIdx, List.take_length]
    exact hk
end
section
variable {K : PySem.W.Frag} {W : WX} {ds : List D} {O : Ow} {k : Kk} {x : Xk}
theorem seq_weak {A : Ow} {p : Ob} {d : D} {xs : List D} (h : seqOf A d xs) : seqOf (p :: A) d xs := by
  rcases h with h | h | ⟨a, b, h, hm⟩
  · exact .inl h
  · exact .inr (.inl h)
  · exact .inr (.inr ⟨a, b, h, List.mem_cons_of_mem _ hm⟩)
theorem w_State_lists (T : FT_State_lists K) (h : sp_State_lists K ds O k x) (lo : ∀ p ∈ O, p.loc = false) : wpS K W (fun e _ O' => x e O') (t_State_lists K W) (startD N_State_lists.length ds) O { nx := fun _ O' => k .non O', rt := k } := by
  obtain ⟨gs, ⟨rfl, rfl⟩, hl, hk⟩ := h
  unfold t_State_lists
  walk_at "start"
  walk_at "wr"
  apply wpE_mapP (as := gs) (enc := L) false (gIn_name (by decide)) gMono_name
  walk_at "w"
  refine wpE_fld T.C_State T.na_State__lists ?_
  walk_at "w"
  refine ⟨_, seq_l, rfl, small1000 (by omega), seq_l, fun i o ho => ?_, ?_⟩
  · walk_at "w"
    refine ⟨rfl, ?_⟩
    walk_at "w"
    refine wpC_list true seq_l ?_
    exact ⟨rfl, rfl⟩
  · intro c _
    exact hk c
theorem w_State_all_keys (T : FT_State_all_keys K) (h : sp_State_all_keys K ds O k x) (lo : ∀ p ∈ O, p.loc = false) : wpS K W (fun e _ O' => x e O') (t_State_all_keys K W) (startD N_State_all_keys.length ds) O { nx := fun _ O' => k .non O', rt := k } := by
  obtain ⟨gs, ⟨rfl, rfl⟩, hl, hk⟩ := h
  unfold t_State_all_keys
  walk_at "start"
  walk_at "wr"
  refine wpE_fld T.C_State T.na_State__lists ?_
  walk_at "w"
  walk_at "w"
  refine wpR_ixA (.inl seq_l) (rowD (by omega) (by omega)) ?_
  walk_at "w"
  refine wpC_sortAI false seq_l fun ms hm hsr => ?_
  obtain rfl := srt_uniq hm hsr
  intro c _
  exact hk c
theorem w_State___len__ (T : FT_State___len__ K) (h : sp_State___len__ K ds O k x) (lo : ∀ p ∈ O, p.loc = false) : wpS K W (fun e _ O' => x e O') (t_State___len__ K W) (startD N_State___len__.length ds) O { nx := fun _ O' => k .non O', rt := k } := by
  obtain ⟨gs, ⟨rfl, rfl⟩, hl, hk⟩ := h
  unfold t_State___len__
  walk_at "start"
  walk_at "wr"
  refine wpE_fld T.C_State T.na_State__lists ?_
  walk_at "w"
  walk_at "w"
  refine wpR_ixA (.inl seq_l) (rowD (by omega) (by omega)) ?_
  walk_at "w"
  exact hk
theorem w_State_list_of (T : FT_State_list_of K) (h : sp_State_list_of K ds O k x) (lo : ∀ p ∈ O, p.loc = false) : wpS K W (fun e _ O' => x e O') (t_State_list_of K W) (startD N_State_list_of.length ds) O { nx := fun _ O' => k .non O', rt := k } := by
  obtain ⟨gs, h, ⟨rfl, rfl⟩, hl, hb, h1, h2⟩ := h
  unfold t_State_list_of
  walk_at "start"
  walk_at "w"
  walk_at "c0"
  refine ⟨h, ⟨rfl, rfl⟩, hb, fun hh => ?_, fun hh => h2 hh⟩
  walk_at "wr"
  refine wpE_fld T.C_State T.na_State__lists ?_
  walk_at "w"
  walk_at "w"
  refine wpR_ixA (.inl seq_l) (rowD hh.1 (by omega)) ?_
  walk_at "w"
  refine wpC_list false seq_l ?_
  intro c _
  exact h1 hh c
theorem w_State___init__ (T : FT_State___init__ K) (h : sp_State___init__ K ds O k x) (lo : ∀ p ∈ O, p.loc = false) : wpS K W (fun e _ O' => x e O') (t_State___init__ K W) (startD N_State___init__.length ds) O { nx := fun _ O' => k .non O', rt := k } := by
  obtain ⟨s, d1, d2, d3, a, b, c, A, ⟨rfl, rfl⟩, ⟨q1, q2, q3⟩, ⟨s1, s2, s3⟩, h1, h2⟩ := h
  unfold t_State___init__
  walk_at "start"
  walk_at "w"
  refine wpE_lst true ?_
  walk_at "w"
  refine wpC_list true (seq_weak q1) ?_
  walk_at "w"
  refine wpC_list true (seq_weak q2) ?_
  walk_at "w"
  refine wpC_list true (seq_weak q3) ?_
  walk_at "w"
  refine ⟨by show 3 ≤ sizeLine; decide, ?_⟩
  walk_at "w"
  walk_at "c0"
  refine ⟨[a, b, c], ⟨rfl, rfl⟩, fun o ho => ?_, by simp, by simp, ?_⟩
  · simp only [List.mem_cons, List.not_mem_nil, or_false] at ho
    rcases ho with rfl | rfl | rfl <;> assumption
  walk_at "w"
  refine ⟨fun hc => ?_, fun hc => ?_⟩
  · walk_at "w"
    cases e : wrongRep [a, b, c] with
    | none =>
      rw [e] at hc
      cases hc
    | some p =>
      have hp : p < 3 := by
        unfold wrongRep at e
        exact List.mem_range.mp (List.mem_of_find?_eq_some e)
      exact ⟨fmt_small (by omega), h2 p e⟩
  · have e : wrongRep [a, b, c] = none := by
      cases e : wrongRep [a, b, c] with
      | none => rfl
      | some p =>
        rw [e] at hc
        cases hc
    walk_at "w"
    refine wpS_seq ?_
    refine wpS_fld T.C_State T.na_State__lists ?_
    walk_at "w"
    refine ⟨0, _, _, _, rfl, rfl, by simp, ?_⟩
    walk_at "w"
    refine wpS_fld T.C_State T.na_State__places ?_
    apply wpE_mapP (as := [a, b, c]) (enc := L) (f := fun o => D.dK (idxD o)) true (gIn_name (by decide)) gMono_name
    walk_at "w"
    refine ⟨_, seq_l, rfl, small1000 (by simp), seq_l, fun i o ho => ?_, ?_⟩
    · walk_at "w"
      refine ⟨rfl, ?_⟩
      walk_at "w"
      have hm := List.mem_of_getElem? ho
      have hw : wrong o = none := by
        have hi : i < 3 := (List.getElem?_eq_some_iff.mp ho).1
        unfold wrongRep at e
        rw [List.find?_eq_none] at e
        have := e i (List.mem_range.mpr hi)
        rw [row_get ho] at this
        cases hq : wrong o with
        | none => rfl
        | some p =>
          rw [hq] at this
          simp at this
      have hsm : Sm o := by
        simp only [List.mem_cons, List.not_mem_nil, or_false] at hm
        rcases hm with rfl | rfl | rfl <;> assumption
      refine ⟨o, ⟨rfl, rfl⟩, hsm, wrong_nodup hw, rfl, rfl⟩
    · walk_at "w"
      exact ⟨0, _, _, _, rfl, rfl, by simp [putA], h1 e⟩
end
section
variable {K : PySem.W.Frag} {W : WX} {ds : List D} {O : Ow} {k : Kk} {x : Xk}
theorem res1_ok {a : List Int} (h : res1 a = .ok) : wrong a = none := by
  unfold res1 at h
  cases e : wrong a with
  | none => rfl
  | some p => rw [e] at h; cases h
theorem res1_no {a : List Int} (h : res1 a ≠ .ok) : ∃ p, wrong a = some p := by
  unfold res1 at h
  cases e : wrong a with
  | none => rw [e] at h; exact absurd rfl h
  | some p => exact ⟨p, rfl⟩
theorem w_swap_at (h : sp_swap_at K ds O k x) (lo : ∀ p ∈ O, p.loc = false) : wpS K W (fun e _ O' => x e O') (t_swap_at K W) (startD N_swap_at.length ds) O { nx := fun _ O' => k .non O', rt := k } := by
  obtain ⟨a, i, ⟨rfl, rfl⟩, ha, h1, h2⟩ := h
  unfold resS at h1 h2
  unfold t_swap_at
  walk_at "start"
  walk_at "w"
  walk_at "c0"
  refine ⟨a, ⟨rfl, rfl⟩, ha, fun e1 => ?_, fun e1 => ?_⟩
  · rw [res1_ok e1] at h1 h2
    dsimp only at h1 h2
    walk_at "w"
    refine wpS_ite (decide (i < 0 ∨ (a.length : Int) - 2 < i)) ?_ (fun h => ?_) fun h => ?_
    · refine wpT_or ?_
      walk_at "w"
      refine ⟨fun h => ⟨?_, rfl⟩, fun h => ?_⟩
      · exact (decide_eq_true (.inl (of_decide_eq_true h))).symm
      · walk_at "w"
        refine ⟨?_, rfl⟩
        have h := of_decide_eq_false h
        refine dec_iff ⟨.inr, fun q => q.resolve_left h⟩
    · have h := of_decide_eq_true h
      rw [if_pos h] at h2
      walk_at "w"
      exact ⟨fmt_small (by omega), h2 (by simp)⟩
    · have h := of_decide_eq_false h
      rw [if_neg h] at h1
      have i0 : 0 ≤ i := by omega
      have i1 : i + 1 < (a.length : Int) := by omega
      walk_at "w"
      refine wpC_list false seq_l ?_
      intro c hc
      walk_at "wr"
      have e : (i + 1).toNat = i.toNat + 1 := by omega
      rw [e]
      exact h1 rfl c
  · obtain ⟨p, e⟩ := res1_no e1
    rw [e] at h2
    unfold res1
    rw [e]
    exact h2 (by simp)
theorem cut_pre {ns : List Int} {n : Nat} (h : n ≤ ns.length) : cutD (ns.map D.int) none (some (n : Int)) = (ns.take n).map D.int := by
  unfold cutD
  rw [HT.sIx_nat, HT.sIx_none, List.length_map, Nat.min_eq_left h, List.drop_zero, Nat.sub_zero, List.map_take]
end
section
variable {K : PySem.W.Frag} {W : WX} {ds : List D} {O : Ow} {k : Kk} {x : Xk}
theorem VS.row {gs : List (List Int)} (v : VS gs) {h : Nat} (hh : h < 3) : wrong (row gs h) = none ∧ (row gs h).Perm (Q.row gs 0) := ⟨v.ok _ (row_mem (by rw [v.len]; exact hh)), v.same _ (row_mem (by rw [v.len]; exact hh))⟩
theorem VS.nd {gs : List (List Int)} (v : VS gs) {h : Nat} (hh : h < 3) : (Q.row gs h).Nodup := wrong_nodup (v.row hh).1
theorem VS.l12 {gs : List (List Int)} (v : VS gs) {h : Nat} (hh : h < 3) : (Q.row gs h).length ≤ 12 := wrong_len (v.row hh).1
theorem VS.leq {gs : List (List Int)} (v : VS gs) {h : Nat} (hh : h < 3) : (Q.row gs h).length = (Q.row gs 0).length := (v.row hh).2.length_eq
theorem wrong_rng {o : List Int} (h : wrong o = none) : ∀ z ∈ o, 0 ≤ z ∧ z ≤ 9999 := fun z hz => by
  obtain ⟨i, hi, rfl⟩ := List.getElem_of_mem hz
  have hb := wrong_not h i hi
  rw [bad_parts (List.getElem?_eq_getElem hi)] at hb
  simp only [Bool.or_eq_false_iff, decide_eq_false_iff_not] at hb
  omega
theorem wrong_sm {o : List Int} (h : wrong o = none) : Sm o := ⟨Nat.le_trans (wrong_len h) (by decide), fun z hz => by have := wrong_rng h z hz; omega⟩
theorem srt_eq_iff {a b : List Int} : srt a = srt b ↔ a.Perm b := ⟨fun h => (srt_perm a).symm.trans (h ▸ srt_perm b), fun h => srt_uniq ((srt_perm a).trans h) (srt_sorted a)⟩
theorem VS.rep {a b c : List Int} (v : VS [a, b, c]) : wrongRep [a, b, c] = none := wrongRep_none fun j hj => by
  have h := v.row (h := j) hj
  rw [h.1, srt_eq_iff.mpr h.2]
  simp
theorem VS.three {gs : List (List Int)} (v : VS gs) : ∃ a b c, gs = [a, b, c] := by
  have h := v.len
  match gs, h with
  | [a, b, c], _ => exact ⟨a, b, c, rfl⟩
theorem placeD {gs : List (List Int)} {i : Int} (h0 : 0 ≤ i) (h : i < (gs.length : Int)) : atI (gs.map fun o => D.dK (idxD o)) i = some (.dK (idxD (row gs i.toNat))) := atI_nn h0 (by
  rw [List.getElem?_map, row_at (by omega)] <;> rfl)
theorem idx_has {o : List Int} {z : Int} (h : z ∉ o) : valD (idxD o) (Sum.inl z) = none := by
  unfold valD
  have : (idxD o).find? (fun kv => decide (kv.1 = Sum.inl z)) = none := by
    rw [List.find?_eq_none]
    intro kv hkv
    obtain ⟨p, hp, rfl⟩ := List.mem_map.mp hkv
    simp only [decide_eq_true_eq]
    intro e
    have e := Sum.inl.inj e
    obtain ⟨i, hi, e2⟩ := List.getElem_of_mem hp
    have e3 := (zip_get (by rw [List.getElem?_eq_getElem hi, e2])).1
    exact h (by rw [← e]; exact List.mem_of_getElem? e3)
  rw [this] <;> rfl
theorem hasK_idx {o : List Int} (hn : o.Nodup) (z : Int) : hasK (.dK (idxD o)) z (decide (z ∈ o)) := by
  refine .inr ⟨_, rfl, ?_⟩
  by_cases h : z ∈ o
  · rw [idx_val hn h, decide_eq_true h] <;> rfl
  · rw [idx_has h, decide_eq_false h] <;> rfl
theorem w_State_says (T : FT_State_says K) (h : sp_State_says K ds O k x) (lo : ∀ p ∈ O, p.loc = false) : wpS K W (fun e _ O' => x e O') (t_State_says K W) (startD N_State_says.length ds) O { nx := fun _ O' => k .non O', rt := k } := by
  obtain ⟨gs, h, a, b, ⟨rfl, rfl⟩, v, hb, ba, bb, h1, h2, h3, h4⟩ := h
  unfold t_State_says
  walk_at "start"
  walk_at "w"
  walk_at "c0"
  refine ⟨h, ⟨rfl, rfl⟩, hb, fun hh => ?_, fun hh => h2 hh⟩
  have hl := v.len
  have vr := v.row (h := h.toNat) (by omega)
  have hn := wrong_nodup vr.1
  walk_at "w"
  refine wpE_fld T.C_State T.na_State__places ?_
  walk_at "w"
  walk_at "w"
  refine wpR_ixA (.inl seq_l) (placeD hh.1 (by omega)) ?_
  walk_at "w"
  walk_at "c0"
  refine ⟨_, a, _, ⟨rfl, rfl⟩, ba, hasK_idx hn a, fun ea => ?_, fun ea => ?_⟩
  · have ea : a ∈ row gs h.toNat := by simpa using ea
    walk_at "w"
    walk_at "c0"
    refine ⟨_, b, _, ⟨rfl, rfl⟩, bb, hasK_idx hn b, fun eb => ?_, fun eb => ?_⟩
    · have eb : b ∈ row gs h.toNat := by simpa using eb
      walk_at "wr"
      refine ⟨_, Sum.inl a, _, d_l, rfl, idx_val hn ea, ?_⟩
      walk_at "w"
      refine ⟨_, Sum.inl b, _, d_l, rfl, idx_val hn eb, ?_⟩
      walk_at "w"
      have h1 := h1 hh (vr.2.mem_iff.mp ea) (vr.2.mem_iff.mp eb)
      unfold sayB at h1
      simpa using h1
    · have eb : b ∉ row gs h.toNat := by simpa using eb
      exact h4 hh (vr.2.mem_iff.mp ea) fun q => eb (vr.2.mem_iff.mpr q)
  · have ea : a ∉ row gs h.toNat := by simpa using ea
    exact h3 hh fun q => ea (vr.2.mem_iff.mpr q)
theorem VS.set {gs : List (List Int)} (v : VS gs) {h : Nat} {o : List Int} (hh : h < 3) (ho : wrong o = none) (hp : o.Perm (Q.row gs 0)) : VS (gs.set h o) := by
  have hl := v.len
  have hz : (Q.row (gs.set h o) 0).Perm (Q.row gs 0) := by
    by_cases e : h = 0
    · subst e
      have : Q.row (gs.set 0 o) 0 = o := by
        unfold Q.row
        rw [List.getD_eq_getElem?_getD, List.getElem?_set_self (by omega)] <;> rfl
      rw [this]
      exact hp
    · have : Q.row (gs.set h o) 0 = Q.row gs 0 := by
        unfold Q.row
        rw [List.getD_eq_getElem?_getD, List.getElem?_set_ne e, ← List.getD_eq_getElem?_getD]
      rw [this]
  refine ⟨by rw [List.length_set]; exact hl, fun p q => ?_, fun p q => ?_⟩
  · rcases List.mem_or_eq_of_mem_set q with q | rfl
    · exact v.ok p q
    · exact ho
  · rcases List.mem_or_eq_of_mem_set q with q | rfl
    · exact (v.same p q).trans hz.symm
    · exact hp.trans hz.symm
theorem map_setL (gs : List (List Int)) (h : Nat) (o : List Int) : (gs.map L).set h (L o) = (gs.set h o).map L := by rw [List.map_set]
theorem w_State_with_list (h : sp_State_with_list K ds O k x) (lo : ∀ p ∈ O, p.loc = false) : wpS K W (fun e _ O' => x e O') (t_State_with_list K W) (startD N_State_with_list.length ds) O { nx := fun _ O' => k .non O', rt := k } := by
  obtain ⟨gs, h, o, ⟨rfl, rfl⟩, v, hb, ho, h1, h2, h3⟩ := h
  have hl := v.len
  unfold t_State_with_list
  walk_at "start"
  walk_at "w"
  walk_at "c0"
  refine ⟨h, ⟨rfl, rfl⟩, hb, fun hh => ?_, fun hh => h2 hh⟩
  walk_at "w"
  refine wpS_iteP (c := (wrong o).isSome || !decide (srt o = srt (row gs 0))) ?_ ⟨fun hc => ?_, fun hc => ?_⟩
  · refine wpT_orP ?_ fun _ => ?_
    · walk_at "w"
      walk_at "c0"
      refine ⟨o, ⟨rfl, rfl⟩, ho, ?_⟩
      walk_at "w"
      refine ⟨?_, rfl⟩
      cases wrong o <;> rfl
    · walk_at "w"
      refine wpC_sortAI true seq_l fun ms hm hsr => ?_
      obtain rfl := srt_uniq hm hsr
      refine wpE_fz ?_
      walk_at "m0"
      refine ⟨gs, ⟨rfl, rfl⟩, hl, fun c => ⟨c, _, _, rfl, rfl, ?_⟩⟩
      refine wpR_neLd view_self view_self ?_
      walk_at "w"
      exact ⟨rfl, rfl⟩
  · walk_at "w"
    refine ⟨fmt_small hb, h3 hh fun q => ?_⟩
    rw [q.1, srt_eq_iff.mpr q.2] at hc
    simp at hc
  · simp only [Bool.or_eq_false_iff, Bool.not_eq_false', decide_eq_true_eq] at hc
    have hw : wrong o = none := by
      cases e : wrong o with
      | none => rfl
      | some p => rw [e] at hc; cases hc.1
    have hp := srt_eq_iff.mp hc.2
    have v' := v.set (h := h.toNat) (by omega) hw hp
    walk_at "w"
    walk_at "m0"
    refine ⟨gs, ⟨rfl, rfl⟩, by omega, fun c => ?_⟩
    walk_at "w"
    rw [map_setL]
    obtain ⟨a, b, d, e3⟩ := v'.three
    have hf := h1 hh hw hp
    rw [e3] at v' hf ⊢
    refine wpG_lst (ds := [L a, L b, L d]) (seq_m (i := 0) rfl) rfl ?_
    walk_at "w"
    refine wpS_subO (List.nil_sublist _) ?_
    walk_at "wr"
    refine wpE_make (fun _ => .nil) ?_
    walk_at "w"
    refine ⟨[], lent_nil, fun s _ => ⟨s, _, _, _, a, b, d, [], ⟨rfl, rfl⟩, ⟨seq_l, seq_l, seq_l⟩, ⟨wrong_sm (v'.ok _ (by simp)), wrong_sm (v'.ok _ (by simp)), wrong_sm (v'.ok _ (by simp))⟩, fun _ => ⟨rfl, [], _, rfl, ?_⟩, fun q hq => ?_⟩⟩
    · exact hf
    · rw [v'.rep] at hq
      cases hq
theorem w__other_replicas (T : FT__other_replicas K) (h : sp__other_replicas K ds O k x) (lo : ∀ p ∈ O, p.loc = false) : wpS K W (fun e _ O' => x e O') (t__other_replicas K W) (startD N__other_replicas.length ds) O { nx := fun _ O' => k .non O', rt := k } := by
  obtain ⟨h, ⟨rfl, rfl⟩, hb, hk⟩ := h
  obtain ⟨T1, u, T2⟩ := T.cv_State_REPLICAS
  unfold t__other_replicas
  walk_at "start"
  walk_at "wr"
  apply wpE_filP (as := [0, 1, 2]) (enc := D.int) (c := fun z => !decide (z = h)) (f := D.int) true (gIn_name (by decide)) gMono_name
  walk_at "w"
  refine wpE_cval T1 T2 (fun _ => .int 3) ?_
  walk_at "w"
  refine ⟨rfl, ?_⟩
  walk_at "w"
  refine ⟨⟨by decide, by decide⟩, rfl, small1000 (by decide), trivial, fun i z hz => ?_, ?_⟩
  · walk_at "w"
    refine ⟨rfl, ?_, fun _ => ?_⟩
    · walk_at "w"
      exact ⟨rfl, rfl⟩
    · walk_at "w"
      exact ⟨rfl, rfl⟩
  · exact hk
end
section
variable {K : PySem.W.Frag} {W : WX} {ds : List D} {O : Ow} {k : Kk} {x : Xk}
theorem wrong_perm {o p : List Int} (h : wrong o = none) (s : p.Perm o) : wrong p = none := wrong_none fun j hj => by
  have hn := s.nodup_iff.mpr (wrong_nodup h)
  have hr := wrong_rng h _ (s.mem_iff.mp (List.getElem_mem hj))
  have hl := s.length_eq
  have hw := wrong_len h
  rw [bad_parts (List.getElem?_eq_getElem hj)]
  simp only [Bool.or_eq_false_iff, decide_eq_false_iff_not]
  refine ⟨by omega, by omega, by omega, fun hm => ?_⟩
  obtain ⟨i, hi, e⟩ := List.getElem_of_mem hm
  rw [List.length_take] at hi
  rw [List.getElem_take] at e
  have := nd_ix hn (List.getElem?_eq_getElem (by omega)) ((List.getElem?_eq_getElem hj).trans (congrArg some e.symm))
  omega
theorem stepB_ok {gs : List (List Int)} {s : Int × Int} (h : stepB gs s = true) : (0 ≤ s.1 ∧ s.1 < 3) ∧ 0 ≤ s.2 ∧ s.2 + 1 < ((row gs 0).length : Int) := by
  unfold stepB at h
  simp only [Bool.and_eq_true, decide_eq_true_eq] at h
  omega
theorem w_is_swap (T : FT_is_swap K) (h : sp_is_swap K ds O k x) (lo : ∀ p ∈ O, p.loc = false) : wpS K W (fun e _ O' => x e O') (t_is_swap K W) (startD N_is_swap.length ds) O { nx := fun _ O' => k .non O', rt := k } := by
  obtain ⟨gs, ⟨s1, s2⟩, ⟨rfl, rfl⟩, hl, h12, hk⟩ := h
  obtain ⟨T1, u, T2⟩ := T.cv_State_REPLICAS
  unfold t_is_swap
  walk_at "start"
  walk_at "w"
  refine wpC_lenO ⟨gs, ⟨rfl, rfl⟩, hl, _, rfl, by omega, by omega, ?_⟩
  walk_at "w"
  refine wpS_ret ?_
  refine wpE_joinP (d := .bl (stepB gs (s1, s2))) ?_ hk
  refine wpE_andP ?_ fun _ => ?_
  · walk_at "w"
    refine ⟨fun h => ?_, fun h => ?_⟩
    · refine wpE_cval T1 T2 (fun _ => .int 3) ?_
      walk_at "w"
      refine ⟨rfl, ?_⟩
      walk_at "w"
      exact ⟨by rw [h, Bool.true_and], rfl⟩
    · exact ⟨by rw [h, Bool.false_and], rfl⟩
  · walk_at "w"
    refine ⟨fun h => ?_, fun h => ?_⟩
    · walk_at "w"
      exact ⟨by rw [h, Bool.true_and], rfl⟩
    · exact ⟨by rw [h, Bool.false_and], rfl⟩
theorem w_swap_pair (h : sp_swap_pair K ds O k x) (lo : ∀ p ∈ O, p.loc = false) : wpS K W (fun e _ O' => x e O') (t_swap_pair K W) (startD N_swap_pair.length ds) O { nx := fun _ O' => k .non O', rt := k } := by
  obtain ⟨gs, ⟨s1, s2⟩, ⟨rfl, rfl⟩, v, h1, h2⟩ := h
  unfold t_swap_pair
  walk_at "start"
  walk_at "w"
  walk_at "c0"
  refine ⟨gs, (s1, s2), ⟨rfl, rfl⟩, v.len, by have := v.l12 (h := 0) (by omega); omega, ?_⟩
  walk_at "w"
  refine ⟨fun hc => ?_, fun hc => ?_⟩
  · walk_at "w"
    exact ⟨fmt_small (by omega), h2 (by simpa using hc)⟩
  · have hc : stepB gs (s1, s2) = true := by simpa using hc
    have hs := stepB_ok hc
    have hl := v.leq (h := s1.toNat) (by omega)
    walk_at "w"
    walk_at "m0"
    refine ⟨gs, s1, ⟨rfl, rfl⟩, v.len, by omega, fun _ c => ?_, fun q => absurd hs.1 q⟩
    walk_at "wf"
    refine ⟨by show 2 ≤ sizeLine; decide, [], List.nil_sublist _, ?_⟩
    have e : (s2 + 1).toNat = s2.toNat + 1 := by omega
    rw [e]
    exact h1 hc
theorem sil_others {gs : List (List Int)} {h i : Nat} (hh : h < 3) : ∃ a b : Nat, ((([0, 1, 2] : List Int)).filter fun z => !decide (z = (h : Int))) = [(a : Int), (b : Int)] ∧ a < 3 ∧ b < 3 ∧ silB gs h i = decide (sayB (row gs a) (kx gs h i) (kx gs h (i + 1)) = sayB (row gs b) (kx gs h i) (kx gs h (i + 1))) := by
  unfold silB
  have : h = 0 ∨ h = 1 ∨ h = 2 := by omega
  rcases this with rfl | rfl | rfl
  · exact ⟨1, 2, rfl, by omega, by omega, rfl⟩
  · exact ⟨0, 2, rfl, by omega, by omega, decide_eq_decide.mpr ⟨Eq.symm, Eq.symm⟩⟩
  · exact ⟨0, 1, rfl, by omega, by omega, rfl⟩
theorem kx_mem {gs : List (List Int)} (v : VS gs) {h i : Nat} (hh : h < 3) (hi : i < (row gs 0).length) : kx gs h i ∈ row gs 0 := by
  unfold kx
  exact (v.row hh).2.mem_iff.mp (mem_getD (by rw [v.leq hh]; exact hi))
theorem w_is_silent (h : sp_is_silent K ds O k x) (lo : ∀ p ∈ O, p.loc = false) : wpS K W (fun e _ O' => x e O') (t_is_silent K W) (startD N_is_silent.length ds) O { nx := fun _ O' => k .non O', rt := k } := by
  obtain ⟨gs, ⟨s1, s2⟩, ⟨rfl, rfl⟩, v, h1, h2⟩ := h
  unfold t_is_silent
  walk_at "start"
  walk_at "w"
  walk_at "c0"
  refine ⟨gs, (s1, s2), ⟨rfl, rfl⟩, v, fun hc => ?_, fun hc => h2 hc⟩
  have hs := stepB_ok hc
  have hf := h1 hc
  obtain ⟨a, b, e, ha, hb, es⟩ := sil_others (gs := gs) (h := s1.toNat) (i := s2.toNat) (by omega)
  have e0 : ((s1.toNat : Nat) : Int) = s1 := by omega
  rw [e0] at e
  have m1 := kx_mem v (h := s1.toNat) (i := s2.toNat) (by omega) (by omega)
  have m2 := kx_mem v (h := s1.toNat) (i := s2.toNat + 1) (by omega) (by omega)
  have b1 := wrong_rng (v.row (h := 0) (by omega)).1 _ m1
  have b2 := wrong_rng (v.row (h := 0) (by omega)).1 _ m2
  walk_at "w"
  walk_at "c0"
  refine ⟨s1, ⟨rfl, rfl⟩, hs.1, ?_⟩
  rw [e]
  refine wpG_lst (ds := [.int (a : Int), .int (b : Int)]) seq_l rfl ?_
  walk_at "wr"
  walk_at "m0"
  refine ⟨gs, _, _, _, ⟨rfl, rfl⟩, v, by omega, by omega, by omega, fun _ _ _ => ?_, fun q => absurd (by omega) q, fun _ q => absurd m1 q, fun _ _ q => absurd m2 q⟩
  walk_at "m0"
  refine ⟨gs, _, _, _, ⟨rfl, rfl⟩, v, by omega, by omega, by omega, fun _ _ _ => ?_, fun q => absurd (by omega) q, fun _ q => absurd m1 q, fun _ _ q => absurd m2 q⟩
  walk_at "w"
  have es' : sil gs (s1, s2) = _ := es
  rw [es'] at hf
  exact hf
theorem w_swapped_state (h : sp_swapped_state K ds O k x) (lo : ∀ p ∈ O, p.loc = false) : wpS K W (fun e _ O' => x e O') (t_swapped_state K W) (startD N_swapped_state.length ds) O { nx := fun _ O' => k .non O', rt := k } := by
  obtain ⟨gs, ⟨s1, s2⟩, ⟨rfl, rfl⟩, v, hc, hk⟩ := h
  have hs := stepB_ok hc
  have vr := v.row (h := s1.toNat) (by omega)
  have hl := v.leq (h := s1.toNat) (by omega)
  unfold t_swapped_state
  walk_at "start"
  walk_at "w"
  refine wpS_ret ?_
  walk_at "m0"
  refine wpE_fz ?_
  walk_at "c0"
  refine wpE_fz ?_
  walk_at "m0"
  refine ⟨gs, s1, ⟨rfl, rfl⟩, v.len, by omega, fun _ c => ⟨c, _, _, rfl, rfl, ?_⟩, fun q => absurd hs.1 q⟩
  walk_at "w"
  refine ⟨_, s2, ⟨rfl, rfl⟩, wrong_sm vr.1, fun _ c => ⟨c, _, _, rfl, rfl, ?_⟩, fun q => absurd ?_ q⟩
  · walk_at "w"
    have hp := (exch_perm (row gs s1.toNat) s2.toNat (by omega))
    refine ⟨gs, s1, _, ⟨rfl, rfl⟩, v, by omega, (wrong_sm vr.1).perm hp, fun _ _ _ => hk, fun q => absurd hs.1 q, fun _ q => absurd ⟨?_, hp.trans vr.2⟩ q⟩
    exact wrong_perm vr.1 hp
  · unfold resS
    rw [vr.1]
    dsimp only
    rw [if_neg (by omega)]
end
section
variable {K : PySem.W.Frag} {W : WX} {ds : List D} {O : Ow} {k : Kk} {x : Xk}
theorem VS.swp {gs : List (List Int)} (v : VS gs) {s : Int × Int} (hc : stepB gs s = true) : VS (sws gs s) := by
  have hs := stepB_ok hc
  have vr := v.row (h := s.1.toNat) (by omega)
  have hl := v.leq (h := s.1.toNat) (by omega)
  have hp := (exch_perm (Q.row gs s.1.toNat) s.2.toNat (by omega))
  exact v.set (by omega) (wrong_perm vr.1 hp) (hp.trans vr.2)
theorem row_set {gs : List (List Int)} {h j : Nat} {o : List Int} (hh : h < gs.length) : row (gs.set h o) j = if h = j then o else row gs j := by
  unfold row
  rw [List.getD_eq_getElem?_getD, List.getElem?_set, List.getD_eq_getElem?_getD]
  split
  · rename_i e
    rfl
  · rfl
theorem sws_row0 {gs : List (List Int)} (v : VS gs) {s : Int × Int} (hc : stepB gs s = true) : (row (sws gs s) 0).Perm (row gs 0) := by
  have hs := stepB_ok hc
  have hl := v.len
  have hq := v.leq (h := s.1.toNat) (by omega)
  have hp := (exch_perm (Q.row gs s.1.toNat) s.2.toNat (by omega))
  show (row (gs.set s.1.toNat (exch (row gs s.1.toNat) s.2.toNat)) 0).Perm _
  rw [row_set (by omega)]
  split
  · rename_i e
    exact hp.trans (v.row (h := s.1.toNat) (by omega)).2
  · exact List.Perm.refl _
theorem playR_step {gs : List (List Int)} {s : Int × Int} {sw : List (Int × Int)} {n : Nat} (h1 : stepB gs s = true) (h2 : sil gs s = true) : playR gs (s :: sw) n = playR (sws gs s) sw (n + 1) := by
  show (if stepB gs s then (if sil gs s then playR (sws gs s) sw (n + 1) else .error (true, n)) else .error (false, n)) = _
  rw [h1, h2] <;> rfl
theorem playR_ok {gs : List (List Int)} {s : Int × Int} {sw : List (Int × Int)} {n : Nat} {g : List (List Int)} (h : playR gs (s :: sw) n = .ok g) : stepB gs s = true ∧ sil gs s = true ∧ playR (sws gs s) sw (n + 1) = .ok g := by
  have h : (if stepB gs s then (if sil gs s then playR (sws gs s) sw (n + 1) else .error (true, n)) else .error (false, n)) = Except.ok g := h
  cases h1 : stepB gs s with
  | false => rw [h1] at h; cases h
  | true =>
    cases h2 : sil gs s with
    | false => rw [h1, h2] at h; cases h
    | true => rw [h1, h2] at h; exact ⟨rfl, rfl, h⟩
end
section
variable {K : PySem.W.Frag} {W : WX} {ds : List D} {O : Ow} {k : Kk} {x : Xk}
theorem cut_from {ns : List Int} {n : Nat} (h : n ≤ ns.length) : cutD (ns.map D.int) (some (n : Int)) none = (ns.drop n).map D.int := by
  unfold cutD
  rw [HT.sIx_nat, HT.sIx_none, List.length_map, Nat.min_eq_left h, List.map_drop, List.take_of_length_le]
  rw [List.length_drop, List.length_map]
  exact Nat.le_refl _
end
section
variable {K : PySem.W.Frag} {W : WX} {ds : List D} {O : Ow} {k : Kk} {x : Xk} {ex : Ek} {G : Gm} {P : D → Ow → Prop}
/-- a draw -/
theorem wpE_take {j i : Nat} {a : Addr} {te : TE} (hi : G[i]? = some (some (.mut a))) (h : wpE K W ex te G O fun y O1 => ∃ n b d, y = .int n ∧ (1 ≤ n ∧ n < 1099511627776) ∧ O1[j]? = some ⟨a, b, d⟩ ∧ Bx d ∧ ∀ v d', 0 ≤ v → v < n → Bx d' → P (.int v) (O1.set j ⟨a, b, d'⟩)) :
    wpE K W ex (tCallSD (toSp K (sp__law_take K)) [] (WE W) (tCons (tVar i) (tCons te tNil))) G O P := by
  refine wpE_call1 (fun _ => .nil) (wpA_cons (wpE_var hi (wpA_cons (wpE_mono h fun y O1 ⟨n, b, d, e, hn, hj, hB, hk⟩ => wpA_nil ?_))))
  subst e
  exact ⟨j, a, b, d, hj, ⟨a, d, n, ⟨rfl, rfl⟩, hB, hn.1, hn.2, fun v d' v0 v1 hB' => ⟨[], d', rfl, hk v d' v0 v1 hB'⟩⟩⟩
theorem VS.v3 {gs : List (List Int)} (v : VS gs) : V3 gs := ⟨v.len, v.same, v.nd (by omega), v.l12 (by omega)⟩
theorem V3.row {gs : List (List Int)} (v : V3 gs) {h : Nat} (hh : h < 3) : (Q.row gs h).Perm (Q.row gs 0) := v.same _ (row_mem (by rw [v.len]; exact hh))
theorem V3.leq {gs : List (List Int)} (v : V3 gs) {h : Nat} (hh : h < 3) : (Q.row gs h).length = (Q.row gs 0).length := (v.row hh).length_eq
theorem V3.mem {gs : List (List Int)} (v : V3 gs) {h h' i : Nat} (hh : h < 3) (hh' : h' < 3) (hi : i < (Q.row gs 0).length) : kx gs h i ∈ Q.row gs h' := by
  unfold kx
  exact (v.row hh').mem_iff.mpr ((v.row hh).mem_iff.mp (mem_getD (by rw [v.leq hh]; exact hi)))
theorem V3.swp {gs : List (List Int)} (v : V3 gs) {s : Int × Int} (hc : stepB gs s = true) : V3 (sws gs s) ∧ (Q.row (sws gs s) 0).Perm (Q.row gs 0) := by
  have hs := stepB_ok hc
  have hl := v.len
  have hq := v.leq (h := s.1.toNat) (by omega)
  have hp := (exch_perm (Q.row gs s.1.toNat) s.2.toNat (by omega))
  have h0 : (Q.row (sws gs s) 0).Perm (Q.row gs 0) := by
    show (Q.row (gs.set s.1.toNat (exch (Q.row gs s.1.toNat) s.2.toNat)) 0).Perm _
    rw [row_set (by omega)]
    split
    · exact hp.trans (v.row (h := s.1.toNat) (by omega))
    · exact List.Perm.refl _
  refine ⟨⟨by show (gs.set _ _).length = 3; rw [List.length_set]; exact hl, fun o ho => ?_, h0.nodup_iff.mpr v.nd, by rw [h0.length_eq]; exact v.l12⟩, h0⟩
  rcases List.mem_or_eq_of_mem_set ho with ho | rfl
  · exact (v.same o ho).trans h0.symm
  · exact (hp.trans (v.row (h := s.1.toNat) (by omega))).trans h0.symm
theorem exch_cut {o : List Int} {i : Nat} (h : i + 1 < o.length) : (o.take i ++ [o.getD (i + 1) 0, o.getD i 0]) ++ o.drop (i + 2) = exch o i := by
  have h1 : o.getD i 0 = o[i] := by rw [List.getD_eq_getElem?_getD, List.getElem?_eq_getElem (by omega)] <;> rfl
  have h2 : o.getD (i + 1) 0 = o[i + 1] := by rw [List.getD_eq_getElem?_getD, List.getElem?_eq_getElem h] <;> rfl
  unfold exch
  rw [h1, h2]
  apply List.ext_getElem?
  intro j
  rw [List.getElem?_set, List.getElem?_set]
  have hm : (o.take i).length = i := by rw [List.length_take]; omega
  by_cases c1 : j < i
  · rw [List.getElem?_append_left (by simp; omega), List.getElem?_append_left (by omega), List.getElem?_take, if_pos c1, if_neg (by omega), if_neg (by omega)]
  · by_cases c2 : j = i
    · subst c2
      rw [List.getElem?_append_left (by simp; omega), List.getElem?_append_right (by omega), hm, Nat.sub_self, if_neg (by omega), if_pos rfl, if_pos (by omega)] <;> rfl
    · by_cases c3 : j = i + 1
      · subst c3
        rw [List.getElem?_append_left (by simp; omega), List.getElem?_append_right (by omega), hm, show i + 1 - i = 1 by omega, if_pos rfl, if_pos (by rw [List.length_set]; omega)] <;> rfl
      · rw [List.getElem?_append_right (by simp; omega), List.getElem?_drop, if_neg (by omega), if_neg (by omega)]
        congr 1
        simp
        omega
end
section
variable {K : PySem.W.Frag} {W : WX} {ds : List D} {O : Ow} {k : Kk} {x : Xk}
theorem drop_cons {α : Type} {l : List α} {i : Nat} {a : α} (h : l[i]? = some a) : l.drop i = a :: l.drop (i + 1) := by
  have hi : i < l.length := (List.getElem?_eq_some_iff.mp h).1
  rw [List.drop_eq_getElem_cons hi]
  rw [List.getElem?_eq_getElem hi] at h
  rw [Option.some.inj h]
theorem playR_any {gs : List (List Int)} {sw : List (Int × Int)} {n : Nat} {g : List (List Int)} (h : playR gs sw n = .ok g) (m : Nat) : playR gs sw m = .ok g := by
  induction sw generalizing gs n m with
  | nil => exact h
  | cons s sw ih =>
    obtain ⟨h1, h2, h3⟩ := playR_ok h
    rw [playR_step h1 h2]
    exact ih h3 _
theorem okR_cons {gs : List (List Int)} {s : Int × Int} {sw : List (Int × Int)} (h : okR gs (s :: sw)) : stepB gs s = true ∧ sil gs s = true ∧ okR (sws gs s) sw := by
  obtain ⟨g, hg⟩ := h
  obtain ⟨h1, h2, h3⟩ := playR_ok hg
  exact ⟨h1, h2, g, playR_any h3 0⟩
theorem okR_mk {gs : List (List Int)} {s : Int × Int} {sw : List (Int × Int)} (h1 : stepB gs s = true) (h2 : sil gs s = true) (h3 : okR (sws gs s) sw) : okR gs (s :: sw) := by
  obtain ⟨g, hg⟩ := h3
  exact ⟨g, by rw [playR_step h1 h2]; exact playR_any hg 1⟩
end
section
variable {K : PySem.W.Frag} {W : WX} {ds : List D} {O : Ow} {k : Kk} {x : Xk}
theorem okR_append {gs : List (List Int)} {a b : List (Int × Int)} : okR gs (a ++ b) ↔ okR gs a ∧ okR (endL gs a) b := by
  induction a generalizing gs with
  | nil => exact ⟨fun h => ⟨⟨gs, rfl⟩, h⟩, fun h => h.2⟩
  | cons s a ih =>
    constructor
    · intro h
      obtain ⟨h1, h2, h3⟩ := okR_cons h
      obtain ⟨h4, h5⟩ := ih.mp h3
      exact ⟨okR_mk h1 h2 h4, h5⟩
    · rintro ⟨h, h'⟩
      obtain ⟨h1, h2, h3⟩ := okR_cons h
      exact okR_mk h1 h2 (ih.mpr ⟨h3, h'⟩)
theorem endL_append {gs : List (List Int)} {a b : List (Int × Int)} : endL gs (a ++ b) = endL (endL gs a) b := List.foldl_append
theorem endL_v3 {gs : List (List Int)} (v : V3 gs) {sw : List (Int × Int)} (h : okR gs sw) : V3 (endL gs sw) ∧ (row (endL gs sw) 0).Perm (row gs 0) := by
  induction sw generalizing gs with
  | nil => exact ⟨v, .refl _⟩
  | cons s sw ih =>
    obtain ⟨h1, h2, h3⟩ := okR_cons h
    obtain ⟨a, b⟩ := v.swp h1
    obtain ⟨c, d⟩ := ih a h3
    exact ⟨c, d.trans b⟩
end
section
variable {K : PySem.W.Frag} {W : WX} {ds : List D} {O : Ow} {k : Kk} {x : Xk}
theorem fresh_ok {o : List Int} (hn : o.Nodup) (hl : o.length ≤ 12) (hb : ∀ z ∈ o, 0 ≤ z ∧ z ≤ 9999) : wrong o = none := wrong_none fun j hj => by
  have hr := hb _ (List.getElem_mem hj)
  rw [bad_parts (List.getElem?_eq_getElem hj)]
  simp only [Bool.or_eq_false_iff, decide_eq_false_iff_not]
  refine ⟨by omega, by omega, by omega, fun hm => ?_⟩
  obtain ⟨i, hi, e⟩ := List.getElem_of_mem hm
  rw [List.length_take] at hi
  rw [List.getElem_take] at e
  have := nd_ix hn (List.getElem?_eq_getElem (by omega)) ((List.getElem?_eq_getElem hj).trans (congrArg some e.symm))
  omega
theorem vs3 {a b c ks : List Int} (h : wrong ks = none) (ha : a.Perm ks) (hb : b.Perm ks) (hc : c.Perm ks) : VS [a, b, c] := by
  refine ⟨rfl, fun o ho => ?_, fun o ho => ?_⟩
  · simp only [List.mem_cons, List.not_mem_nil, or_false] at ho
    rcases ho with rfl | rfl | rfl
    · exact wrong_perm h ha
    · exact wrong_perm h hb
    · exact wrong_perm h hc
  · simp only [List.mem_cons, List.not_mem_nil, or_false] at ho
    show o.Perm a
    rcases ho with rfl | rfl | rfl
    · exact .refl _
    · exact hb.trans ha.symm
    · exact hc.trans ha.symm
theorem VS.fin {gs : List (List Int)} (v : VS gs) {sw : List (Int × Int)} (h : okR gs sw) : VS (endL gs sw) ∧ (Q.row (endL gs sw) 0).Perm (Q.row gs 0) := by
  induction sw generalizing gs with
  | nil => exact ⟨v, .refl _⟩
  | cons s sw ih =>
    obtain ⟨h1, h2, h3⟩ := okR_cons h
    obtain ⟨c, d⟩ := ih (v.swp h1) h3
    exact ⟨c, d.trans (sws_row0 v h1)⟩
end
theorem idxOf_cons_ne' {a x : Int} {l : List Int} (h : a ≠ x) : (a :: l).idxOf x = l.idxOf x + 1 := idx_ne h
theorem idxOf_cons_self' {x : Int} {l : List Int} : (x :: l).idxOf x = 0 := by simp
/-- .. and after an exchange -/
theorem exch_idx {z : Int} : ∀ {i : Nat} {o : List Int}, o.Nodup → z ∈ o → i + 1 < o.length → (exch o i).idxOf z = if o.idxOf z = i then i + 1 else if o.idxOf z = i + 1 then i else o.idxOf z
  | 0, x :: y :: o, hn, h, hl => by
    rw [exch_zero]
    by_cases ex : x = z
    · subst ex
      have ey : y ≠ x := fun e => by subst e; simp at hn
      rw [idxOf_cons_self', idxOf_cons_ne' ey, idxOf_cons_self'] <;> rfl
    · by_cases ey : y = z
      · subst ey
        rw [idxOf_cons_ne' ex, idxOf_cons_self', idxOf_cons_self'] <;> rfl
      · rw [idxOf_cons_ne' ex, idxOf_cons_ne' ey, idxOf_cons_ne' ey, idxOf_cons_ne' ex, if_neg (by omega), if_neg (by omega)]
  | i + 1, x :: o, hn, h, hl => by
    rw [exch_cons]
    rw [List.nodup_cons] at hn
    have hl' : i + 1 < o.length := by simpa using hl
    by_cases ex : x = z
    · subst ex
      rw [idxOf_cons_self', idxOf_cons_self', if_neg (by omega), if_neg (by omega)]
    · have hz : z ∈ o := (List.mem_cons.mp h).resolve_left fun q => ex q.symm
      have ih := exch_idx (i := i) hn.2 hz hl'
      rw [idxOf_cons_ne' ex, idxOf_cons_ne' ex, ih]
      repeat' split
      all_goals omega
  | 0, [], _, h, _ => by simp at h
  | 0, [x], _, _, h => by simp at h
  | i + 1, [], _, h, _ => by simp at h
abbrev without (z : Int) (t : Int × Int × Int) : Bool := !decide (t.2.1 = z) && !decide (t.2.2 = z)
section
variable {K : PySem.W.Frag} {W : WX} {ds : List D} {O : Ow} {k : Kk} {x : Xk} {P : D → Ow → Prop} {α : Type}
structure Codes (n : Nat) (f : α → D) : Prop where
  inj : ∀ a b, toPd (f a) = toPd (f b) → a = b
  sh : ∀ a, shalN n (f a)
theorem Codes.lst {n : Nat} {f : α → D} (c : Codes n f) (h : n + 1 ≤ 64) (xs : List α) : shal (.lst (xs.map f)) := (shalN_lst fun x hx => by
  obtain ⟨a, _, rfl⟩ := List.mem_map.mp hx
  exact c.sh a).ok h
theorem wpR_eqC [DecidableEq α] {n : Nat} {f : α → D} {x y : D} {xs ys : List α} (c : Codes n f) (hn : n + 1 ≤ 64) (hx : viewOf O x (.lst (xs.map f))) (hy : viewOf O y (.lst (ys.map f))) (p : P (.bl (decide (xs = ys))) O) : wpR K (rEqA K) x y O P :=
  wpR_eqD hx hy (c.lst hn xs) (c.lst hn ys) fun b hb => by
    rw [pd_lst c.inj] at hb
    have : b = decide (xs = ys) := by
      cases b with
      | true => exact (decide_eq_true (hb.mp rfl)).symm
      | false => exact (decide_eq_false fun e => by have := hb.mpr e; cases this).symm
    rw [this]
    exact p
theorem codes_pr : Codes 1 PyD.prD := ⟨fun a b h => toPd_pr h, shal_pr⟩
end
section
variable {K : PySem.W.Frag} {W : WX} {ds : List D} {O : Ow} {k : Kk} {x : Xk}
theorem w__law_is_number (h : sp__law_is_number K ds O k x) (lo : ∀ p ∈ O, p.loc = false) : wpS K W (fun e _ O' => x e O') (t__law_is_number K W) (startD N__law_is_number.length ds) O { nx := fun _ O' => k .non O', rt := k } := by
  obtain ⟨i, ⟨rfl, rfl⟩, hk⟩ := h
  unfold t__law_is_number
  walk_at "start"
  walk_at "wr"
  refine wpC_isi (.int i) (b := true) (by decide +kernel) ?_
  walk_at "w"
  refine ⟨fun _ => ?_, fun h => (by cases h)⟩
  walk_at "w"
  refine wpC_isi (.int i) (b := false) (by decide +kernel) ?_
  walk_at "w"
  refine ⟨fun _ => ?_, fun h => (by cases h)⟩
  walk_at "w"
  simpa using hk
theorem w__law_is_truth (h : sp__law_is_truth K ds O k x) (lo : ∀ p ∈ O, p.loc = false) : wpS K W (fun e _ O' => x e O') (t__law_is_truth K W) (startD N__law_is_truth.length ds) O { nx := fun _ O' => k .non O', rt := k } := by
  obtain ⟨b, ⟨rfl, rfl⟩, hk⟩ := h
  unfold t__law_is_truth
  walk_at "start"
  walk_at "wr"
  refine wpC_isi (.bl b) (b := true) (by decide +kernel) ?_
  walk_at "w"
  refine ⟨fun _ => ?_, fun h => (by cases h)⟩
  walk_at "w"
  simpa using hk
theorem rowIs.ix {d : D} {a : List Int} (h : rowIs d a) {i : Nat} (hi : i < a.length) {P : D → Ow → Prop} (p : P (.int (a.getD i 0)) O) : wpR K (rIxLT K) d (.int (0 + (i : Int))) O P := by
  have e : atI (a.map D.int) (0 + (i : Int)) = some (.int (a.getD i 0)) := by
    have := atI_int (ns := a) (i := 0 + (i : Int)) (by omega) (by omega)
    rw [this]
    congr 3
    omega
  rcases h with rfl | rfl
  · exact wpR_ixA (.inl seq_l) e p
  · exact wpR_ixA (.inr rfl) e p
theorem rowIs.len {d : D} {a : List Int} (h : rowIs d a) {P : D → Ow → Prop} (p : P (.int (a.length : Int)) O) : wpC K (rLenA K) [d] O P := by
  rcases h with rfl | rfl
  · exact wpC_lenI seq_l p
  · refine wpC_lenT ?_
    rw [List.length_map]
    exact p
theorem w__law_is_row (h : sp__law_is_row K ds O k x) (lo : ∀ p ∈ O, p.loc = false) : wpS K W (fun e _ O' => x e O') (t__law_is_row K W) (startD N__law_is_row.length ds) O { nx := fun _ O' => k .non O', rt := k } := by
  obtain ⟨d, e, a, ⟨rfl, rfl⟩, hd, he, hl, hk⟩ := h
  unfold t__law_is_row
  walk_at "start"
  walk_at "w"
  refine hd.len ?_
  walk_at "w"
  refine he.len ?_
  walk_at "w"
  refine ⟨fun h => (by simp at h), fun _ => ?_⟩
  walk_at "w"
  refine wpS_seq ?_
  refine wpS_for1 2 (fun i q O' => O' = []) (as := List.range a.length) (enc := fun (i : Nat) => D.int (0 + (i : Int))) ?_
  walk_at "w"
  refine he.len ?_
  walk_at "w"
  refine ⟨⟨by omega, by omega⟩, rfl, rfl, fun _ _ _ _ _ => trivial, ?_, ?_⟩
  · intro i i' q O' hi hJ
    subst hJ
    obtain ⟨rfl, hi⟩ := range_get hi
    walk_at "w"
    walk_at "c0"
    refine hd.ix hi ?_
    walk_at "w"
    refine he.ix hi ?_
    walk_at "w"
    refine ⟨_, ⟨rfl, rfl⟩, ?_⟩
    walk_at "w"
    refine ⟨fun h => (by cases h), fun _ => ?_⟩
    walk_at "w"
  · intro q O' hJ
    subst hJ
    walk_at "wr"
    exact hk
theorem w__law_is_state (h : sp__law_is_state K ds O k x) (lo : ∀ p ∈ O, p.loc = false) : wpS K W (fun e _ O' => x e O') (t__law_is_state K W) (startD N__law_is_state.length ds) O { nx := fun _ O' => k .non O', rt := k } := by
  obtain ⟨gs, ⟨rfl, rfl⟩, v, hk⟩ := h
  have hl := v.len
  unfold t__law_is_state
  walk_at "start"
  walk_at "w"
  refine wpC_isC ?_
  walk_at "w"
  refine ⟨fun h => (by cases h), fun _ => ?_⟩
  walk_at "w"
  refine wpE_fz ?_
  walk_at "m0"
  refine ⟨gs, ⟨rfl, rfl⟩, by omega, fun c' => ⟨c', _, _, rfl, rfl, ?_⟩⟩
  walk_at "w"
  refine wpS_iteP (c := false) ?_ ⟨fun h => (by cases h), fun _ => ?_⟩
  · refine wpT_mono (wpT_orP (c1 := false) (c2 := false) ?_ fun _ => ?_) fun b O' h => h
    · walk_at "w"
      refine wpC_isi (.lst _) (b := true) (by decide +kernel) ?_
      walk_at "w"
      exact ⟨rfl, rfl⟩
    · walk_at "w"
      exact ⟨by simp [hl], rfl⟩
  walk_at "w"
  refine wpS_seq ?_
  refine wpS_for1 3 (fun i q O' => O' = []) (as := List.range 3) (enc := fun (i : Nat) => D.int (0 + (i : Int))) ?_
  walk_at "w"
  refine ⟨⟨by omega, by omega⟩, rfl, rfl, fun _ _ _ _ _ => trivial, ?_, ?_⟩
  · intro i i' q O' hi hJ
    subst hJ
    obtain ⟨rfl, hi⟩ := range_get hi
    have e : (0 + (i' : Int)).toNat = i' := by omega
    have hr := v.l12 hi
    walk_at "w"
    refine wpS_iteP (c := false) ?_ ⟨fun h => (by cases h), fun _ => ?_⟩
    · refine wpT_mono (wpT_orP (c1 := false) (c2 := false) ?_ fun _ => ?_) fun b O' h => h
      · walk_at "w"
        refine wpR_ixA (.inl seq_l) (rowD (by omega) (by omega)) ?_
        walk_at "w"
        refine wpC_isi (.lst _) (b := true) (by decide +kernel) ?_
        walk_at "w"
        exact ⟨rfl, rfl⟩
      · walk_at "w"
        walk_at "c0"
        refine wpR_ixA (.inl seq_l) (rowD (by omega) (by omega)) ?_
        walk_at "w"
        refine wpR_ixA (.inl seq_l) (rowD (by omega) (by omega)) ?_
        walk_at "w"
        rw [e]
        refine ⟨_, _, _, ⟨rfl, rfl⟩, .inl rfl, .inl rfl, by omega, ?_⟩
        walk_at "w"
        exact ⟨rfl, rfl⟩
    walk_at "w"
  · intro q O' hJ
    subst hJ
    walk_at "wr"
    exact hk
end
section
variable {K : PySem.W.Frag} {W : WX} {ds : List D} {O : Ow} {k : Kk} {x : Xk}
theorem w__law_quiet (h : sp__law_quiet K ds O k x) (lo : ∀ p ∈ O, p.loc = false) : wpS K W (fun e _ O' => x e O') (t__law_quiet K W) (startD N__law_quiet.length ds) O { nx := fun _ O' => k .non O', rt := k } := by
  obtain ⟨gs, ⟨h, i⟩, ⟨rfl, rfl⟩, v, hc, hk⟩ := h
  have hs := stepB_ok hc
  dsimp only at hs
  have hl := v.len
  have q := v.leq (h := h.toNat) (by omega)
  have e1 : ((h + 1) % 3).toNat = (h.toNat + 1) % 3 := by omega
  have e2 : ((h + 2) % 3).toNat = (h.toNat + 2) % 3 := by omega
  have e3 : (i + 1).toNat = i.toNat + 1 := by omega
  have m : ∀ j h', j ≤ i.toNat + 1 → h' < 3 → (row gs h.toNat).getD j 0 ∈ row gs h' := fun j h' hj hh => v.mem (h := h.toNat) (by omega) hh (by omega)
  unfold t__law_quiet
  walk_at "start"
  walk_at "w"
  refine wpR_ixA (.inl seq_l) (rowD (by omega) (by omega)) ?_
  walk_at "w"
  refine wpR_ixA (.inl seq_l) (rowD (by omega) (by omega)) ?_
  walk_at "w"
  refine wpR_ixA (.inl seq_l) (rowD (by omega) (by omega)) ?_
  walk_at "w"
  refine wpR_ixA (.inl seq_l) (rowD (by omega) (by omega)) ?_
  rw [e1, e2, e3]
  walk_at "wr"
  refine wpM_indexI seq_l (m _ _ (by omega) (by omega)) ?_
  walk_at "w"
  refine wpM_indexI seq_l (m _ _ (by omega) (by omega)) ?_
  walk_at "w"
  refine wpM_indexI seq_l (m _ _ (by omega) (by omega)) ?_
  walk_at "w"
  refine wpM_indexI seq_l (m _ _ (by omega) (by omega)) ?_
  walk_at "w"
  have es : sil gs (h, i) = decide (decide (((row gs ((h.toNat + 1) % 3)).idxOf ((row gs h.toNat).getD i.toNat 0) : Int) < ((row gs ((h.toNat + 1) % 3)).idxOf ((row gs h.toNat).getD (i.toNat + 1) 0) : Nat)) = decide (((row gs ((h.toNat + 2) % 3)).idxOf ((row gs h.toNat).getD i.toNat 0) : Int) < ((row gs ((h.toNat + 2) % 3)).idxOf ((row gs h.toNat).getD (i.toNat + 1) 0) : Nat))) := by
    show silB gs h.toNat i.toNat = _
    unfold silB sayB kx
    simp only [Int.ofNat_lt]
  rw [es] at hk
  exact hk
theorem w__law_swapped_v2 (h : sp__law_swapped_v2 K ds O k x) (lo : ∀ p ∈ O, p.loc = false) : wpS K W (fun e _ O' => x e O') (t__law_swapped_v2 K W) (startD N__law_swapped_v2.length ds) O { nx := fun _ O' => k .non O', rt := k } := by
  obtain ⟨gs, ⟨h, i⟩, ⟨rfl, rfl⟩, v, hc, hk⟩ := h
  have hs := stepB_ok hc
  dsimp only at hs
  have hl := v.len
  have q := v.leq (h := h.toNat) (by omega)
  have h12 := v.l12
  have e3 : (i + 1).toNat = i.toNat + 1 := by omega
  unfold t__law_swapped_v2
  walk_at "start"
  walk_at "w"
  refine wpR_ixA (.inl seq_l) (rowD (by omega) (by omega)) ?_
  walk_at "w"
  apply wpE_mapP (as := gs) (enc := L) (f := L) false (gIn_name (by decide)) gMono_name
  walk_at "w"
  refine ⟨_, seq_l, rfl, small1000 (by omega), seq_l, fun j o ho => ?_, ?_⟩
  · walk_at "w"
    refine ⟨rfl, ?_⟩
    walk_at "w"
    exact wpC_list true seq_l ⟨rfl, rfl⟩
  intro c _
  walk_at "w"
  refine wpE_slL true ?_
  walk_at "w"
  refine ⟨_, seq_l, ?_⟩
  have c1 : cutD ((row gs h.toNat).map D.int) none (some i) = ((row gs h.toNat).take i.toNat).map D.int := by
    have := cut_pre (ns := row gs h.toNat) (n := i.toNat) (by omega)
    rw [show ((i.toNat : Nat) : Int) = i by omega] at this
    exact this
  have c2 : cutD ((row gs h.toNat).map D.int) (some (i + 2)) none = ((row gs h.toNat).drop (i.toNat + 2)).map D.int := by
    have := cut_from (ns := row gs h.toNat) (n := i.toNat + 2) (by omega)
    rw [show ((i.toNat + 2 : Nat) : Int) = i + 2 by omega] at this
    exact this
  rw [c1]
  walk_at "w"
  refine wpE_lst true ?_
  walk_at "w"
  refine ⟨by show 2 ≤ sizeLine; decide, ?_⟩
  refine wpR_addL true lst_l lst_l (Nat.le_of_lt (small1000 (by simp; omega))) ?_
  walk_at "w"
  refine wpE_slL true ?_
  walk_at "w"
  refine ⟨_, seq_l, ?_⟩
  rw [c2]
  refine wpR_addL true lst_l lst_l (Nat.le_of_lt (small1000 (by simp; omega))) ?_
  walk_at "w"
  rw [e3]
  have ee : ∀ A B C : List D, A = ((row gs h.toNat).take i.toNat).map D.int → B = [D.int ((row gs h.toNat).getD (i.toNat + 1) 0), D.int ((row gs h.toNat).getD i.toNat 0)] → C = ((row gs h.toNat).drop (i.toNat + 2)).map D.int → (gs.map L).set h.toNat (D.lst (A ++ B ++ C)) = (sws gs (h, i)).map L := fun A B C e1 e2 e3 => by
    subst e1 e2 e3
    show _ = (gs.set h.toNat (exch (row gs h.toNat) i.toNat)).map L
    rw [List.map_set, ← exch_cut (o := row gs h.toNat) (i := i.toNat) (by omega)]
    show _ = (gs.map L).set h.toNat (D.lst (((row gs h.toNat).take i.toNat ++ [(row gs h.toNat).getD (i.toNat + 1) 0, (row gs h.toNat).getD i.toNat 0] ++ (row gs h.toNat).drop (i.toNat + 2)).map D.int))
    rw [List.map_append, List.map_append] <;> rfl
  rw [ee _ _ _ rfl rfl rfl]
  refine wpS_frz (i := 4) (j := 0) rfl rfl ?_
  walk_at "wr"
  exact hk
theorem w__law_silent_v2 (h : sp__law_silent_v2 K ds O k x) (lo : ∀ p ∈ O, p.loc = false) : wpS K W (fun e _ O' => x e O') (t__law_silent_v2 K W) (startD N__law_silent_v2.length ds) O { nx := fun _ O' => k .non O', rt := k } := by
  obtain ⟨gs, ⟨rfl, rfl⟩, v, hk⟩ := h
  have vl := v.len
  have v12 := v.l12
  unfold t__law_silent_v2
  walk_at "start"
  walk_at "w"
  refine wpE_lst false ?_
  walk_at "w"
  refine ⟨by decide, ?_⟩
  intro c _
  walk_at "w"
  refine wpS_seq ?_
  refine wpS_for2 2 3 (fun i q r O' => ∃ ws : List (Int × Int), O' = [⟨c, true, prs ws⟩] ∧ (∀ s ∈ ws, stepB gs s = true ∧ sil gs s = true) ∧ ws.length ≤ i * 12) (as := List.range 3) (enc := fun (i : Nat) => D.int (0 + (i : Int))) ?_
  walk_at "w"
  refine ⟨⟨by omega, by omega⟩, rfl, ⟨[], rfl, by simp, by simp⟩, fun _ _ _ _ _ _ => trivial, ?_, ?_⟩
  · intro i h q r O' hh hJ
    obtain ⟨rfl, hi⟩ := range_get hh
    obtain ⟨ws, rfl, hw, hwl⟩ := hJ
    walk_at "w"
    refine wpS_for1 3 (fun j q O' => ∃ ws : List (Int × Int), O' = [⟨c, true, prs ws⟩] ∧ (∀ s ∈ ws, stepB gs s = true ∧ sil gs s = true) ∧ ws.length ≤ h * 12 + j) (as := List.range ((row gs 0).length - 1 : Int).toNat) (enc := fun (i : Nat) => D.int (0 + (i : Int))) ?_
    walk_at "w"
    refine wpR_ixA (.inl seq_l) (rowD (by omega) (by omega)) ?_
    walk_at "w"
    refine ⟨⟨by omega, by omega⟩, rfl, ⟨ws, rfl, hw, by omega⟩, fun _ _ _ _ _ => trivial, ?_, ?_⟩
    · intro j j' q O' hj hJ
      obtain ⟨rfl, hj⟩ := range_get hj
      obtain ⟨ws, rfl, hw, hwl⟩ := hJ
      have hst : stepB gs (0 + (h : Int), 0 + (j' : Int)) = true := by
        unfold stepB
        simp only [Bool.and_eq_true, decide_eq_true_eq]
        omega
      walk_at "w"
      walk_at "c0"
      refine ⟨by show 2 ≤ sizeLine; decide, ?_⟩
      walk_at "w"
      refine ⟨gs, (0 + (h : Int), 0 + (j' : Int)), ⟨rfl, rfl⟩, v, hst, ?_⟩
      walk_at "w"
      refine ⟨fun hs => ?_, fun hs => ?_⟩
      · walk_at "w"
        refine ⟨by show 2 ≤ sizeLine; decide, ?_⟩
        walk_at "w"
        refine wpM_appendC (f := PyD.prD) (x := (0 + (h : Int), 0 + (j' : Int))) (j := 0) rfl rfl (small1000 (by omega)) ?_
        walk_at "w"
        refine ⟨fun s hs' => ?_, by simp; omega⟩
        rcases List.mem_append.mp hs' with hs' | hs'
        · exact hw s hs'
        · rw [List.mem_singleton.mp hs']
          exact ⟨hst, hs⟩
      · walk_at "w"
        exact ⟨hw, by omega⟩
    · intro q O' hJ
      obtain ⟨ws, rfl, hw, hwl⟩ := hJ
      rw [List.length_range] at hwl
      exact ⟨_, _, rfl, ws, rfl, hw, by omega⟩
  · intro q r O' hJ
    obtain ⟨ws, rfl, hw, hwl⟩ := hJ
    refine wpS_frz (i := 1) (j := 0) rfl rfl ?_
    walk_at "wr"
    exact hk ws hw (by simp at hwl; omega)
theorem w__law_after (h : sp__law_after K ds O k x) (lo : ∀ p ∈ O, p.loc = false) : wpS K W (fun e _ O' => x e O') (t__law_after K W) (startD N__law_after.length ds) O { nx := fun _ O' => k .non O', rt := k } := by
  obtain ⟨gs, sw, ⟨rfl, rfl⟩, v, ho, hk⟩ := h
  unfold t__law_after
  walk_at "start"
  walk_at "w"
  refine wpS_seq ?_
  refine wpS_for2 2 3 (fun i q r O' => O' = [] ∧ ∃ g, q = some (gD g) ∧ V3 g ∧ okR g (sw.drop i) ∧ endL g (sw.drop i) = endL gs sw) (as := sw) (enc := PyD.prD) ?_
  walk_at "w"
  refine ⟨_, seq_l, rfl, ⟨rfl, gs, rfl, v, ho, rfl⟩, fun _ _ _ _ _ _ => seq_l, ?_, ?_⟩
  · intro i s q r O' hg hJ
    obtain ⟨rfl, g, rfl, vg, og, eg⟩ := hJ
    rw [drop_cons hg] at og eg
    obtain ⟨o1, o2, o3⟩ := okR_cons og
    walk_at "w"
    walk_at "c0"
    exact ⟨g, s, ⟨rfl, rfl⟩, vg, o1, _, _, rfl, rfl, _, rfl, (vg.swp o1).1, o3, eg⟩
  · intro q r O' hJ
    obtain ⟨rfl, g, rfl, vg, og, eg⟩ := hJ
    rw [List.drop_length] at eg
    walk_at "wr"
    have eg : g = endL gs sw := eg
    rw [eg]
    exact hk
theorem atI_last {α : Type} {f : α → D} {xs : List α} {y : α} : atI ((xs ++ [y]).map f) (-1) = some (f y) := by
  have h1 : ¬(0 : Int) ≤ -1 := by decide
  have h2 : -(((xs ++ [y]).map f).length : Int) ≤ -1 := by simp; omega
  have h3 : ((-1 : Int) + (((xs ++ [y]).map f).length : Nat)).toNat = xs.length := by simp; omega
  unfold atI ixN
  rw [if_neg h1, if_pos h2]
  show ((xs ++ [y]).map f)[((-1 : Int) + (((xs ++ [y]).map f).length : Nat)).toNat]? = _
  rw [h3]
  simp
theorem w__law_walk_v2 (h : sp__law_walk_v2 K ds O k x) (lo : ∀ p ∈ O, p.loc = false) : wpS K W (fun e _ O' => x e O') (t__law_walk_v2 K W) (startD N__law_walk_v2.length ds) O { nx := fun _ O' => k .non O', rt := k } := by
  obtain ⟨b, d, gs, n, ⟨rfl, rfl⟩, hB, v, n0, n1, hk⟩ := h
  unfold t__law_walk_v2
  walk_at "start"
  walk_at "w"
  refine wpE_lst false ?_
  walk_at "w"
  refine ⟨by decide, ?_⟩
  intro c _
  walk_at "w"
  refine wpS_seq ?_
  refine wpS_for3 4 5 6 (fun i q r s O' => ∃ sw d, q = some (gD (endL gs sw)) ∧ O' = [⟨c, true, prs sw⟩, ⟨b, false, d⟩] ∧ Bx d ∧ okR gs sw ∧ sw.length ≤ i) (as := List.range n.toNat) (enc := fun (i : Nat) => D.int (0 + (i : Int))) ?_
  walk_at "w"
  refine ⟨⟨by omega, by omega⟩, rfl, ⟨[], d, rfl, rfl, hB, ⟨gs, rfl⟩, by simp⟩, fun _ _ _ _ _ _ _ => trivial, ?_, ?_⟩
  · intro i i' q r s O' hi hJ
    obtain ⟨rfl, hi⟩ := range_get hi
    obtain ⟨sw, d, rfl, rfl, hB, ho, hl⟩ := hJ
    obtain ⟨ve, _⟩ := endL_v3 v ho
    walk_at "w"
    walk_at "c0"
    refine ⟨_, ⟨rfl, rfl⟩, ve, fun ws hw hwl => ?_⟩
    walk_at "w"
    refine ⟨fun hc => ?_, fun hc => ?_⟩
    · have hp : 0 < ws.length := by
        cases ws with
        | nil => simp at hc
        | cons a l => simp
      walk_at "w"
      refine wpE_take (j := 1) rfl ?_
      walk_at "w"
      refine ⟨_, _, _, rfl, ⟨by simp; omega, by simp; omega⟩, rfl, hB, fun u d u0 u1 hB => ?_⟩
      rw [List.length_map] at u1
      obtain ⟨st, hst⟩ : ∃ st, ws[u.toNat]? = some st := ⟨_, List.getElem?_eq_getElem (by omega)⟩
      obtain ⟨w1, w2⟩ := hw st (List.mem_of_getElem? hst)
      refine wpR_ixA (.inl seq_l) (atI_nn u0 (y := PyD.prD st) (by rw [List.getElem?_map, hst] <;> rfl)) ?_
      walk_at "w"
      refine wpM_appendC (f := PyD.prD) (x := st) (j := 0) rfl rfl (small1000 (by omega)) ?_
      walk_at "w"
      walk_at "c0"
      have el : atI ((sw ++ [st]).map PyD.prD) (-1) = some (PyD.prD st) := atI_last
      refine wpR_ixA (.inl (seq_m (i := 0) rfl)) el ?_
      walk_at "w"
      refine ⟨_, st, ⟨rfl, rfl⟩, ve, w1, ?_⟩
      have e : sws (endL gs sw) st = endL gs (sw ++ [st]) := by
        rw [endL_append] <;> rfl
      exact ⟨_, _, _, rfl, sw ++ [st], _, by rw [← e], rfl, hB, okR_append.mpr ⟨ho, okR_mk w1 w2 ⟨_, rfl⟩⟩, by simp; omega⟩
    · walk_at "w"
      exact ⟨_, _, _, rfl, sw, d, rfl, rfl, hB, ho, by omega⟩
  · intro q r s O' hJ
    obtain ⟨sw, d, rfl, rfl, hB, ho, hl⟩ := hJ
    rw [List.length_range] at hl
    refine wpS_frz (i := 3) (j := 0) rfl rfl ?_
    walk_at "wr"
    exact hk sw d hB ho (by omega)
end
section
variable {K : PySem.W.Frag} {W : WX} {ds : List D} {O : Ow} {k : Kk} {x : Xk}
theorem vs_of {ks l0 l1 l2 : List Int} (hn : ks.Nodup) (hl : ks.length ≤ 12) (hr : ∀ z ∈ ks, 0 ≤ z ∧ z ≤ 6999) (p0 : l0.Perm ks) (p1 : l1.Perm ks) (p2 : l2.Perm ks) : VS [l0, l1, l2] := by
  have w : ∀ l : List Int, l.Perm ks → wrong l = none := fun l p => wrong_none fun j hj => by
    obtain ⟨z, hz⟩ : ∃ z, l[j]? = some z := ⟨_, List.getElem?_eq_getElem hj⟩
    have hm := hr z (p.mem_iff.mp (List.mem_of_getElem? hz))
    have hll := p.length_eq
    rw [bad_parts hz, decide_eq_false (by omega), decide_eq_false (by omega), decide_eq_false (by omega)]
    have nd : l.Nodup := p.nodup_iff.mpr hn
    have : z ∉ l.take j := fun hm => by
      obtain ⟨i, hi, e⟩ := List.getElem_of_mem hm
      rw [List.length_take] at hi
      rw [List.getElem_take] at e
      obtain ⟨_, hz⟩ := List.getElem?_eq_some_iff.mp hz
      exact (List.pairwise_iff_getElem.mp (List.nodup_iff_pairwise_ne.mp nd)) i j (by omega) hj (by omega) (e.trans hz.symm)
    rw [decide_eq_false this] <;> rfl
  refine ⟨rfl, fun o ho => ?_, fun o ho => ?_⟩
  · simp only [List.mem_cons, List.not_mem_nil, or_false] at ho
    rcases ho with rfl | rfl | rfl
    · exact w _ p0
    · exact w _ p1
    · exact w _ p2
  · show o.Perm l0
    simp only [List.mem_cons, List.not_mem_nil, or_false] at ho
    rcases ho with rfl | rfl | rfl
    · exact .refl _
    · exact p1.trans p0.symm
    · exact p2.trans p0.symm
theorem w__law_lists (h : sp__law_lists K ds O k x) (lo : ∀ p ∈ O, p.loc = false) : wpS K W (fun e _ O' => x e O') (t__law_lists K W) (startD N__law_lists.length ds) O { nx := fun _ O' => k .non O', rt := k } := by
  obtain ⟨b, d, ⟨rfl, rfl⟩, hB, hk⟩ := h
  unfold t__law_lists
  walk_at "start"
  walk_at "w"
  refine wpE_lst true ?_
  walk_at "w"
  refine ⟨by show 16 ≤ sizeLine; decide, ?_⟩
  refine wpE_take (j := 0) rfl ?_
  walk_at "w"
  refine ⟨_, _, _, rfl, ⟨by omega, by omega⟩, rfl, hB, fun u d u0 u1 hB => ?_⟩
  have tab : ∀ z ∈ ([3, 4, 5, 6, 3, 4, 5, 6, 4, 5, 2, 7, 0, 1, 9, 12] : List Int), 0 ≤ z ∧ z ≤ 12 := by decide
  show wpR K (rIxLT K) (L [3, 4, 5, 6, 3, 4, 5, 6, 4, 5, 2, 7, 0, 1, 9, 12]) (D.int u) _ _
  refine wpR_ixA (.inl seq_l) (atI_int u0 (by show u < 16; omega)) ?_
  have hc := tab _ (mem_getD (i := u.toNat) (by show u.toNat < 16; omega))
  generalize ([3, 4, 5, 6, 3, 4, 5, 6, 4, 5, 2, 7, 0, 1, 9, 12] : List Int).getD u.toNat 0 = n at hc ⊢
  clear tab
  walk_at "w"
  refine wpS_mid (fun G O => ∃ (n : Int) (d : D), G = [some (.mut b), some (.int n), none, none, none, none] ∧ O = [⟨b, false, d⟩] ∧ Bx d ∧ 0 ≤ n ∧ n ≤ 12) ?_ ?_
  · walk_at "w"
    refine ⟨fun h => ?_, fun h => ?_⟩
    · walk_at "w"
      refine wpE_take (j := 0) rfl ?_
      walk_at "w"
      refine ⟨_, _, _, rfl, ⟨by omega, by omega⟩, rfl, hB, fun u d u0 u1 hB => ?_⟩
      walk_at "w"
      exact ⟨_, _, rfl, rfl, hB, by omega, by omega⟩
    · walk_at "w"
      exact ⟨_, _, rfl, rfl, hB, hc.1, hc.2⟩
  rintro _ _ ⟨n, d, rfl, rfl, hB, n0, n1⟩
  walk_at "w"
  walk_at "c1"
  refine ⟨0, _, _, _, rfl, ⟨_, _, _, ⟨rfl, rfl⟩, hB, n0, n1, fun ks d hB hkl hkn hkb => ⟨[], _, rfl, ?_⟩⟩⟩
  walk_at "w"
  refine wpE_take (j := 0) rfl ?_
  walk_at "w"
  refine ⟨_, _, _, rfl, ⟨by omega, by omega⟩, rfl, hB, fun w d w0 w1 hB => ?_⟩
  walk_at "w"
  refine ⟨fun hw => ?_, fun hw => ?_⟩
  · walk_at "wr"
    refine wpE_lst true ?_
    walk_at "w"
    walk_at "c1"
    refine ⟨0, _, _, _, rfl, ⟨_, _, _, ⟨rfl, rfl⟩, hB, by omega, fun l1 d hB p1 => ⟨[], _, rfl, ?_⟩⟩⟩
    walk_at "w"
    walk_at "c1"
    refine ⟨0, _, _, _, rfl, ⟨_, _, _, ⟨rfl, rfl⟩, hB, by omega, fun l2 d hB p2 => ⟨[], _, rfl, ?_⟩⟩⟩
    walk_at "w"
    refine ⟨by show 3 ≤ sizeLine; decide, ?_⟩
    exact hk [ks, l1, l2] d hB (vs_of hkn (by omega) hkb (.refl _) p1 p2)
  walk_at "w"
  refine wpE_lst true ?_
  walk_at "w"
  refine wpC_list true seq_l ?_
  walk_at "w"
  refine wpC_list true seq_l ?_
  walk_at "w"
  refine wpC_list true seq_l ?_
  walk_at "w"
  refine ⟨by show 3 ≤ sizeLine; decide, ?_⟩
  have v0 : VS [ks, ks, ks] := vs_of hkn (by omega) hkb (.refl _) (.refl _) (.refl _)
  walk_at "w"
  refine wpS_mid (fun G O => ∃ (g : List (List Int)) (d : D), G = [some (.mut b), some (.int n), some (L ks), some (.int w), some (gD g), none] ∧ O = [⟨b, false, d⟩] ∧ Bx d ∧ VS g) ?_ ?_
  · refine wpS_iteP (c := decide (w = 1) && decide (2 < n)) ?_ ⟨fun hc => ?_, fun hc => ?_⟩
    · refine wpT_mono (wpT_andP (c1 := decide (w = 1)) (c2 := decide (2 < n)) ?_ fun _ => ?_) fun b O' h => h
      · walk_at "w"
        exact ⟨rfl, rfl⟩
      · walk_at "w"
        exact ⟨rfl, rfl⟩
    · simp only [Bool.and_eq_true, decide_eq_true_eq] at hc
      walk_at "w"
      walk_at "c1"
      refine ⟨0, _, _, _, rfl, ⟨_, _, _, ⟨rfl, rfl⟩, hB, by omega, by omega, fun l0 l1 l2 d hB p0 p1 p2 => ⟨[], _, rfl, ?_⟩⟩⟩
      exact ⟨_, _, rfl, rfl, hB, vs_of hkn (by omega) hkb p0 p1 p2⟩
    · walk_at "w"
      exact ⟨[ks, ks, ks], d, rfl, rfl, hB, v0⟩
  rintro _ _ ⟨g, d, rfl, rfl, hB, vg⟩
  walk_at "w"
  refine wpE_lst true ?_
  walk_at "w"
  refine ⟨by show 12 ≤ sizeLine; decide, ?_⟩
  refine wpE_take (j := 0) rfl ?_
  walk_at "w"
  refine ⟨_, _, _, rfl, ⟨by omega, by omega⟩, rfl, hB, fun u d u0 u1 hB => ?_⟩
  have tab : ∀ z ∈ ([0, 1, 2, 3, 4, 5, 6, 8, 10, 12, 16, 24] : List Int), 0 ≤ z ∧ z ≤ 24 := by decide
  show wpR K (rIxLT K) (L [0, 1, 2, 3, 4, 5, 6, 8, 10, 12, 16, 24]) (D.int u) _ _
  refine wpR_ixA (.inl seq_l) (atI_int u0 (by show u < 12; omega)) ?_
  have hm := tab _ (mem_getD (i := u.toNat) (by show u.toNat < 12; omega))
  generalize ([0, 1, 2, 3, 4, 5, 6, 8, 10, 12, 16, 24] : List Int).getD u.toNat 0 = m at hm ⊢
  clear tab
  walk_at "w"
  walk_at "wr"
  walk_at "c0"
  walk_at "c1"
  refine ⟨0, _, _, _, rfl, ⟨_, _, _, _, ⟨rfl, rfl⟩, hB, vg.v3, by omega, by omega, fun sw d hB ho hl => ⟨[], _, rfl, ?_⟩⟩⟩
  walk_at "w"
  exact ⟨g, sw, ⟨rfl, rfl⟩, vg.v3, ho, hk _ d hB (vg.fin ho).1⟩
end
theorem wpE_dnewT {K : PySem.W.Frag} {W : WX} {ex : Ek} {G : Gm} {O : Ow} {P : D → Ow → Prop} (p : ∀ a, (∀ q ∈ O, q.a ≠ a) → P (.mut a) (⟨a, true, .dT []⟩ :: O)) : wpE K W ex tDNewT G O P := fun Z F H σ X S s Q q a ha =>
  q _ _ F _ _ (S.new _ (.dT []) ha ⟨[], upd_same, rfl, .nil⟩) (Ex.refl F) (.mut a) (p a (S.freshO ha))
section
variable {K : PySem.W.Frag} {W : WX} {ds : List D} {O : Ow} {k : Kk} {x : Xk}
def encP (p : Int × Int) : List Key × D := ([.inl p.1, .inl p.2], .bl true)
def wrow (o : List Int) (i : Nat) : List (Int × Int) := (o.drop (i + 1)).map fun y => (o.getD i 0, y)
def wpre (o : List Int) (i : Nat) : List (Int × Int) := (List.range i).flatMap (wrow o)
theorem pair_put {l : List (Int × Int)} {p : Int × Int} (h : p ∉ l) : putD (l.map encP) [Sum.inl p.1, Sum.inl p.2] (.bl true) = (l ++ [p]).map encP := by
  unfold putD
  have : (l.map encP).any (fun kv => decide (kv.1 = [Sum.inl p.1, Sum.inl p.2])) = false := by
    rw [List.any_eq_false]
    intro kv hkv
    obtain ⟨y, hy, rfl⟩ := List.mem_map.mp hkv
    simp only [decide_eq_true_eq]
    intro e
    have e : [(Sum.inl y.1 : Key), Sum.inl y.2] = [Sum.inl p.1, Sum.inl p.2] := e
    simp only [List.cons.injEq, Sum.inl.injEq, and_true] at e
    exact h (by rw [← show y = p from Prod.ext e.1 e.2]; exact hy)
  rw [this, if_neg (by decide), List.map_append] <;> rfl
theorem get_inj {o : List Int} (nd : o.Nodup) {i j : Nat} (hi : i < o.length) (hj : j < o.length) (e : o.getD i 0 = o.getD j 0) : i = j := by
  rw [List.getD_eq_getElem?_getD, List.getD_eq_getElem?_getD, List.getElem?_eq_getElem hi, List.getElem?_eq_getElem hj] at e
  have e : o[i] = o[j] := e
  have pw := List.pairwise_iff_getElem.mp (List.nodup_iff_pairwise_ne.mp nd)
  rcases Nat.lt_trichotomy i j with h | h | h
  · exact absurd e (pw i j hi hj h)
  · exact h
  · exact absurd e.symm (pw j i hj hi h)
theorem w_new {o : List Int} (nd : o.Nodup) {i j : Nat} (hj : i + 1 + j < o.length) : (o.getD i 0, o.getD (i + 1 + j) 0) ∉ wpre o i ++ (wrow o i).take j := by
  intro h
  rcases List.mem_append.mp h with h | h
  · obtain ⟨i', hi', hm⟩ := List.mem_flatMap.mp h
    obtain ⟨y, hy, e⟩ := List.mem_map.mp hm
    have hi' := List.mem_range.mp hi'
    have := get_inj nd (by omega) (by omega) (congrArg Prod.fst e)
    omega
  · obtain ⟨j', hj', e⟩ := List.getElem_of_mem h
    rw [List.length_take] at hj'
    have hw : (wrow o i).length = o.length - (i + 1) := by unfold wrow; rw [List.length_map, List.length_drop]
    rw [List.getElem_take] at e
    unfold wrow at e
    rw [List.getElem_map, List.getElem_drop] at e
    have e2 : o[i + 1 + j'] = o.getD (i + 1 + j) 0 := congrArg Prod.snd e
    have := get_inj nd (i := i + 1 + j') (j := i + 1 + j) (by omega) hj (by rw [← e2, List.getD_eq_getElem?_getD, List.getElem?_eq_getElem (by omega)] <;> rfl)
    omega
theorem wrow_len {o : List Int} {i : Nat} : (wrow o i).length = o.length - (i + 1) := by unfold wrow; rw [List.length_map, List.length_drop]
theorem wpre_succ {o : List Int} {i : Nat} : wpre o (i + 1) = wpre o i ++ wrow o i := by
  unfold wpre
  rw [List.range_succ, List.flatMap_append]
  simp
theorem wpre_len {o : List Int} {i : Nat} : (wpre o i).length ≤ i * o.length := by
  induction i with
  | zero => simp [wpre]
  | succ i ih =>
    rw [wpre_succ, List.length_append, wrow_len, Nat.succ_mul]
    omega
theorem w__law_words (h : sp__law_words K ds O k x) (lo : ∀ p ∈ O, p.loc = false) : wpS K W (fun e _ O' => x e O') (t__law_words K W) (startD N__law_words.length ds) O { nx := fun _ O' => k .non O', rt := k } := by
  obtain ⟨o, ⟨rfl, rfl⟩, nd, hl, hk⟩ := h
  unfold t__law_words
  walk_at "start"
  walk_at "w"
  refine wpE_dnewT ?_
  intro c _
  walk_at "w"
  refine wpS_seq ?_
  refine wpS_for2 2 3 (fun i q r O' => O' = [⟨c, true, .dT ((wpre o i).map encP)⟩]) (as := List.range o.length) (enc := fun (i : Nat) => D.int (0 + (i : Int))) ?_
  walk_at "w"
  refine ⟨⟨by omega, by omega⟩, rfl, rfl, fun _ _ _ _ _ _ => trivial, ?_, ?_⟩
  · intro i i' q r O' hh hJ
    obtain ⟨rfl, hi⟩ := range_get hh
    subst hJ
    have hpl := wpre_len (o := o) (i := i')
    walk_at "w"
    refine wpS_for1 3 (fun j q O' => O' = [⟨c, true, .dT ((wpre o i' ++ (wrow o i').take j).map encP)⟩]) (as := List.range (o.length - (i' + 1))) (enc := fun (j : Nat) => D.int (0 + (i' : Int) + 1 + (j : Int))) ?_
    walk_at "w"
    refine ⟨_, _, rfl, ⟨by omega, by omega, by omega, by omega⟩, ?_, by rw [List.take_zero, List.append_nil], fun _ _ _ _ _ => trivial, ?_, ?_⟩
    · rw [show ((o.length : Int) - (0 + (i' : Int) + 1)).toNat = o.length - (i' + 1) by omega] <;> rfl
    · intro j j' q O' hj hJ
      obtain ⟨rfl, hj⟩ := range_get hj
      subst hJ
      have ej : (0 + (i' : Int) + 1 + (j' : Int)).toNat = i' + 1 + j' := by omega
      have ei : (0 + (i' : Int)).toNat = i' := by omega
      have ht : ((wrow o i').take j').length ≤ o.length := by rw [List.length_take]; omega
      have hmm : i' * o.length ≤ 12 * 12 := Nat.mul_le_mul (by omega) hl
      refine wpG_name ?_
      refine wpS_dputT ?_
      walk_at "w"
      refine ⟨by show 2 ≤ sizeLine; decide, ?_⟩
      rw [ej, ei]
      refine ⟨0, c, true, _, [.inl (o.getD i' 0), .inl (o.getD (i' + 1 + j') 0)], rfl, rfl, rfl, small1000 (by rw [List.length_map, List.length_append]; omega), _, rfl, ?_⟩
      have hx : (wrow o i')[j']? = some (o.getD i' 0, o.getD (i' + 1 + j') 0) := by
        unfold wrow
        rw [List.getElem?_map, List.getElem?_drop, List.getElem?_eq_getElem (by omega), List.getD_eq_getElem?_getD (l := o) (i := i' + 1 + j'), List.getElem?_eq_getElem (by omega)] <;> rfl
      have e : (wrow o i').take (j' + 1) = (wrow o i').take j' ++ [(o.getD i' 0, o.getD (i' + 1 + j') 0)] := by
        rw [List.take_succ, hx] <;> rfl
      rw [e, ← List.append_assoc, ← pair_put (p := (o.getD i' 0, o.getD (i' + 1 + j') 0)) (w_new nd (by omega))] <;> rfl
    · intro q O' hJ
      refine ⟨_, _, rfl, ?_⟩
      rw [hJ, wpre_succ, List.length_range, List.take_of_length_le (by rw [wrow_len]; exact Nat.le_refl _)]
  · intro q r O' hJ
    subst hJ
    walk_at "wr"
    rw [List.length_range]
    exact hk c
end
theorem gd_el {o : List Int} {i : Nat} (h : i < o.length) : o.getD i 0 = o[i] := by
  rw [List.getD_eq_getElem?_getD, List.getElem?_eq_getElem h] <;> rfl
theorem gd_idx {o : List Int} (nd : o.Nodup) {i : Nat} (h : i < o.length) : o.idxOf (o.getD i 0) = i := by
  rw [gd_el h]; exact nd.idxOf_getElem i h
theorem gd_of {o : List Int} {x : Int} (h : x ∈ o) : o.getD (o.idxOf x) 0 = x := by
  rw [gd_el (List.idxOf_lt_length_iff.mpr h)]; exact List.getElem_idxOf _
theorem least_of {p : Nat → Prop} : (∃ n, p n) → ∃ n, p n ∧ ∀ m, m < n → ¬ p m := fun ⟨n, hn⟩ => by
  induction n using Nat.strongRecOn with
  | _ n ih =>
    by_cases h : ∃ m, m < n ∧ p m
    · obtain ⟨m, hm, hp⟩ := h
      exact ih m hm hp
    · exact ⟨n, hn, fun m hm hp => h ⟨m, hm, hp⟩⟩
theorem gr_ex {b : List Int} (hb : b.Nodup) : ∀ (n : Nat) (o : List Int), invN (o.map b.idxOf) = n → o.Perm b → ∃ sw, Gr b o sw := fun n => by
  induction n using Nat.strongRecOn with
  | _ n ih =>
    intro o hn hp
    by_cases h : ∃ j, j + 1 < o.length ∧ b.idxOf (o.getD (j + 1) 0) < b.idxOf (o.getD j 0)
    · obtain ⟨i, ⟨hi, ht⟩, hm⟩ := least_of h
      have he := inv_exch b.idxOf o i hi ht
      obtain ⟨sw, hg⟩ := ih _ (by omega) (exch o i) rfl ((exch_perm o i hi).trans hp)
      exact ⟨_, .step ⟨hi, ht, fun j hj q => hm j hj ⟨by omega, q⟩⟩ hg⟩
    · have := no_turn hb hp fun j hj q => h ⟨j, hj, q⟩
      subst this
      exact ⟨[], .done⟩
/-- pairs that stand otherwise -/
def Inv (r o : List Int) (x y : Int) : Prop := x ∈ r ∧ y ∈ r ∧ r.idxOf x < r.idxOf y ∧ o.idxOf y < o.idxOf x
/-- the two others agree -/
def agr (gs : List (List Int)) (h : Nat) (x y : Int) : Prop := sayB (row gs ((h + 1) % 3)) x y = sayB (row gs ((h + 2) % 3)) x y
theorem row_self {gs : List (List Int)} (hl : gs.length = 3) {h : Nat} (hh : h < 3) {a : List Int} : row (gs.set h a) h = a := by rw [row_set (by omega), if_pos rfl]
theorem row_other {gs : List (List Int)} (hl : gs.length = 3) {h j : Nat} (hh : h < 3) (hj : h ≠ j) {a : List Int} : row (gs.set h a) j = row gs j := by rw [row_set (by omega), if_neg hj]
theorem words_mem {o : List Int} (nd : o.Nodup) {x y : Int} : (x, y) ∈ wordsL o ↔ x ∈ o ∧ y ∈ o ∧ o.idxOf x < o.idxOf y := by
  unfold wordsL
  rw [List.mem_flatMap]
  constructor
  · rintro ⟨i, hi, hm⟩
    have hi := List.mem_range.mp hi
    obtain ⟨z, hz, e⟩ := List.mem_map.mp hm
    obtain ⟨k, hk, ek⟩ := List.getElem_of_mem hz
    rw [List.length_drop] at hk
    rw [List.getElem_drop] at ek
    have e1 : o.getD i 0 = x := congrArg Prod.fst e
    have e2 : z = y := congrArg Prod.snd e
    rw [e2, ← gd_el (by omega)] at ek
    refine ⟨e1 ▸ mem_getD hi, ek ▸ mem_getD (by omega), ?_⟩
    rw [← e1, ← ek, gd_idx nd hi, gd_idx nd (by omega)]
    omega
  · rintro ⟨hx, hy, hl⟩
    have h1 := List.idxOf_lt_length_iff.mpr hx
    have h2 := List.idxOf_lt_length_iff.mpr hy
    refine ⟨o.idxOf x, List.mem_range.mpr h1, List.mem_map.mpr ⟨y, ?_, by rw [gd_of hx]⟩⟩
    have : (o.drop (o.idxOf x + 1))[o.idxOf y - (o.idxOf x + 1)]? = some y := by
      rw [List.getElem?_drop, show o.idxOf x + 1 + (o.idxOf y - (o.idxOf x + 1)) = o.idxOf y by omega, List.getElem?_eq_getElem h2, List.getElem_idxOf]
    exact List.mem_of_getElem? this
theorem words_say {o ks : List Int} (nd : o.Nodup) (hp : o.Perm ks) {x y : Int} (hx : x ∈ ks) (hy : y ∈ ks) : decide ((x, y) ∈ wordsL o) = sayB o x y := by
  unfold sayB
  rw [decide_eq_decide, words_mem nd]
  exact ⟨fun h => h.2.2, fun h => ⟨hp.mem_iff.mpr hx, hp.mem_iff.mpr hy, h⟩⟩
def maj (p q r : Bool) : Bool := p && q || (p && r || q && r)
theorem maj_cnt {α : Type} (f : α → Bool) (a b c : α) : decide (1 < ([a, b, c].filter f).length) = maj (f a) (f b) (f c) := by
  cases ha : f a <;> cases hb : f b <;> cases hc : f c <;> simp [List.filter, ha, hb, hc, maj]
theorem fl_eq {ks : List Int} {f g : Int → Int → Bool} : (ks.flatMap fun x => (ks.filter (f x)).map fun y => (x, y)) = (ks.flatMap fun x => (ks.filter (g x)).map fun y => (x, y)) ↔ ∀ x y, x ∈ ks → y ∈ ks → f x y = g x y := by
  have m : ∀ (f : Int → Int → Bool) x y, (x, y) ∈ (ks.flatMap fun x => (ks.filter (f x)).map fun y => (x, y)) ↔ x ∈ ks ∧ y ∈ ks ∧ f x y = true := fun f x y => by
    rw [List.mem_flatMap]
    constructor
    · rintro ⟨z, hz, hm⟩
      obtain ⟨w, hw, e⟩ := List.mem_map.mp hm
      cases e
      exact ⟨hz, (List.mem_filter.mp hw).1, (List.mem_filter.mp hw).2⟩
    · rintro ⟨hx, hy, h⟩
      exact ⟨x, hx, List.mem_map.mpr ⟨y, List.mem_filter.mpr ⟨hy, h⟩, rfl⟩⟩
  constructor
  · intro e x y hx hy
    have h1 := m f x y
    rw [e] at h1
    have h2 := h1.symm.trans (m g x y)
    have h3 : f x y = true ↔ g x y = true := ⟨fun q => (h2.mp ⟨hx, hy, q⟩).2.2, fun q => (h2.mpr ⟨hx, hy, q⟩).2.2⟩
    exact Bool.eq_iff_iff.mpr h3
  · intro e
    have c : ∀ l : List Int, (∀ x ∈ l, x ∈ ks) → (l.flatMap fun x => (ks.filter (f x)).map fun y => (x, y)) = l.flatMap fun x => (ks.filter (g x)).map fun y => (x, y) := fun l => by
      induction l with
      | nil => intro _; rfl
      | cons x l ih =>
        intro hl
        rw [List.flatMap_cons, List.flatMap_cons, ih fun z hz => hl z (List.mem_cons_of_mem _ hz), List.filter_congr fun y hy => e x y (hl x List.mem_cons_self) hy]
    exact c ks fun x hx => hx
theorem inv_or {r o ks : List Int} {p : Int → Int → Bool} {q : Int → Int → Bool} (hr : r.Perm ks) (ho : o.Perm ks) (sp : ∀ x y, x ∈ ks → y ∈ ks → x ≠ y → (p x y = q x y ↔ p y x = q y x)) :
    (∀ x y, x ∈ ks → y ∈ ks → (sayB r x y = sayB o x y ∨ p x y = q x y)) ↔ ∀ x y, Inv r o x y → p x y = q x y := by
  constructor
  · rintro h x y ⟨hx, hy, a, b⟩
    refine (h x y (hr.mem_iff.mp hx) (hr.mem_iff.mp hy)).resolve_left fun e => ?_
    unfold sayB at e
    rw [decide_eq_true a, decide_eq_false (by omega)] at e
    cases e
  · intro h x y hx hy
    by_cases e : x = y
    · left
      subst e
      unfold sayB
      simp
    have hx' := hr.mem_iff.mpr hx
    have hy' := hr.mem_iff.mpr hy
    have n1 : r.idxOf x ≠ r.idxOf y := fun w => e (idx_inj hx' hy' w)
    have n2 : o.idxOf x ≠ o.idxOf y := fun w => e (idx_inj (ho.mem_iff.mpr hx) (ho.mem_iff.mpr hy) w)
    by_cases a : r.idxOf x < r.idxOf y
    · by_cases b : o.idxOf x < o.idxOf y
      · left
        unfold sayB
        rw [decide_eq_true a, decide_eq_true b]
      · right
        exact h x y ⟨hx', hy', a, by omega⟩
    · by_cases b : o.idxOf x < o.idxOf y
      · right
        exact (sp x y hx hy e).mpr (h y x ⟨hy', hx', by omega, b⟩)
      · left
        unfold sayB
        rw [decide_eq_false a, decide_eq_false b]
theorem say_turn {o ks : List Int} (hp : o.Perm ks) {x y : Int} (hx : x ∈ ks) (hy : y ∈ ks) (e : x ≠ y) : sayB o y x = !sayB o x y := by
  have n : o.idxOf x ≠ o.idxOf y := fun w => e (idx_inj (hp.mem_iff.mpr hx) (hp.mem_iff.mpr hy) w)
  unfold sayB
  by_cases a : o.idxOf x < o.idxOf y
  · rw [decide_eq_true a, decide_eq_false (by omega)] <;> rfl
  · rw [decide_eq_false a, decide_eq_true (by omega)] <;> rfl
theorem srt_eq {a b : List Int} (h : a.Perm b) : srt a = srt b := srt_uniq ((srt_perm a).trans h) (srt_sorted a)
theorem srt_mem {a : List Int} {x : Int} : x ∈ srt a ↔ x ∈ a := (srt_perm a).mem_iff
theorem maj_iff : ∀ p q a b : Bool, (maj p a b = maj q a b ↔ (p = q ∨ a = b)) ∧ (maj a p b = maj a q b ↔ (p = q ∨ b = a)) ∧ (maj a b p = maj a b q ↔ (p = q ∨ a = b)) := by decide
theorem read_iff {gs : List (List Int)} (v : VS gs) {h : Nat} (hh : h < 3) {o : List Int} (hp : o.Perm (row gs 0)) : readL (gs.set h o) = readL gs ↔ ∀ x y, Inv (row gs h) o x y → agr gs h x y := by
  have v0 := (v.row (h := 0) (by omega)).2
  have v1 := (v.row (h := 1) (by omega)).2
  have v2 := (v.row (h := 2) (by omega)).2
  have n0 := v.nd (h := 0) (by omega)
  have n1 := v.nd (h := 1) (by omega)
  have n2 := v.nd (h := 2) (by omega)
  have no : o.Nodup := hp.nodup_iff.mpr n0
  obtain ⟨a, b, c, rfl⟩ := v.three
  have eo : srt o = srt a := srt_eq hp
  have sp : ∀ {p q : List Int}, p.Perm a → q.Perm a → ∀ x y, x ∈ a → y ∈ a → x ≠ y → (sayB p x y = sayB q x y ↔ sayB p y x = sayB q y x) := fun hp hq x y hx hy e => by
    rw [say_turn hp hx hy e, say_turn hq hx hy e]
    constructor
    · intro w; rw [w]
    · intro w; exact Bool.not_inj w
  have key : ∀ (a' b' c' : List Int), a'.Perm a → b'.Perm a → c'.Perm a → srt a' = srt a → readL [a', b', c'] = (srt a).flatMap fun x => ((srt a).filter fun y => decide (1 < ([a', b', c'].filter fun o => decide ((x, y) ∈ wordsL o)).length)).map fun y => (x, y) := fun a' b' c' _ _ _ e => by
    show ((srt a').flatMap fun x => ((srt a').filter fun y => decide (1 < ([a', b', c'].filter fun o => decide ((x, y) ∈ wordsL o)).length)).map fun y => (x, y)) = _
    rw [e]
  have hcnt : ∀ (a' b' c' : List Int), a'.Perm a → b'.Perm a → c'.Perm a → ∀ x y, x ∈ srt a → y ∈ srt a → decide (1 < ([a', b', c'].filter fun o => decide ((x, y) ∈ wordsL o)).length) = maj (sayB a' x y) (sayB b' x y) (sayB c' x y) := fun a' b' c' pa pb pc x y hx hy => by
    have hx := srt_mem.mp hx
    have hy := srt_mem.mp hy
    rw [maj_cnt (fun o => decide ((x, y) ∈ wordsL o)), words_say (pa.nodup_iff.mpr n0) pa hx hy, words_say (pb.nodup_iff.mpr n0) pb hx hy, words_say (pc.nodup_iff.mpr n0) pc hx hy]
  have v1 : b.Perm a := v1
  have v2 : c.Perm a := v2
  have hp : o.Perm a := hp
  have h3 : h = 0 ∨ h = 1 ∨ h = 2 := by omega
  rcases h3 with rfl | rfl | rfl
  · show readL [o, b, c] = readL [a, b, c] ↔ ∀ x y, Inv a o x y → sayB b x y = sayB c x y
    rw [key o b c hp v1 v2 eo, key a b c (.refl _) v1 v2 rfl, fl_eq, ← inv_or (p := sayB b) (q := sayB c) (.refl a) hp (sp v1 v2)]
    constructor
    · intro w x y hx hy
      have := w x y (srt_mem.mpr hx) (srt_mem.mpr hy)
      rw [hcnt _ _ _ hp v1 v2 x y (srt_mem.mpr hx) (srt_mem.mpr hy), hcnt _ _ _ (.refl a) v1 v2 x y (srt_mem.mpr hx) (srt_mem.mpr hy)] at this
      exact ((maj_iff _ _ _ _).1.mp this).imp Eq.symm id
    · intro w x y hx hy
      rw [hcnt _ _ _ hp v1 v2 x y hx hy, hcnt _ _ _ (.refl a) v1 v2 x y hx hy]
      exact (maj_iff _ _ _ _).1.mpr ((w x y (srt_mem.mp hx) (srt_mem.mp hy)).imp Eq.symm id)
  · show readL [a, o, c] = readL [a, b, c] ↔ ∀ x y, Inv b o x y → sayB c x y = sayB a x y
    rw [key a o c (.refl _) hp v2 rfl, key a b c (.refl _) v1 v2 rfl, fl_eq, ← inv_or (p := sayB c) (q := sayB a) v1 hp (sp v2 (.refl _))]
    constructor
    · intro w x y hx hy
      have := w x y (srt_mem.mpr hx) (srt_mem.mpr hy)
      rw [hcnt _ _ _ (.refl a) hp v2 x y (srt_mem.mpr hx) (srt_mem.mpr hy), hcnt _ _ _ (.refl a) v1 v2 x y (srt_mem.mpr hx) (srt_mem.mpr hy)] at this
      exact ((maj_iff _ _ _ _).2.1.mp this).imp Eq.symm id
    · intro w x y hx hy
      rw [hcnt _ _ _ (.refl a) hp v2 x y hx hy, hcnt _ _ _ (.refl a) v1 v2 x y hx hy]
      exact (maj_iff _ _ _ _).2.1.mpr ((w x y (srt_mem.mp hx) (srt_mem.mp hy)).imp Eq.symm id)
  · show readL [a, b, o] = readL [a, b, c] ↔ ∀ x y, Inv c o x y → sayB a x y = sayB b x y
    rw [key a b o (.refl _) v1 hp rfl, key a b c (.refl _) v1 v2 rfl, fl_eq, ← inv_or (p := sayB a) (q := sayB b) v2 hp (sp (.refl _) v1)]
    constructor
    · intro w x y hx hy
      have := w x y (srt_mem.mpr hx) (srt_mem.mpr hy)
      rw [hcnt _ _ _ (.refl a) v1 hp x y (srt_mem.mpr hx) (srt_mem.mpr hy), hcnt _ _ _ (.refl a) v1 v2 x y (srt_mem.mpr hx) (srt_mem.mpr hy)] at this
      exact ((maj_iff _ _ _ _).2.2.mp this).imp Eq.symm id
    · intro w x y hx hy
      rw [hcnt _ _ _ (.refl a) v1 hp x y hx hy, hcnt _ _ _ (.refl a) v1 v2 x y hx hy]
      exact (maj_iff _ _ _ _).2.2.mpr ((w x y (srt_mem.mp hx) (srt_mem.mp hy)).imp Eq.symm id)
theorem res2_parts {a b : List Int} (h : res2 a b = .ok) : wrong a = none ∧ wrong b = none ∧ a.Perm b := by
  unfold res2 at h
  cases ea : wrong a with
  | some p => rw [ea] at h; cases h
  | none =>
    rw [ea] at h
    dsimp only at h
    cases eb : wrong b with
    | some p => rw [eb] at h; cases h
    | none =>
      rw [eb] at h
      dsimp only at h
      cases eu : unlK a b with
      | some m => rw [eu] at h; cases h
      | none => exact ⟨rfl, rfl, same_perm ea eb eu⟩
theorem res2_of {a b : List Int} (ha : wrong a = none) (hb : wrong b = none) (hp : a.Perm b) : res2 a b = .ok := by
  unfold res2
  rw [ha]
  dsimp only
  rw [hb]
  dsimp only
  rw [unl_nil] <;> try rfl
  have e : ∀ p q : List Int, (∀ z ∈ p, z ∈ q) → only p q = [] := fun p q h => List.filter_eq_nil_iff.mpr fun z hz => by simp [h z hz]
  rw [e a b fun z hz => hp.mem_iff.mp hz, e b a fun z hz => hp.mem_iff.mpr hz] <;> rfl
/-- a rewrite with the right keys -/
structure Fit (gs : List (List Int)) (h : Int) (o : List Int) : Prop where
  v : VS gs
  hh : 0 ≤ h ∧ h < 3
  e : res2 (row gs h.toNat) o = .ok
theorem Fit.ho {gs : List (List Int)} {h : Int} {o : List Int} (f : Fit gs h o) : wrong o = none := (res2_parts f.e).2.1
theorem Fit.hp {gs : List (List Int)} {h : Int} {o : List Int} (f : Fit gs h o) : (row gs h.toNat).Perm o := (res2_parts f.e).2.2
theorem Fit.hp0 {gs : List (List Int)} {h : Int} {o : List Int} (f : Fit gs h o) : o.Perm (row gs 0) := f.hp.symm.trans (f.v.row (h := h.toNat) (by have := f.hh; omega)).2
theorem Fit.nd {gs : List (List Int)} {h : Int} {o : List Int} (f : Fit gs h o) : o.Nodup := wrong_nodup f.ho
theorem Fit.ex {gs : List (List Int)} {h : Int} {o : List Int} (f : Fit gs h o) : ∃ sw, Gr o (row gs h.toNat) sw := gr_ex f.nd _ _ rfl f.hp
theorem Fit.vs {gs : List (List Int)} {h : Int} {o : List Int} (f : Fit gs h o) : VS (gs.set h.toNat o) := f.v.set (by have := f.hh; omega) f.ho f.hp0
theorem Fit.row {gs : List (List Int)} {h : Int} {o : List Int} (f : Fit gs h o) : Q.row (gs.set h.toNat o) h.toNat = o := row_self f.v.len (by have := f.hh; omega)
section
variable {K : PySem.W.Frag} {W : WX} {ds : List D} {O : Ow} {k : Kk} {x : Xk}
theorem pair_val (l : List (Int × Int)) (p : Int × Int) : (valD (l.map encP) [Sum.inl p.1, Sum.inl p.2]).isSome = decide (p ∈ l) := by
  unfold valD
  induction l with
  | nil => rfl
  | cons y l ih =>
    rw [List.map_cons, List.find?_cons]
    by_cases h : y = p
    · subst h
      simp [encP]
    · have h1 : decide ((encP y).1 = [Sum.inl p.1, Sum.inl p.2]) = false := decide_eq_false fun e => h (by
        have e : [(Sum.inl y.1 : Key), Sum.inl y.2] = [Sum.inl p.1, Sum.inl p.2] := e
        simp only [List.cons.injEq, Sum.inl.injEq, and_true] at e
        exact Prod.ext e.1 e.2)
      rw [h1]
      dsimp only
      rw [ih]
      have : (p ∈ y :: l) ↔ p ∈ l := by
        rw [List.mem_cons]
        exact ⟨fun q => q.resolve_left fun e => h e.symm, .inr⟩
      simp only [this]
theorem words_val (o : List Int) (p : Int × Int) : (valD (wordsD o) [Sum.inl p.1, Sum.inl p.2]).isSome = decide (p ∈ wordsL o) := pair_val (wordsL o) p
theorem fl_len {ks : List Int} {f : Int → Int → Bool} : ∀ l : List Int, (l.flatMap fun x => (ks.filter (f x)).map fun y => (x, y)).length ≤ l.length * ks.length
  | [] => by simp
  | x :: l => by
    rw [List.flatMap_cons, List.length_append, List.length_map, List.length_cons, Nat.succ_mul]
    have h1 := fl_len (ks := ks) (f := f) l
    have h2 : (ks.filter (f x)).length ≤ ks.length := List.length_filter_le ..
    omega
theorem w__law_reading (h : sp__law_reading K ds O k x) (lo : ∀ p ∈ O, p.loc = false) : wpS K W (fun e _ O' => x e O') (t__law_reading K W) (startD N__law_reading.length ds) O { nx := fun _ O' => k .non O', rt := k } := by
  obtain ⟨gs, ⟨rfl, rfl⟩, v, hk⟩ := h
  have vl := v.len
  have v12 := v.l12
  unfold t__law_reading
  walk_at "start"
  walk_at "w"
  apply wpE_mapP (as := gs) (enc := L) (f := fun o => D.dT (wordsD o)) true (gIn_name (by decide)) gMono_name
  walk_at "w"
  refine ⟨_, seq_l, rfl, small1000 (by omega), seq_l, fun j o ho => ?_, ?_⟩
  · walk_at "w"
    refine ⟨rfl, ?_⟩
    refine wpE_fz ?_
    walk_at "w"
    refine ⟨o, ⟨rfl, rfl⟩, ?_, ?_, fun c => ⟨c, _, _, rfl, rfl, rfl, rfl⟩⟩
    · exact (v.same o (List.mem_of_getElem? ho)).nodup_iff.mpr v.nd
    · rw [(v.same o (List.mem_of_getElem? ho)).length_eq]; exact v12
  walk_at "w"
  refine wpR_ixA (.inl seq_l) (rowD (by omega) (by omega)) ?_
  walk_at "w"
  refine wpC_sortAI true seq_l fun ms hm1 hm2 => ?_
  obtain rfl : ms = srt (row gs 0) := srt_uniq hm1 hm2
  have hsl : (srt (row gs 0)).length = (row gs 0).length := hm1.length_eq
  walk_at "w"
  refine wpE_lst false ?_
  walk_at "w"
  refine ⟨by decide, ?_⟩
  intro c _
  walk_at "w"
  refine wpS_seq ?_
  refine wpS_for2 4 5 (fun i q r O' => O' = [⟨c, true, prs (((srt (row gs 0)).take i).flatMap fun x => ((srt (row gs 0)).filter fun y => decide (1 < (gs.filter fun o => decide ((x, y) ∈ wordsL o)).length)).map fun y => (x, y))⟩]) (as := srt (row gs 0)) (enc := D.int) ?_
  walk_at "w"
  refine ⟨_, seq_l, rfl, rfl, fun _ _ _ _ _ _ => seq_l, ?_, ?_⟩
  · intro i xk q r O' hx hJ
    subst hJ
    have hm : xk ∈ srt (row gs 0) := List.mem_of_getElem? hx
    refine wpG_name ?_
    obtain ⟨A, hA⟩ : ∃ A, A = ((srt (row gs 0)).take i).flatMap fun x => ((srt (row gs 0)).filter fun y => decide (1 < (gs.filter fun o => decide ((x, y) ∈ wordsL o)).length)).map fun y => (x, y) := ⟨_, rfl⟩
    have hAl : A.length ≤ 144 := by
      rw [hA]
      refine Nat.le_trans (fl_len (ks := srt (row gs 0)) (f := fun x y => decide (1 < (gs.filter fun o => decide ((x, y) ∈ wordsL o)).length)) _) ?_
      have : ((srt (row gs 0)).take i).length ≤ 12 := by rw [List.length_take]; omega
      exact Nat.le_trans (Nat.mul_le_mul this (show (srt (row gs 0)).length ≤ 12 by omega)) (by decide)
    rw [← hA]
    refine wpS_for1 5 (fun j q O' => O' = [⟨c, true, prs (A ++ (((srt (row gs 0)).take j).filter fun y => decide (1 < (gs.filter fun o => decide ((xk, y) ∈ wordsL o)).length)).map fun y => (xk, y))⟩]) (as := srt (row gs 0)) (enc := D.int) ?_
    walk_at "w"
    refine ⟨_, seq_l, rfl, by simp, fun _ _ _ _ _ => seq_l, ?_, ?_⟩
    · intro j yk q O' hy hJ
      subst hJ
      walk_at "w"
      apply wpE_filP (α := List Int) (as := gs) (enc := fun o => D.dT (wordsD o)) (f := fun o => D.dT (wordsD o)) (c := fun o => decide ((xk, yk) ∈ wordsL o)) true (gIn_name (by decide)) gMono_name
      walk_at "w"
      refine ⟨_, seq_l, rfl, small1000 (by omega), seq_l, fun m o ho => ?_, ?_⟩
      · refine wpG_name ⟨rfl, ?_, fun _ => ?_⟩
        · refine wpT_B (wpE_dinT ?_)
          walk_at "w"
          refine ⟨by show 2 ≤ sizeLine; decide, ?_⟩
          walk_at "w"
          refine ⟨wordsD o, [.inl xk, .inl yk], dt_l, rfl, ?_⟩
          rw [words_val o (xk, yk)]
          exact ⟨_, rfl, rfl, rfl⟩
        · walk_at "w"
          exact ⟨rfl, rfl⟩
      have et := take_snoc hy
      have hfl : (((srt (row gs 0)).take j).filter fun y => decide (1 < (gs.filter fun o => decide ((xk, y) ∈ wordsL o)).length)).length ≤ 12 := Nat.le_trans (List.length_filter_le ..) (by rw [List.length_take]; omega)
      walk_at "w"
      rw [List.length_map]
      refine ⟨fun hc => ?_, fun hc => ?_⟩
      · have hc : 1 < (gs.filter fun o => decide ((xk, yk) ∈ wordsL o)).length := by have := of_decide_eq_true hc; omega
        walk_at "w"
        refine ⟨by show 2 ≤ sizeLine; decide, ?_⟩
        walk_at "w"
        refine wpM_appendC (f := PyD.prD) (x := (xk, yk)) (j := 0) rfl rfl (small1000 (by rw [List.length_append, List.length_map]; omega)) ?_
        refine ⟨_, rfl, ?_⟩
        have e2 : (((srt (row gs 0)).take (j + 1)).filter fun y => decide (1 < (gs.filter fun o => decide ((xk, y) ∈ wordsL o)).length)) = (((srt (row gs 0)).take j).filter fun y => decide (1 < (gs.filter fun o => decide ((xk, y) ∈ wordsL o)).length)) ++ [yk] := by
          rw [et, List.filter_append, List.filter_cons, decide_eq_true hc] <;> rfl
        have e3 : A ++ (((srt (row gs 0)).take (j + 1)).filter fun y => decide (1 < (gs.filter fun o => decide ((xk, y) ∈ wordsL o)).length)).map (fun y => (xk, y)) = (A ++ (((srt (row gs 0)).take j).filter fun y => decide (1 < (gs.filter fun o => decide ((xk, y) ∈ wordsL o)).length)).map fun y => (xk, y)) ++ [(xk, yk)] := by
          rw [e2, List.map_append, ← List.append_assoc] <;> rfl
        rw [e3] <;> rfl
      · have hc : ¬ 1 < (gs.filter fun o => decide ((xk, yk) ∈ wordsL o)).length := by have := of_decide_eq_false hc; omega
        walk_at "w"
        have e2 : (((srt (row gs 0)).take (j + 1)).filter fun y => decide (1 < (gs.filter fun o => decide ((xk, y) ∈ wordsL o)).length)) = (((srt (row gs 0)).take j).filter fun y => decide (1 < (gs.filter fun o => decide ((xk, y) ∈ wordsL o)).length)) := by
          rw [et, List.filter_append, List.filter_cons, decide_eq_false hc]
          simp
        rw [e2]
    · intro q O' hJ
      refine ⟨_, _, rfl, ?_⟩
      rw [hJ, List.take_length, take_snoc hx, List.flatMap_append, ← hA]
      simp
  · intro q r O' hJ
    subst hJ
    rw [List.take_length]
    refine wpS_frz (i := 3) (j := 0) rfl rfl ?_
    walk_at "wr"
    exact hk
end
section
variable {K : PySem.W.Frag} {W : WX} {ds : List D} {O : Ow} {k : Kk} {x : Xk} {P : D → Ow → Prop}
theorem vs_turn {gs : List (List Int)} (v : VS gs) : VS [row gs 1, row gs 2, row gs 0] := by
  have h0 := v.row (h := 0) (by omega)
  have h1 := v.row (h := 1) (by omega)
  have h2 := v.row (h := 2) (by omega)
  exact vs3 h0.1 h1.2 h2.2 (.refl _)
theorem VS.rep' {gs : List (List Int)} (v : VS gs) : wrongRep gs = none := by
  obtain ⟨a, b, c, rfl⟩ := v.three
  exact v.rep
end
section
variable {K : PySem.W.Frag} {W : WX} {ds : List D} {O : Ow} {k : Kk} {x : Xk}
theorem cutI3 {ns : List Int} {a b : Int} (ha : 0 ≤ a) (hb : 0 ≤ b) : cutD (ns.map D.int) (some a) (some b) = ((ns.drop a.toNat).take (b.toNat - a.toNat)).map D.int := by
  obtain ⟨a, rfl⟩ := Int.eq_ofNat_of_zero_le ha
  obtain ⟨b, rfl⟩ := Int.eq_ofNat_of_zero_le hb
  unfold cutD
  rw [HT.sIx_nat, HT.sIx_nat, List.length_map, ← List.map_drop, ← List.map_take, Int.toNat_natCast, Int.toNat_natCast]
  congr 1
  by_cases h1 : a ≤ ns.length
  · rw [Nat.min_eq_left h1]
    by_cases h2 : b ≤ ns.length
    · rw [Nat.min_eq_left h2]
    · rw [Nat.min_eq_right (by omega), List.take_of_length_le (by rw [List.length_drop]; exact Nat.le_refl _), List.take_of_length_le (by rw [List.length_drop]; omega)]
  · rw [Nat.min_eq_right (a := a) (b := ns.length) (by omega), List.drop_of_length_le (Nat.le_refl _), List.drop_of_length_le (i := a) (by omega)]
    simp
theorem cutI1 {ns : List Int} {n : Int} (h : 0 ≤ n) : cutD (ns.map D.int) none (some n) = (ns.take n.toNat).map D.int := by
  have := cutI3 (ns := ns) (a := 0) (b := n) (by omega) h
  rw [show (0 : Int).toNat = 0 from rfl, List.drop_zero, Nat.sub_zero] at this
  rw [← this] <;> rfl
theorem cutI2 {ns : List Int} {n : Int} (h : 0 ≤ n) : cutD (ns.map D.int) (some n) none = (ns.drop n.toNat).map D.int := by
  obtain ⟨a, rfl⟩ := Int.eq_ofNat_of_zero_le h
  unfold cutD
  rw [HT.sIx_nat, HT.sIx_none, List.length_map, ← List.map_drop, ← List.map_take, Int.toNat_natCast]
  congr 1
  by_cases h1 : a ≤ ns.length
  · rw [Nat.min_eq_left h1, List.take_of_length_le (by rw [List.length_drop]; exact Nat.le_refl _)]
  · rw [Nat.min_eq_right (a := a) (b := ns.length) (by omega), List.drop_of_length_le (Nat.le_refl _), List.drop_of_length_le (i := a) (by omega)]
    simp
theorem put_perm {l ks : List Int} {z : Int} {p : Nat} (h : l.Perm ks) : (l.take p ++ [z] ++ l.drop p).Perm (ks ++ [z]) := by
  have h1 : (l.take p ++ [z] ++ l.drop p).Perm (z :: (l.take p ++ l.drop p)) := by
    rw [List.append_assoc]
    exact List.perm_middle
  rw [List.take_append_drop] at h1
  exact h1.trans ((h.cons z).trans (List.perm_append_singleton z ks).symm)
theorem w__law_circle (h : sp__law_circle K ds O k x) (lo : ∀ p ∈ O, p.loc = false) : wpS K W (fun e _ O' => x e O') (t__law_circle K W) (startD N__law_circle.length ds) O { nx := fun _ O' => k .non O', rt := k } := by
  obtain ⟨b, d, ks, ⟨rfl, rfl⟩, hB, h2, h12, hk⟩ := h
  unfold t__law_circle
  walk_at "start"
  walk_at "w"
  refine wpE_lst true ?_
  walk_at "w"
  refine wpE_slL true ?_
  walk_at "w"
  refine ⟨_, seq_l, ?_⟩
  walk_at "w"
  refine wpE_lst true ?_
  walk_at "w"
  refine ⟨by show 3 ≤ sizeLine; decide, ?_⟩
  walk_at "w"
  refine wpE_lst true ?_
  walk_at "w"
  refine ⟨by show 3 ≤ sizeLine; decide, ?_⟩
  walk_at "w"
  refine ⟨by show 3 ≤ sizeLine; decide, ?_⟩
  walk_at "w"
  rw [cutI1 (by decide)]
  refine wpS_seq ?_
  refine wpS_forA (ks.drop 3) D.int (fun i G O' => ∃ (l0 l1 l2 : List Int) (d : D) (q3 q4 q5 : Option D), G = [some (.mut b), some (L ks), some (gD [l0, l1, l2]), q3, q4, q5] ∧ O' = [⟨b, false, d⟩] ∧ Bx d ∧ l0.Perm (ks.take (3 + i)) ∧ l1.Perm (ks.take (3 + i)) ∧ l2.Perm (ks.take (3 + i))) ?_
  walk_at "w"
  refine wpE_slL true ?_
  walk_at "w"
  refine ⟨_, seq_l, ?_⟩
  rw [cutI2 (by decide)]
  have e3 : ks.take 3 = [ks.getD 0 0, ks.getD 1 0, ks.getD 2 0] := by
    match ks, h2 with
    | a :: b :: c :: l, _ => rfl
  have p1 : [ks.getD 1 0, ks.getD 2 0, ks.getD 0 0].Perm (ks.take 3) := by
    rw [e3]
    exact (List.perm_append_comm (l₁ := [ks.getD 1 0, ks.getD 2 0]) (l₂ := [ks.getD 0 0]))
  have p2 : [ks.getD 2 0, ks.getD 0 0, ks.getD 1 0].Perm (ks.take 3) := by
    rw [e3]
    exact (List.perm_append_comm (l₁ := [ks.getD 2 0]) (l₂ := [ks.getD 0 0, ks.getD 1 0]))
  refine ⟨_, seq_l, rfl, ⟨ks.take 3, _, _, d, none, none, none, rfl, rfl, hB, .refl _, p1, p2⟩, fun _ _ _ _ _ => seq_l, ?_, ?_⟩
  · intro i z G O' hz hJ
    obtain ⟨l0, l1, l2, d, q3, q4, q5, rfl, rfl, hB, h0, h1, h2'⟩ := hJ
    have e0 := h0.length_eq
    have e1 := h1.length_eq
    have e2 := h2'.length_eq
    rw [List.length_take] at e0 e1 e2
    have hz' : ks[3 + i]? = some z := by
      rw [List.getElem?_drop] at hz
      exact hz
    have et : ks.take (3 + (i + 1)) = ks.take (3 + i) ++ [z] := take_snoc hz'
    walk_at "w"
    refine wpE_take (j := 0) rfl ?_
    walk_at "w"
    refine ⟨_, _, _, rfl, ⟨by omega, by omega⟩, rfl, hB, fun u d u0 u1 hB => ?_⟩
    walk_at "w"
    apply wpE_mapP (as := [l0, l1, l2]) (enc := L) (f := fun l => L (l.take u.toNat ++ [z] ++ l.drop u.toNat)) true (gIn_name (by decide)) gMono_name
    walk_at "w"
    refine ⟨_, seq_l, rfl, small1000 (by show 3 ≤ 1000; decide), seq_l, fun j l hl => ?_, ?_⟩
    · have hll : l.length ≤ 12 := by
        have := List.mem_of_getElem? hl
        simp only [List.mem_cons, List.not_mem_nil, or_false] at this
        rcases this with rfl | rfl | rfl <;> omega
      walk_at "w"
      refine ⟨rfl, ?_⟩
      walk_at "w"
      refine wpE_slL true ?_
      walk_at "w"
      refine ⟨_, seq_l, ?_⟩
      rw [cutI1 u0]
      refine wpE_lst true ?_
      walk_at "w"
      refine ⟨by show 1 ≤ sizeLine; decide, ?_⟩
      refine wpR_addL true lst_l lst_l (Nat.le_of_lt (small1000 (by simp; omega))) ?_
      refine wpE_slL true ?_
      walk_at "w"
      refine ⟨_, seq_l, ?_⟩
      rw [cutI2 u0]
      refine wpR_addL true lst_l lst_l (Nat.le_of_lt (small1000 (by simp; omega))) ?_
      refine ⟨?_, rfl⟩
      show _ = D.lst ((l.take u.toNat ++ [z] ++ l.drop u.toNat).map D.int)
      rw [List.map_append, List.map_append] <;> rfl
    exact ⟨_, _, _, d, _, _, _, rfl, rfl, hB, by rw [et]; exact put_perm h0, by rw [et]; exact put_perm h1, by rw [et]; exact put_perm h2'⟩
  · intro G O' hJ
    obtain ⟨l0, l1, l2, d, q3, q4, q5, rfl, rfl, hB, h0, h1, h2'⟩ := hJ
    rw [List.take_of_length_le (by rw [List.length_drop]; omega)] at h0 h1 h2'
    walk_at "wr"
    exact hk _ _ _ _ hB h0 h1 h2'
end
section
variable {K : PySem.W.Frag} {W : WX} {ds : List D} {O : Ow} {k : Kk} {x : Xk}
theorem w__law_is_number_v2 (h : sp__law_is_number_v2 K ds O k x) (lo : ∀ p ∈ O, p.loc = false) : wpS K W (fun e _ O' => x e O') (t__law_is_number_v2 K W) (startD N__law_is_number_v2.length ds) O { nx := fun _ O' => k .non O', rt := k } := w__law_is_number h lo
theorem w__law_is_row_v2 (h : sp__law_is_row_v2 K ds O k x) (lo : ∀ p ∈ O, p.loc = false) : wpS K W (fun e _ O' => x e O') (t__law_is_row_v2 K W) (startD N__law_is_row_v2.length ds) O { nx := fun _ O' => k .non O', rt := k } := w__law_is_row h lo
theorem w__law_is_state_v2 (h : sp__law_is_state_v2 K ds O k x) (lo : ∀ p ∈ O, p.loc = false) : wpS K W (fun e _ O' => x e O') (t__law_is_state_v2 K W) (startD N__law_is_state_v2.length ds) O { nx := fun _ O' => k .non O', rt := k } := w__law_is_state h lo
theorem w__law_is_truth_v2 (h : sp__law_is_truth_v2 K ds O k x) (lo : ∀ p ∈ O, p.loc = false) : wpS K W (fun e _ O' => x e O') (t__law_is_truth_v2 K W) (startD N__law_is_truth_v2.length ds) O { nx := fun _ O' => k .non O', rt := k } := w__law_is_truth h lo
end
/-- swaps of one list, each of two neighbours that stand otherwise in o; the pairs -/
inductive Dp (o : List Int) : List Int → List Int → List (Int × Int) → List Int → Prop where
  | nil (r : List Int) : Dp o r [] [] r
  | cons {r r' : List Int} {i : Nat} {sw : List Int} {ps : List (Int × Int)} : i + 1 < r.length → o.idxOf (r.getD (i + 1) 0) < o.idxOf (r.getD i 0) → Dp o (exch r i) sw ps r' → Dp o r ((i : Int) :: sw) ((r.getD i 0, r.getD (i + 1) 0) :: ps) r'
theorem Dp.app {o r r1 r2 s1 s2 : List Int} {p1 p2 : List (Int × Int)} (h : Dp o r s1 p1 r1) (h2 : Dp o r1 s2 p2 r2) : Dp o r (s1 ++ s2) (p1 ++ p2) r2 := by
  induction h with
  | nil r => exact h2
  | cons a b _ ih => exact .cons a b (ih h2)
theorem inv_step2 {r o : List Int} {i : Nat} (nd : r.Nodup) (h1 : i + 1 < r.length) (h2 : o.idxOf (r.getD (i + 1) 0) < o.idxOf (r.getD i 0)) {x y : Int} : Inv r o x y ↔ (x = r.getD i 0 ∧ y = r.getD (i + 1) 0) ∨ Inv (exch r i) o x y := by
  have hp := exch_perm r i h1
  constructor
  · rintro ⟨hx, hy, a, b⟩
    by_cases e : r.idxOf x = i ∧ r.idxOf y = i + 1
    · left
      rw [← e.1]
      refine ⟨(gd_of hx).symm, ?_⟩
      rw [e.1, ← e.2]
      exact (gd_of hy).symm
    · right
      refine ⟨hp.mem_iff.mpr hx, hp.mem_iff.mpr hy, ?_, b⟩
      rw [exch_idx nd hx h1, exch_idx nd hy h1]
      split <;> split <;> (try split) <;> (try split) <;> omega
  · rintro (⟨rfl, rfl⟩ | ⟨hx, hy, a, b⟩)
    · refine ⟨mem_getD (by omega), mem_getD h1, ?_, h2⟩
      rw [gd_idx nd (by omega), gd_idx nd h1]
      omega
    · have hx := hp.mem_iff.mp hx
      have hy := hp.mem_iff.mp hy
      refine ⟨hx, hy, ?_, b⟩
      rw [exch_idx nd hx h1, exch_idx nd hy h1] at a
      by_cases e : r.idxOf x = i + 1 ∧ r.idxOf y = i
      · have ex := gd_of hx
        have ey := gd_of hy
        rw [e.1] at ex
        rw [e.2] at ey
        rw [ex, ey] at h2
        omega
      · have ne : r.idxOf x ≠ r.idxOf y := fun q => by
          have := idx_inj hx hy q
          subst this
          omega
        split at a <;> split at a <;> (try split at a) <;> (try split at a) <;> omega
theorem exch_at {x y : Int} {R : List Int} : ∀ A : List Int, exch (A ++ x :: y :: R) A.length = A ++ y :: x :: R
  | [] => rfl
  | a :: A => by
    show exch (a :: (A ++ x :: y :: R)) (A.length + 1) = _
    rw [exch_cons, exch_at A] <;> rfl
theorem gd_at {x y : Int} {A R : List Int} : (A ++ x :: y :: R).getD A.length 0 = x ∧ (A ++ x :: y :: R).getD (A.length + 1) 0 = y := by
  constructor
  · rw [List.getD_eq_getElem?_getD, List.getElem?_append_right (Nat.le_refl _), Nat.sub_self] <;> rfl
  · rw [List.getD_eq_getElem?_getD, List.getElem?_append_right (by omega), Nat.add_sub_cancel_left] <;> rfl
theorem pass_dp {o A : List Int} {y : Int} : ∀ (n : Nat) (B R : List Int), B.length = n → (∀ x ∈ B, o.idxOf y < o.idxOf x) → Dp o (A ++ B ++ y :: R) ((List.range B.length).map fun (t : Nat) => ((A.length + B.length : Nat) : Int) - 1 - (t : Int)) (B.reverse.map fun x => (x, y)) (A ++ y :: (B ++ R))
  | 0, B, R, hn, _ => by
    rw [List.eq_nil_of_length_eq_zero hn, List.append_nil]
    exact .nil _
  | n + 1, B, R, hn, hb => by
    rcases List.eq_nil_or_concat B with rfl | ⟨B', x, e⟩
    · simp at hn
    have e : B = B' ++ [x] := by simpa using e
    subst e
    have hl : B'.length = n := by simpa using hn
    have ih := pass_dp (o := o) (A := A) (y := y) n B' (x :: R) hl fun z hz => hb z (List.mem_append_left _ hz)
    have hx := hb x (List.mem_append_right _ (List.mem_singleton.mpr rfl))
    have el : A ++ (B' ++ [x]) ++ y :: R = (A ++ B') ++ x :: y :: R := by simp
    have g := gd_at (x := x) (y := y) (A := A ++ B') (R := R)
    have ee := exch_at (x := x) (y := y) (R := R) (A ++ B')
    have step : Dp o ((A ++ B') ++ x :: y :: R) (((A ++ B').length : Int) :: (List.range B'.length).map fun (t : Nat) => ((A.length + B'.length : Nat) : Int) - 1 - (t : Int)) ((x, y) :: B'.reverse.map fun x => (x, y)) (A ++ y :: (B' ++ x :: R)) := by
      have := Dp.cons (o := o) (r := (A ++ B') ++ x :: y :: R) (i := (A ++ B').length) (sw := (List.range B'.length).map fun (t : Nat) => ((A.length + B'.length : Nat) : Int) - 1 - (t : Int)) (ps := B'.reverse.map fun x => (x, y)) (r' := A ++ y :: (B' ++ x :: R)) (by simp only [List.length_append, List.length_cons]; omega) (by rw [g.1, g.2]; exact hx) (by rw [ee]; exact ih)
      rw [g.1, g.2] at this
      exact this
    rw [el]
    have e1 : (List.range (B' ++ [x]).length).map (fun (t : Nat) => ((A.length + (B' ++ [x]).length : Nat) : Int) - 1 - (t : Int)) = ((A ++ B').length : Int) :: (List.range B'.length).map fun (t : Nat) => ((A.length + B'.length : Nat) : Int) - 1 - (t : Int) := by
      rw [List.length_append, List.length_singleton, List.range_succ_eq_map, List.map_cons, List.map_map]
      congr 1
      · rw [List.length_append]; omega
      · refine List.map_congr_left fun t _ => ?_
        show ((A.length + (B'.length + 1) : Nat) : Int) - 1 - ((t + 1 : Nat) : Int) = _
        omega
    have e2 : ((B' ++ [x]).reverse.map fun x => (x, y)) = (x, y) :: B'.reverse.map fun x => (x, y) := by simp
    have e3 : A ++ y :: (B' ++ [x] ++ R) = A ++ y :: (B' ++ x :: R) := by simp
    rw [e1, e2, e3]
    exact step
theorem rounds_dp {o B E : List Int} : ∀ (C A : List Int), (∀ y ∈ C, ∀ x ∈ B, o.idxOf y < o.idxOf x) → Dp o (A ++ B ++ C ++ E) ((List.range C.length).flatMap fun (j : Nat) => (List.range B.length).map fun (t : Nat) => ((A.length + B.length : Nat) : Int) + (j : Int) - 1 - (t : Int)) (C.flatMap fun y => B.reverse.map fun x => (x, y)) (A ++ C ++ B ++ E)
  | [], A, _ => by
    have e : A ++ B ++ [] ++ E = A ++ [] ++ B ++ E := by simp
    rw [e]
    exact .nil _
  | y :: C, A, h => by
    have p := pass_dp (o := o) (A := A) (y := y) B.length B (C ++ E) rfl (h y List.mem_cons_self)
    have ih := rounds_dp (o := o) (B := B) (E := E) C (A ++ [y]) fun z hz => h z (List.mem_cons_of_mem _ hz)
    have e1 : A ++ B ++ y :: (C ++ E) = A ++ B ++ y :: C ++ E := by simp
    have e2 : A ++ y :: (B ++ (C ++ E)) = A ++ [y] ++ B ++ C ++ E := by simp
    have e3 : A ++ [y] ++ C ++ B ++ E = A ++ y :: C ++ B ++ E := by simp
    rw [e1, e2] at p
    rw [e3] at ih
    have q := p.app ih
    have e4 : (List.range (y :: C).length).flatMap (fun (j : Nat) => (List.range B.length).map fun (t : Nat) => ((A.length + B.length : Nat) : Int) + (j : Int) - 1 - (t : Int)) = (List.range B.length).map (fun (t : Nat) => ((A.length + B.length : Nat) : Int) - 1 - (t : Int)) ++ (List.range C.length).flatMap fun (j : Nat) => (List.range B.length).map fun (t : Nat) => (((A ++ [y]).length + B.length : Nat) : Int) + (j : Int) - 1 - (t : Int) := by
      have f1 : (List.range B.length).map (fun (t : Nat) => ((A.length + B.length : Nat) : Int) + ((0 : Nat) : Int) - 1 - (t : Int)) = (List.range B.length).map fun (t : Nat) => ((A.length + B.length : Nat) : Int) - 1 - (t : Int) := List.map_congr_left fun t _ => by omega
      have f2 : ∀ j : Nat, (List.range B.length).map (fun (t : Nat) => ((A.length + B.length : Nat) : Int) + ((j.succ : Nat) : Int) - 1 - (t : Int)) = (List.range B.length).map fun (t : Nat) => (((A ++ [y]).length + B.length : Nat) : Int) + (j : Int) - 1 - (t : Int) := fun j => by
        refine List.map_congr_left fun t _ => ?_
        rw [List.length_append, List.length_singleton]
        omega
      rw [List.length_cons, List.range_succ_eq_map, List.flatMap_cons, List.flatMap_map, f1]
      simp only [f2]
    rw [e4, List.flatMap_cons]
    exact q
theorem exO_parts {A B C E : List Int} {v : Mv} (h0 : 0 ≤ v.s) (h1 : v.s = A.length) (h2 : v.m = ((A.length + B.length : Nat) : Int)) (h3 : v.e = ((A.length + B.length + C.length : Nat) : Int)) : exO (A ++ B ++ C ++ E) v = A ++ C ++ B ++ E := by
  unfold exO
  rw [show v.s.toNat = A.length by omega, show v.m.toNat = (A ++ B).length by rw [List.length_append]; omega, show v.e.toNat = (A ++ B ++ C).length by rw [List.length_append, List.length_append]; omega, show (v.e - v.m).toNat = C.length by omega, show (v.m - v.s).toNat = B.length by omega]
  have e1 : (A ++ B ++ C ++ E).take A.length = A := by rw [List.append_assoc, List.append_assoc, List.take_left' rfl]
  have e2 : (A ++ B ++ C ++ E).drop (A ++ B).length = C ++ E := by rw [List.append_assoc, List.drop_left' rfl]
  have e3 : (A ++ B ++ C ++ E).drop A.length = B ++ (C ++ E) := by rw [List.append_assoc, List.append_assoc, List.drop_left' rfl]
  have e4 : (A ++ B ++ C ++ E).drop (A ++ B ++ C).length = E := List.drop_left' rfl
  rw [e1, e2, e3, e4, List.take_left' rfl, List.take_left' rfl]
/-- the parts of a list at a move -/
theorem parts {r : List Int} {v : Mv} (ok : okM r.length v) : ∃ A B C E : List Int, r = A ++ B ++ C ++ E ∧ v.s = A.length ∧ v.m = ((A.length + B.length : Nat) : Int) ∧ v.e = ((A.length + B.length + C.length : Nat) : Int) := by
  obtain ⟨_, h0, h1, h2, h3⟩ := ok
  refine ⟨r.take v.s.toNat, (r.drop v.s.toNat).take (v.m - v.s).toNat, (r.drop v.m.toNat).take (v.e - v.m).toNat, r.drop v.e.toNat, ?_, ?_, ?_, ?_⟩
  · have a : r.drop v.s.toNat = (r.drop v.s.toNat).take (v.m - v.s).toNat ++ r.drop v.m.toNat := by
      have := List.take_append_drop (v.m - v.s).toNat (r.drop v.s.toNat)
      rw [List.drop_drop, show v.s.toNat + (v.m - v.s).toNat = v.m.toNat by omega] at this
      exact this.symm
    have b : r.drop v.m.toNat = (r.drop v.m.toNat).take (v.e - v.m).toNat ++ r.drop v.e.toNat := by
      have := List.take_append_drop (v.e - v.m).toNat (r.drop v.m.toNat)
      rw [List.drop_drop, show v.m.toNat + (v.e - v.m).toNat = v.e.toNat by omega] at this
      exact this.symm
    rw [List.append_assoc, List.append_assoc, ← b, ← a, List.take_append_drop]
  · rw [List.length_take]; omega
  · rw [List.length_take, List.length_take, List.length_drop]; omega
  · rw [List.length_take, List.length_take, List.length_take, List.length_drop, List.length_drop]; omega
/-- the pairs that a move exchanges -/
def mvPs (r : List Int) (v : Mv) : List (Int × Int × Int) := ((r.drop v.m.toNat).take (v.e - v.m).toNat).flatMap fun y => ((r.drop v.s.toNat).take (v.m - v.s).toNat).reverse.map fun x => (v.h, x, y)
theorem mv_dp {r : List Int} {v : Mv} (nd : r.Nodup) (ok : okM r.length v) : (exO r v).Perm r ∧ ∃ ps, Dp (exO r v) r (mvIx v) ps (exO r v) ∧ (ps.map fun p => (v.h, p.1, p.2)) = mvPs r v := by
  obtain ⟨A, B, C, E, e, h1, h2, h3⟩ := parts ok
  have ee : exO r v = A ++ C ++ B ++ E := by rw [e]; exact exO_parts ok.2.1 h1 h2 h3
  have hp : (A ++ C ++ B ++ E).Perm (A ++ B ++ C ++ E) := by
    rw [List.append_assoc A C B, List.append_assoc A B C]
    exact ((List.perm_append_comm (l₁ := C) (l₂ := B)).append_left A).append_right E
  have no : (A ++ C ++ B ++ E).Nodup := hp.nodup_iff.mpr (e ▸ nd)
  have hs := self_sorted no
  have hi : ∀ y ∈ C, ∀ x ∈ B, (A ++ C ++ B ++ E).idxOf y < (A ++ C ++ B ++ E).idxOf x := fun y hy x hx => by
    have hle : (A ++ C ++ B ++ E).idxOf y ≤ (A ++ C ++ B ++ E).idxOf x := by
      have s := (show (A ++ C ++ B ++ E) = (A ++ C) ++ (B ++ E) by simp) ▸ hs
      rw [List.append_assoc (A ++ C) B E]
      exact (List.pairwise_append.mp s).2.2 y (List.mem_append_right _ hy) x (List.mem_append_left _ hx)
    refine Nat.lt_of_le_of_ne hle fun q => ?_
    have := idx_inj (b := A ++ C ++ B ++ E) (by simp [hy]) (by simp [hx]) q
    subst this
    have n2 : ((A ++ C) ++ (B ++ E)).Nodup := by rw [← List.append_assoc]; exact no
    exact (List.nodup_append.mp n2).2.2 y (List.mem_append_right _ hy) y (List.mem_append_left _ hx) rfl
  have hB : (v.m - v.s).toNat = B.length := by omega
  have hC : (v.e - v.m).toNat = C.length := by omega
  refine ⟨by rw [ee, e]; exact hp, C.flatMap fun y => B.reverse.map fun x => (x, y), ?_, ?_⟩
  · rw [ee]
    have := rounds_dp (o := A ++ C ++ B ++ E) (B := B) (E := E) C A hi
    unfold mvIx
    rw [hB, hC, h2, ← e] at *
    exact this
  · have x1 : (r.drop v.m.toNat).take (v.e - v.m).toNat = C := by
      rw [e, hC, show v.m.toNat = (A ++ B).length by rw [List.length_append]; omega, List.append_assoc (A ++ B) C E, List.drop_left' rfl, List.take_left' rfl]
    have x2 : (r.drop v.s.toNat).take (v.m - v.s).toNat = B := by
      rw [e, hB, show v.s.toNat = A.length by omega, List.append_assoc, List.append_assoc, List.drop_left' rfl, List.take_left' rfl]
    unfold mvPs
    rw [x1, x2, List.map_flatMap]
    simp only [List.map_map]
    rfl
theorem fl_rng {k : Nat} (f : Nat → Nat → Int) : ∀ n : Nat, ((List.range n).flatMap fun j => (List.range k).map fun t => f j t).length = n * k
  | 0 => by simp
  | n + 1 => by
    rw [List.range_succ, List.flatMap_append, List.length_append, fl_rng f n, Nat.succ_mul]
    simp
structure Mf (gs : List (List Int)) (mv : Mv) : Prop where
  v : VS gs
  ok : okM (row gs 0).length mv
theorem Mf.hh {gs : List (List Int)} {v : Mv} (f : Mf gs v) : 0 ≤ v.h ∧ v.h < 3 := f.ok.1
theorem Mf.hr {gs : List (List Int)} {v : Mv} (f : Mf gs v) : wrong (row gs v.h.toNat) = none ∧ (row gs v.h.toNat).Perm (row gs 0) := f.v.row (by have := f.hh; omega)
theorem Mf.okr {gs : List (List Int)} {v : Mv} (f : Mf gs v) : okM (row gs v.h.toNat).length v := by
  rw [f.hr.2.length_eq]
  exact f.ok
theorem Mf.nd {gs : List (List Int)} {v : Mv} (f : Mf gs v) : (row gs v.h.toNat).Nodup := wrong_nodup f.hr.1
theorem Mf.l12 {gs : List (List Int)} {v : Mv} (f : Mf gs v) : (row gs 0).length ≤ 12 := f.v.l12 (h := 0) (by omega)
theorem Mf.perm {gs : List (List Int)} {v : Mv} (f : Mf gs v) : (exO (row gs v.h.toNat) v).Perm (row gs v.h.toNat) := (mv_dp f.nd f.okr).1
theorem Mf.fit {gs : List (List Int)} {v : Mv} (f : Mf gs v) : Fit gs v.h (exO (row gs v.h.toNat) v) := by
  refine ⟨f.v, f.hh, res2_of f.hr.1 ?_ f.perm.symm⟩
  exact fresh_ok (f.perm.nodup_iff.mpr f.nd) (by rw [f.perm.length_eq]; exact wrong_len f.hr.1) fun z hz => wrong_rng f.hr.1 z (f.perm.mem_iff.mp hz)
theorem Mf.vs {gs : List (List Int)} {v : Mv} (f : Mf gs v) : VS (exM gs v) := f.fit.vs
theorem Mf.len {gs : List (List Int)} {v : Mv} (f : Mf gs v) : (mvRun v).length ≤ 144 := by
  unfold mvRun rwRun mvIx
  rw [List.length_map, fl_rng fun j t => v.m + (j : Int) - 1 - (t : Int)]
  obtain ⟨_, h0, h1, h2, h3⟩ := f.ok
  have := f.l12
  exact Nat.le_trans (Nat.mul_le_mul (show (v.e - v.m).toNat ≤ 12 by omega) (show (v.m - v.s).toNat ≤ 12 by omega)) (by decide)
theorem Mf.row {gs : List (List Int)} {v : Mv} (f : Mf gs v) : Q.row (exM gs v) v.h.toNat = exO (Q.row gs v.h.toNat) v := f.fit.row
section
variable {K : PySem.W.Frag} {W : WX} {ds : List D} {O : Ow} {k : Kk} {x : Xk}
def prT (sw : List (Int × Int)) : List (List Int) := sw.map fun p => [p.1, p.2]
theorem prT_eq {sw : List (Int × Int)} : D.lst ((prT sw).map tupD) = prs sw := by
  unfold prT
  rw [List.map_map] <;> rfl
theorem w__law_is_tuple_v2 (h : sp__law_is_tuple_v2 K ds O k x) (lo : ∀ p ∈ O, p.loc = false) : wpS K W (fun e _ O' => x e O') (t__law_is_tuple_v2 K W) (startD N__law_is_tuple_v2.length ds) O { nx := fun _ O' => k .non O', rt := k } := by
  obtain ⟨a, ⟨rfl, rfl⟩, hl, hk⟩ := h
  unfold t__law_is_tuple_v2
  walk_at "start"
  walk_at "wr"
  refine wpC_isi (.tup _) (b := true) (by decide +kernel) ?_
  walk_at "w"
  refine ⟨fun _ => ?_, fun h => (by cases h)⟩
  walk_at "c0"
  exact ⟨_, _, a, ⟨rfl, rfl⟩, .inr rfl, .inr rfl, by omega, hk⟩
theorem w__law_is_tuples_v2 (h : sp__law_is_tuples_v2 K ds O k x) (lo : ∀ p ∈ O, p.loc = false) : wpS K W (fun e _ O' => x e O') (t__law_is_tuples_v2 K W) (startD N__law_is_tuples_v2.length ds) O { nx := fun _ O' => k .non O', rt := k } := by
  obtain ⟨sw, ⟨rfl, rfl⟩, hl, ha, hk⟩ := h
  unfold t__law_is_tuples_v2
  walk_at "start"
  walk_at "w"
  refine wpS_iteP (c := false) ?_ ⟨fun h => (by cases h), fun _ => ?_⟩
  · refine wpT_mono (wpT_orP (c1 := false) (c2 := false) ?_ fun _ => ?_) fun b O' h => h
    · walk_at "w"
      refine wpC_isi (.lst _) (b := true) (by decide +kernel) ?_
      walk_at "w"
      exact ⟨rfl, rfl⟩
    · walk_at "w"
      exact ⟨by simp, rfl⟩
  walk_at "w"
  refine wpS_seq ?_
  refine wpS_for1 2 (fun i q O' => O' = []) (as := List.range sw.length) (enc := fun (i : Nat) => D.int (0 + (i : Int))) ?_
  walk_at "w"
  rw [List.length_map]
  refine ⟨⟨by omega, by omega⟩, rfl, rfl, fun _ _ _ _ _ => trivial, ?_, ?_⟩
  · intro i i' q O' hi hJ
    subst hJ
    obtain ⟨rfl, hi⟩ := range_get hi
    have e : atI (sw.map tupD) (0 + (i' : Int)) = some (tupD sw[i']) := atI_nn (by omega) (by
      rw [List.getElem?_map, show (0 + (i' : Int)).toNat = i' by omega, List.getElem?_eq_getElem hi] <;> rfl)
    walk_at "w"
    walk_at "c0"
    refine wpR_ixA (.inl seq_l) e ?_
    walk_at "w"
    refine wpR_ixA (.inl seq_l) e ?_
    walk_at "w"
    refine ⟨_, ⟨rfl, rfl⟩, ha _ (List.getElem_mem hi), ?_⟩
    walk_at "w"
    refine ⟨fun h => (by cases h), fun _ => ?_⟩
    walk_at "w"
  · intro q O' hJ
    subst hJ
    walk_at "wr"
    exact hk
end
section
variable {K : PySem.W.Frag} {W : WX} {ds : List D} {O : Ow} {k : Kk} {x : Xk}
def trT (ps : List (Int × Int × Int)) : List (List Int) := ps.map fun p => [p.1, p.2.1, p.2.2]
theorem trT_eq {ps : List (Int × Int × Int)} : D.lst ((trT ps).map tupD) = trs ps := by
  unfold trT
  rw [List.map_map] <;> rfl
end
theorem read_mem {gs : List (List Int)} (v : VS gs) {x y : Int} : (x, y) ∈ readL gs ↔ x ∈ row gs 0 ∧ y ∈ row gs 0 ∧ maj (sayB (row gs 0) x y) (sayB (row gs 1) x y) (sayB (row gs 2) x y) = true := by
  have v1 := (v.row (h := 1) (by omega)).2
  have v2 := (v.row (h := 2) (by omega)).2
  have n0 := v.nd (h := 0) (by omega)
  have n1 := v.nd (h := 1) (by omega)
  have n2 := v.nd (h := 2) (by omega)
  obtain ⟨a, b, c, rfl⟩ := v.three
  have v1 : b.Perm a := v1
  have v2 : c.Perm a := v2
  have n0 : a.Nodup := n0
  have n1 : b.Nodup := n1
  have n2 : c.Nodup := n2
  show (x, y) ∈ ((srt a).flatMap fun x => ((srt a).filter fun y => decide (1 < ([a, b, c].filter fun o => decide ((x, y) ∈ wordsL o)).length)).map fun y => (x, y)) ↔ x ∈ a ∧ y ∈ a ∧ maj (sayB a x y) (sayB b x y) (sayB c x y) = true
  have e : ∀ x y, x ∈ a → y ∈ a → decide (1 < ([a, b, c].filter fun o => decide ((x, y) ∈ wordsL o)).length) = maj (sayB a x y) (sayB b x y) (sayB c x y) := fun x y hx hy => by
    rw [maj_cnt (fun o => decide ((x, y) ∈ wordsL o)), words_say n0 (.refl a) hx hy, words_say n1 v1 hx hy, words_say n2 v2 hx hy]
  rw [List.mem_flatMap]
  constructor
  · rintro ⟨z, hz, hm⟩
    obtain ⟨w, hw, e1⟩ := List.mem_map.mp hm
    cases e1
    obtain ⟨h1, h2⟩ := List.mem_filter.mp hw
    rw [e x y (srt_mem.mp hz) (srt_mem.mp h1)] at h2
    exact ⟨srt_mem.mp hz, srt_mem.mp h1, h2⟩
  · rintro ⟨hx, hy, h⟩
    exact ⟨x, srt_mem.mpr hx, List.mem_map.mpr ⟨y, List.mem_filter.mpr ⟨srt_mem.mpr hy, by rw [e x y hx hy]; exact h⟩, rfl⟩⟩
theorem read_dec {gs : List (List Int)} (v : VS gs) {x y : Int} (hx : x ∈ row gs 0) (hy : y ∈ row gs 0) : decide ((x, y) ∈ readL gs) = maj (sayB (row gs 0) x y) (sayB (row gs 1) x y) (sayB (row gs 2) x y) := by
  cases e : maj (sayB (row gs 0) x y) (sayB (row gs 1) x y) (sayB (row gs 2) x y) with
  | true => exact decide_eq_true ((read_mem v).mpr ⟨hx, hy, e⟩)
  | false => exact decide_eq_false fun h => by rw [((read_mem v).mp h).2.2] at e; cases e
theorem sil_read {gs : List (List Int)} (v : VS gs) {s : Int × Int} (hc : stepB gs s = true) : readL (sws gs s) = readL gs ↔ sil gs s = true := by
  obtain ⟨h, i⟩ := s
  have hs := stepB_ok hc
  dsimp only at hs
  have hr := v.row (h := h.toNat) (by omega)
  have nd := v.nd (h := h.toNat) (by omega)
  have hl := v.leq (h := h.toNat) (by omega)
  have hi : i.toNat + 1 < (row gs h.toNat).length := by omega
  have hp : (exch (row gs h.toNat) i.toNat).Perm (row gs 0) := (exch_perm _ _ hi).trans hr.2
  show readL (gs.set h.toNat (exch (row gs h.toNat) i.toNat)) = readL gs ↔ silB gs h.toNat i.toNat = true
  rw [read_iff v (by omega) hp]
  have m1 : (row gs h.toNat).getD i.toNat 0 ∈ row gs h.toNat := mem_getD (by omega)
  have m2 : (row gs h.toNat).getD (i.toNat + 1) 0 ∈ row gs h.toNat := mem_getD hi
  have x1 := gd_idx nd (i := i.toNat) (by omega)
  have x2 := gd_idx nd (i := i.toNat + 1) hi
  have e1 := exch_idx (i := i.toNat) nd m1 hi
  have e2 := exch_idx (i := i.toNat) nd m2 hi
  rw [x1, if_pos rfl] at e1
  rw [x2, if_neg (by omega), if_pos rfl] at e2
  have key : ∀ x y, Inv (row gs h.toNat) (exch (row gs h.toNat) i.toNat) x y ↔ (x = (row gs h.toNat).getD i.toNat 0 ∧ y = (row gs h.toNat).getD (i.toNat + 1) 0) := fun x y => by
    rw [inv_step2 nd hi (by omega)]
    constructor
    · rintro (q | ⟨_, _, q1, q2⟩)
      · exact q
      · omega
    · exact .inl
  unfold silB kx
  rw [decide_eq_true_iff]
  constructor
  · intro q
    exact q _ _ ((key _ _).mpr ⟨rfl, rfl⟩)
  · intro q x y hxy
    obtain ⟨rfl, rfl⟩ := (key x y).mp hxy
    exact q
theorem say_trans {o : List Int} {x y z : Int} (h1 : sayB o y z = true) (h2 : sayB o z x = true) : sayB o x y = false := by
  unfold sayB at *
  have h1 := of_decide_eq_true h1
  have h2 := of_decide_eq_true h2
  exact decide_eq_false (by omega)
theorem not_all : ∀ p q r a b c d e f : Bool, maj a b c = true → maj d e f = true → (a = true → d = true → p = false) → (b = true → e = true → q = false) → (c = true → f = true → r = false) → ¬ (p = true ∧ q = true ∧ r = true) := by decide
theorem pin_dis {gs : List (List Int)} (v : VS gs) {x y : Int} (h : cycB (row gs 0) (readL gs) x y = true) : ¬ (sayB (row gs 0) x y = true ∧ sayB (row gs 1) x y = true ∧ sayB (row gs 2) x y = true) := by
  unfold cycB at h
  obtain ⟨z, hz, h⟩ := List.any_eq_true.mp h
  rw [Bool.and_eq_true, decide_eq_true_iff, decide_eq_true_iff, read_mem v, read_mem v] at h
  exact not_all _ _ _ _ _ _ _ _ _ h.1.2.2 h.2.2.2 say_trans say_trans say_trans
theorem cyc_perm {a b : List Int} (h : a.Perm b) {ps : List (Int × Int)} {x y : Int} : cycB a ps x y = cycB b ps x y := by
  unfold cycB
  rw [Bool.eq_iff_iff, List.any_eq_true, List.any_eq_true]
  constructor
  · rintro ⟨z, hz, q⟩
    exact ⟨z, h.mem_iff.mp hz, q⟩
  · rintro ⟨z, hz, q⟩
    exact ⟨z, h.mem_iff.mpr hz, q⟩
def disB (p q r : Bool) : Option Nat := (List.range 3).find? fun h => decide (([p, q, r] : List Bool).count (([p, q, r] : List Bool).getD h false) = 1)
theorem dis_eq {gs : List (List Int)} {x y : Int} : disN gs x y = disB (sayB (row gs 0) x y) (sayB (row gs 1) x y) (sayB (row gs 2) x y) := rfl
theorem disB_one : ∀ p q r : Bool, maj p q r = true → ¬ (p = true ∧ q = true ∧ r = true) → ∃ d : Nat, disB p q r = some d ∧ d < 3 ∧ ((List.range 3).filter fun h => !(([p, q, r] : List Bool).getD h false)) = [d] := by
  intro p q r
  cases p <;> cases q <;> cases r <;> intro h1 h2 <;> first
    | (cases h1; done)
    | exact absurd ⟨rfl, rfl, rfl⟩ h2
    | exact ⟨0, by decide, by decide, by decide⟩
    | exact ⟨1, by decide, by decide, by decide⟩
    | exact ⟨2, by decide, by decide, by decide⟩
/-- the word of h among three -/
def w3 (p q r : Bool) (h : Nat) : Bool := ([p, q, r] : List Bool).getD (h % 3) false
theorem against_iff : ∀ p q r : Bool, ∀ h : Fin 3, w3 p q r h.1 = true →
    (w3 p q r (h.1 + 1) = w3 p q r (h.1 + 2) → ((([0, 1, 2] : List Int).filter fun z => !decide (z = (h.1 : Int))).filter fun z => !decide (w3 p q r z.toNat = maj p q r)) = []) ∧
    (w3 p q r (h.1 + 1) ≠ w3 p q r (h.1 + 2) → ∃ d : Nat, disB p q r = some d ∧ ((([0, 1, 2] : List Int).filter fun z => !decide (z = (h.1 : Int))).filter fun z => !decide (w3 p q r z.toNat = maj p q r)) = [(d : Int)]) := by
  intro p q r h
  have h3 : h = 0 ∨ h = 1 ∨ h = 2 := by
    obtain ⟨h, hh⟩ := h
    have : h = 0 ∨ h = 1 ∨ h = 2 := by omega
    rcases this with rfl | rfl | rfl
    · exact .inl rfl
    · exact .inr (.inl rfl)
    · exact .inr (.inr rfl)
  rcases h3 with rfl | rfl | rfl <;> cases p <;> cases q <;> cases r <;> intro h1 <;> first
    | (exact absurd h1 (by decide); done)
    | (refine ⟨fun _ => by decide, fun h2 => absurd (by decide) h2⟩; done)
    | (refine ⟨fun h2 => absurd h2 (by decide), fun _ => ⟨0, by decide, by decide⟩⟩; done)
    | (refine ⟨fun h2 => absurd h2 (by decide), fun _ => ⟨1, by decide, by decide⟩⟩; done)
    | (refine ⟨fun h2 => absurd h2 (by decide), fun _ => ⟨2, by decide, by decide⟩⟩; done)
theorem w3_row {gs : List (List Int)} {x y : Int} {h : Nat} : w3 (sayB (row gs 0) x y) (sayB (row gs 1) x y) (sayB (row gs 2) x y) h = sayB (row gs (h % 3)) x y := by
  unfold w3
  have : h % 3 = 0 ∨ h % 3 = 1 ∨ h % 3 = 2 := by omega
  rcases this with e | e | e <;> rw [e] <;> rfl
/-- the replicas that say otherwise -/
def agL (gs : List (List Int)) (s : Int × Int) : List Int := ((([0, 1, 2] : List Int).filter fun z => !decide (z = s.1)).filter fun z => !decide (sayB (row gs z.toNat) (kx gs s.1.toNat s.2.toNat) (kx gs s.1.toNat (s.2.toNat + 1)) = decide ((kx gs s.1.toNat s.2.toNat, kx gs s.1.toNat (s.2.toNat + 1)) ∈ readL gs)))
theorem against {gs : List (List Int)} (v : VS gs) {s : Int × Int} (hc : stepB gs s = true) : (sil gs s = true → agL gs s = []) ∧ (sil gs s = false → ∃ d : Nat, barN gs s = some d ∧ agL gs s = [(d : Int)]) := by
  obtain ⟨h, i⟩ := s
  have hs := stepB_ok hc
  dsimp only at hs
  have hh : h.toNat < 3 := by omega
  have eh : ((h.toNat : Nat) : Int) = h := by omega
  have m1 := kx_mem v hh (i := i.toNat) (by omega)
  have m2 := kx_mem v hh (i := i.toNat + 1) (by omega)
  have hl := v.leq hh
  have nd := v.nd hh
  have x1 : (row gs h.toNat).idxOf (kx gs h.toNat i.toNat) = i.toNat := gd_idx nd (i := i.toNat) (by omega)
  have x2 : (row gs h.toNat).idxOf (kx gs h.toNat (i.toNat + 1)) = i.toNat + 1 := gd_idx nd (i := i.toNat + 1) (by omega)
  have hw : sayB (row gs h.toNat) (kx gs h.toNat i.toNat) (kx gs h.toNat (i.toNat + 1)) = true := by
    unfold sayB
    rw [x1, x2]
    exact decide_eq_true (by omega)
  obtain ⟨a1, a2⟩ := against_iff (sayB (row gs 0) (kx gs h.toNat i.toNat) (kx gs h.toNat (i.toNat + 1))) (sayB (row gs 1) (kx gs h.toNat i.toNat) (kx gs h.toNat (i.toNat + 1))) (sayB (row gs 2) (kx gs h.toNat i.toNat) (kx gs h.toNat (i.toNat + 1))) ⟨h.toNat, hh⟩ (by
    rw [w3_row, Nat.mod_eq_of_lt hh]
    exact hw)
  have eg : agL gs (h, i) = ((([0, 1, 2] : List Int).filter fun z => !decide (z = ((h.toNat : Nat) : Int))).filter fun z => !decide (w3 (sayB (row gs 0) (kx gs h.toNat i.toNat) (kx gs h.toNat (i.toNat + 1))) (sayB (row gs 1) (kx gs h.toNat i.toNat) (kx gs h.toNat (i.toNat + 1))) (sayB (row gs 2) (kx gs h.toNat i.toNat) (kx gs h.toNat (i.toNat + 1))) z.toNat = maj (sayB (row gs 0) (kx gs h.toNat i.toNat) (kx gs h.toNat (i.toNat + 1))) (sayB (row gs 1) (kx gs h.toNat i.toNat) (kx gs h.toNat (i.toNat + 1))) (sayB (row gs 2) (kx gs h.toNat i.toNat) (kx gs h.toNat (i.toNat + 1))))) := by
    unfold agL
    dsimp only
    rw [eh, read_dec v m1 m2]
    refine List.filter_congr fun z hz => ?_
    have hz := (List.mem_filter.mp hz).1
    rw [w3_row]
    simp only [List.mem_cons, List.not_mem_nil, or_false] at hz
    rcases hz with rfl | rfl | rfl <;> rfl
  rw [← eg] at a1 a2
  rw [w3_row, w3_row] at a1 a2
  unfold sil silB
  constructor
  · intro q
    exact a1 (of_decide_eq_true q)
  · intro q
    obtain ⟨d, d1, d2⟩ := a2 (of_decide_eq_false q)
    refine ⟨d, ?_, d2⟩
    unfold barN sil silB
    rw [q, dis_eq]
    exact d1
def disL (gs : List (List Int)) (p : Int × Int) : List Nat := (List.range 3).filter fun h => cycB (row gs 0) (readL gs) p.1 p.2 && !decide (p ∈ wordsL (row gs h))
theorem shL_eq {gs : List (List Int)} : shL gs = (readL gs).flatMap fun p => (disL gs p).map fun (h : Nat) => (p.1, p.2, (h : Int)) := rfl
theorem word_say {gs : List (List Int)} (v : VS gs) {h : Nat} (hh : h < 3) {p : Int × Int} (hp : p ∈ readL gs) : decide (p ∈ wordsL (row gs h)) = sayB (row gs h) p.1 p.2 := by
  obtain ⟨x, y⟩ := p
  have hm := (read_mem v).mp hp
  exact words_say (v.nd hh) (v.row hh).2 hm.1 hm.2.1
theorem disL_one {gs : List (List Int)} (v : VS gs) {p : Int × Int} (hp : p ∈ readL gs) : (cycB (row gs 0) (readL gs) p.1 p.2 = false → disL gs p = []) ∧ (cycB (row gs 0) (readL gs) p.1 p.2 = true → ∃ d : Nat, d < 3 ∧ disN gs p.1 p.2 = some d ∧ disL gs p = [d]) := by
  unfold disL
  constructor
  · intro h
    rw [h, List.filter_eq_nil_iff]
    intro a _
    simp
  · intro h
    have h1 := pin_dis v h
    obtain ⟨x, y⟩ := p
    obtain ⟨_, _, h2⟩ := (read_mem v).mp hp
    obtain ⟨d, d1, d2, d3⟩ := disB_one _ _ _ h2 h1
    refine ⟨d, d2, by rw [dis_eq]; exact d1, ?_⟩
    rw [← d3]
    refine List.filter_congr fun z hz => ?_
    have hz := List.mem_range.mp hz
    rw [h, word_say v hz hp]
    have : z = 0 ∨ z = 1 ∨ z = 2 := by omega
    rcases this with rfl | rfl | rfl <;> rfl
def dealD (gs : List (List Int)) (p : Int × Int) : D := .tup [.int p.1, .int p.2, oN (disN gs p.1 p.2)]
theorem deal_eq {gs : List (List Int)} (v : VS gs) : (pinL (row gs 0) (readL gs)).map (dealD gs) = (shL gs).map trD := by
  have c : ∀ l : List (Int × Int), (∀ p ∈ l, p ∈ readL gs) → (l.filter fun p => cycB (row gs 0) (readL gs) p.1 p.2).map (dealD gs) = (l.flatMap fun p => (disL gs p).map fun (h : Nat) => (p.1, p.2, (h : Int))).map trD := fun l => by
    induction l with
    | nil => intro _; rfl
    | cons p l ih =>
      intro hl
      have ih := ih fun z hz => hl z (List.mem_cons_of_mem _ hz)
      obtain ⟨k1, k2⟩ := disL_one v (hl p List.mem_cons_self)
      rw [List.flatMap_cons, List.map_append, ← ih, List.filter_cons]
      cases e : cycB (row gs 0) (readL gs) p.1 p.2 with
      | false =>
        rw [k1 e] <;> rfl
      | true =>
        obtain ⟨d, _, d1, d2⟩ := k2 e
        rw [d2, if_pos rfl, List.map_cons]
        have : dealD gs p = trD (p.1, p.2, (d : Int)) := by
          unfold dealD
          rw [d1] <;> rfl
        rw [this] <;> rfl
  exact c _ fun _ h => h
theorem exch_say {o : List Int} (nd : o.Nodup) {i : Nat} (hi : i + 1 < o.length) {x y : Int} (hx : x ∈ o) (hy : y ∈ o) (h1 : ¬ (x = o.getD i 0 ∧ y = o.getD (i + 1) 0)) (h2 : ¬ (y = o.getD i 0 ∧ x = o.getD (i + 1) 0)) : sayB (exch o i) x y = sayB o x y := by
  have ex := exch_idx (i := i) nd hx hi
  have ey := exch_idx (i := i) nd hy hi
  have gx := gd_of hx
  have gy := gd_of hy
  have n1 : ¬ (o.idxOf x = i ∧ o.idxOf y = i + 1) := fun ⟨a, b⟩ => h1 ⟨by rw [← a, gx], by rw [← b, gy]⟩
  have n2 : ¬ (o.idxOf y = i ∧ o.idxOf x = i + 1) := fun ⟨a, b⟩ => h2 ⟨by rw [← a, gy], by rw [← b, gx]⟩
  unfold sayB
  rw [ex, ey]
  refine decide_eq_decide.mpr ?_
  split <;> split <;> (try split) <;> (try split) <;> omega
theorem maj_all : ∀ p q r : Bool, ∀ h : Fin 3, maj p q r = true → w3 p q r h.1 = true → w3 p q r (h.1 + 1) = w3 p q r (h.1 + 2) → p = true ∧ q = true ∧ r = true := by
  intro p q r h
  have h3 : h = 0 ∨ h = 1 ∨ h = 2 := by
    obtain ⟨h, hh⟩ := h
    have : h = 0 ∨ h = 1 ∨ h = 2 := by omega
    rcases this with rfl | rfl | rfl
    · exact .inl rfl
    · exact .inr (.inl rfl)
    · exact .inr (.inr rfl)
  rcases h3 with rfl | rfl | rfl <;> cases p <;> cases q <;> cases r <;> decide
/-- the two others agree about a pinned pair: then the third says otherwise -/
theorem pin_third {gs : List (List Int)} (v : VS gs) {h : Nat} (hh : h < 3) {x y : Int} (hp : (x, y) ∈ readL gs) (hc : cycB (row gs 0) (readL gs) x y = true) (ha : sayB (row gs ((h + 1) % 3)) x y = sayB (row gs ((h + 2) % 3)) x y) : sayB (row gs h) x y = false := by
  have h1 := pin_dis v hc
  obtain ⟨_, _, h2⟩ := (read_mem v).mp hp
  cases e : sayB (row gs h) x y with
  | false => rfl
  | true =>
    refine absurd (maj_all _ _ _ ⟨h, hh⟩ h2 ?_ ?_) h1
    · rw [w3_row, Nat.mod_eq_of_lt hh]
      exact e
    · rw [w3_row, w3_row]
      exact ha
theorem sh_sil {gs : List (List Int)} (v : VS gs) {s : Int × Int} (hc : stepB gs s = true) (hq : sil gs s = true) : shL (sws gs s) = shL gs := by
  have er := (sil_read v hc).mpr hq
  have v' := v.swp hc
  have p0 := sws_row0 v hc
  obtain ⟨h, i⟩ := s
  have hs := stepB_ok hc
  dsimp only at hs
  have hh : h.toNat < 3 := by omega
  have nd := v.nd hh
  have hl := v.leq hh
  have hi : i.toNat + 1 < (row gs h.toNat).length := by omega
  have es : sws gs (h, i) = gs.set h.toNat (exch (row gs h.toNat) i.toNat) := rfl
  have rs : row (sws gs (h, i)) h.toNat = exch (row gs h.toNat) i.toNat := by rw [es]; exact row_self v.len hh
  have ro : ∀ j, j ≠ h.toNat → row (sws gs (h, i)) j = row gs j := fun j hj => by rw [es]; exact row_other v.len hh (fun e => hj e.symm)
  rw [shL_eq, shL_eq, er]
  have c : ∀ l : List (Int × Int), (∀ p ∈ l, p ∈ readL gs) → (l.flatMap fun p => (disL (sws gs (h, i)) p).map fun (h : Nat) => (p.1, p.2, (h : Int))) = l.flatMap fun p => (disL gs p).map fun (h : Nat) => (p.1, p.2, (h : Int)) := fun l => by
    induction l with
    | nil => intro _; rfl
    | cons p l ih =>
      intro hl'
      rw [List.flatMap_cons, List.flatMap_cons, ih fun z hz => hl' z (List.mem_cons_of_mem _ hz)]
      have hp := hl' p List.mem_cons_self
      have hp' : p ∈ readL (sws gs (h, i)) := by rw [er]; exact hp
      have : disL (sws gs (h, i)) p = disL gs p := by
        unfold disL
        rw [er, cyc_perm p0]
        refine List.filter_congr fun j hj => ?_
        have hj := List.mem_range.mp hj
        cases ec : cycB (row gs 0) (readL gs) p.1 p.2 with
        | false => rfl
        | true =>
          rw [Bool.true_and, Bool.true_and, word_say v hj hp, word_say v' hj hp']
          by_cases e : j = h.toNat
          · subst e
            obtain ⟨x, y⟩ := p
            have hm := (read_mem v).mp hp
            have hx := (v.row hh).2.mem_iff.mpr hm.1
            have hy := (v.row hh).2.mem_iff.mpr hm.2.1
            rw [rs]
            dsimp only at ec ⊢
            have ec' : cycB (row (sws gs (h, i)) 0) (readL (sws gs (h, i))) x y = true := by rw [er, cyc_perm p0]; exact ec
            by_cases ha : sayB (row gs ((h.toNat + 1) % 3)) x y = sayB (row gs ((h.toNat + 2) % 3)) x y
            · have k1 := pin_third v hh hp ec ha
              have k2 := pin_third v' hh hp' ec' (by rw [ro _ (by omega), ro _ (by omega)]; exact ha)
              rw [rs] at k2
              rw [k1, k2]
            · rw [exch_say nd hi hx hy]
              · rintro ⟨rfl, rfl⟩
                exact ha (of_decide_eq_true hq)
              · rintro ⟨rfl, rfl⟩
                have := of_decide_eq_true hq
                have this : sayB (row gs ((h.toNat + 1) % 3)) ((row gs h.toNat).getD i.toNat 0) ((row gs h.toNat).getD (i.toNat + 1) 0) = sayB (row gs ((h.toNat + 2) % 3)) ((row gs h.toNat).getD i.toNat 0) ((row gs h.toNat).getD (i.toNat + 1) 0) := this
                refine ha ?_
                have ne : (row gs h.toNat).getD i.toNat 0 ≠ (row gs h.toNat).getD (i.toNat + 1) 0 := fun e => by
                  have x1 := gd_idx nd (i := i.toNat) (by omega)
                  have x2 := gd_idx nd (i := i.toNat + 1) hi
                  rw [e] at x1
                  omega
                rw [say_turn (v.row (h := (h.toNat + 1) % 3) (by omega)).2 hm.2.1 hm.1 ne, say_turn (v.row (h := (h.toNat + 2) % 3) (by omega)).2 hm.2.1 hm.1 ne, this]
          · rw [ro j e]
      rw [this]
  exact c _ fun _ h => h
theorem read_lex {gs : List (List Int)} (v : VS gs) : (readL gs).Pairwise fun p q => p.1 < q.1 ∨ p.1 = q.1 ∧ p.2 < q.2 := by
  have nd := v.nd (h := 0) (by omega)
  have hs := srt_lt nd
  unfold readL
  generalize srt (row gs 0) = ks at hs ⊢
  have c : ∀ l : List Int, l.Pairwise (· < ·) → (l.flatMap fun x => (ks.filter fun y => decide (1 < (gs.filter fun o => decide ((x, y) ∈ wordsL o)).length)).map fun y => (x, y)).Pairwise fun p q => p.1 < q.1 ∨ p.1 = q.1 ∧ p.2 < q.2 := fun l => by
    induction l with
    | nil => intro _; exact .nil
    | cons x l ih =>
      intro hl
      obtain ⟨h1, h2⟩ := List.pairwise_cons.mp hl
      rw [List.flatMap_cons]
      refine List.pairwise_append.mpr ⟨?_, ih h2, fun p hp q hq => ?_⟩
      · refine List.pairwise_map.mpr (List.Pairwise.imp ?_ (hs.sublist List.filter_sublist))
        intro a b hab
        exact .inr ⟨rfl, hab⟩
      · obtain ⟨a, _, rfl⟩ := List.mem_map.mp hp
        obtain ⟨z, hz, hm⟩ := List.mem_flatMap.mp hq
        obtain ⟨b, _, rfl⟩ := List.mem_map.mp hm
        exact .inl (h1 z hz)
  exact c ks hs
theorem read_lexI {gs : List (List Int)} (v : VS gs) : (readL gs).Pairwise lexI := (read_lex v).imp fun h => by
  rcases h with h | ⟨h, k⟩
  · exact .inl h
  · exact .inr ⟨h, Int.le_of_lt k⟩
theorem read_nd {gs : List (List Int)} (v : VS gs) : (readL gs).Nodup := (read_lex v).imp fun {p q} h e => by
  subst e
  rcases h with h | ⟨_, h⟩ <;> omega
theorem read_len {gs : List (List Int)} (v : VS gs) : (readL gs).length ≤ 144 := by
  have nd := v.nd (h := 0) (by omega)
  have h12 := v.l12 (h := 0) (by omega)
  have hs : (srt (row gs 0)).length = (row gs 0).length := (srt_perm _).length_eq
  have c : ∀ l : List Int, (l.flatMap fun x => ((srt (row gs 0)).filter fun y => decide (1 < (gs.filter fun o => decide ((x, y) ∈ wordsL o)).length)).map fun y => (x, y)).length ≤ l.length * 12 := fun l => by
    induction l with
    | nil => simp
    | cons x l ih =>
      rw [List.flatMap_cons, List.length_append, List.length_map, List.length_cons]
      have := List.length_filter_le (fun y => decide (1 < (gs.filter fun o => decide ((x, y) ∈ wordsL o)).length)) (srt (row gs 0))
      omega
  have := c (srt (row gs 0))
  unfold readL
  omega
theorem say_self {o : List Int} {x : Int} : sayB o x x = false := by
  unfold sayB
  simp
theorem maj_not : ∀ p q r : Bool, maj (!p) (!q) (!r) = !maj p q r := by decide
theorem read_gd {gs : List (List Int)} (v : VS gs) : Gd (srt (row gs 0)) (readL gs) := by
  have nd := v.nd (h := 0) (by omega)
  refine ⟨(srt_perm _).nodup_iff.mpr nd, fun x _ h => ?_, fun x hx y hy e => ?_⟩
  · have := ((read_mem v).mp h).2.2
    rw [say_self, say_self, say_self] at this
    cases this
  · have hx := srt_mem.mp hx
    have hy := srt_mem.mp hy
    rw [read_dec v hx hy, read_dec v hy hx, say_turn (v.row (h := 0) (by omega)).2 hx hy e, say_turn (v.row (h := 1) (by omega)).2 hx hy e, say_turn (v.row (h := 2) (by omega)).2 hx hy e, maj_not]
    cases maj (sayB (row gs 0) x y) (sayB (row gs 1) x y) (sayB (row gs 2) x y) <;> decide
theorem sh_len {gs : List (List Int)} (v : VS gs) : (shL gs).length ≤ 144 := by
  have h := congrArg List.length (deal_eq v)
  rw [List.length_map, List.length_map] at h
  rw [← h]
  exact Nat.le_trans (List.length_filter_le _ _) (read_len v)
theorem allS_step {gs : List (List Int)} {s : Int × Int} (h : s ∈ allS (row gs 0).length) : stepB gs s = true := by
  obtain ⟨j, hj, hm⟩ := List.mem_flatMap.mp h
  obtain ⟨i, hi, rfl⟩ := List.mem_map.mp hm
  have hj := List.mem_range.mp hj
  have hi := List.mem_range.mp hi
  unfold stepB
  simp only [Bool.and_eq_true, decide_eq_true_eq]
  omega
theorem silL_flat {gs : List (List Int)} : silL gs = (List.range 3).flatMap fun (h : Nat) => ((List.range ((row gs 0).length - 1)).filter fun (i : Nat) => sil gs ((h : Int), (i : Int))).map fun (i : Nat) => ((h : Int), (i : Int)) := by
  unfold silL allS
  generalize List.range 3 = l
  induction l with
  | nil => rfl
  | cons h l ih =>
    rw [List.flatMap_cons, List.flatMap_cons, List.filter_append, ih, List.filter_map] <;> rfl
section
variable {K : PySem.W.Frag} {W : WX} {ds : List D} {O : Ow} {k : Kk} {x : Xk}
theorem w_apply_swap (h : sp_apply_swap K ds O k x) (lo : ∀ p ∈ O, p.loc = false) : wpS K W (fun e _ O' => x e O') (t_apply_swap K W) (startD N_apply_swap.length ds) O { nx := fun _ O' => k .non O', rt := k } := by
  obtain ⟨gs, s, ⟨rfl, rfl⟩, v, h1, h2, h3⟩ := h
  unfold t_apply_swap
  walk_at "start"
  walk_at "w"
  walk_at "c0"
  refine ⟨gs, s, ⟨rfl, rfl⟩, v, fun hc => ?_, fun hc => h1 hc⟩
  walk_at "w"
  refine ⟨fun hq => ?_, fun hq => ?_⟩
  · have hq : sil gs s = false := by simpa using hq
    walk_at "w"
    exact ⟨fmt_small (by omega), h3 hc hq⟩
  · have hq : sil gs s = true := by simpa using hq
    walk_at "wr"
    walk_at "c0"
    exact ⟨gs, s, ⟨rfl, rfl⟩, v, hc, h2 hc hq⟩
theorem wsB_len {gs : List (List Int)} {a b : Int} : (wsB gs a b).length = 3 := by
  unfold wsB
  rw [List.length_map, List.length_range]
theorem dis_at {gs : List (List Int)} {a b : Int} {i : Nat} {w : Bool} (h : (wsB gs a b)[i]? = some w) (hc : (wsB gs a b).count w = 1) (hn : ∀ j, j < i → ¬ (wsB gs a b).count ((wsB gs a b).getD j false) = 1) : disN gs a b = some i := by
  have hi : i < 3 := by
    have := (List.getElem?_eq_some_iff.mp h).1
    rw [wsB_len] at this
    exact this
  unfold disN
  rw [List.find?_range_eq_some]
  refine ⟨?_, List.mem_range.mpr hi, fun j hj => ?_⟩
  · rw [List.getD_eq_getElem?_getD, h]
    exact decide_eq_true hc
  · rw [decide_eq_false (hn j hj)] <;> rfl
theorem w_dissenter (T : FT_dissenter K) (h : sp_dissenter K ds O k x) (lo : ∀ p ∈ O, p.loc = false) : wpS K W (fun e _ O' => x e O') (t_dissenter K W) (startD N_dissenter.length ds) O { nx := fun _ O' => k .non O', rt := k } := by
  obtain ⟨gs, a, b, ⟨rfl, rfl⟩, v, ha, hb, hk⟩ := h
  obtain ⟨T1, u, T2⟩ := T.cv_State_REPLICAS
  have b1 := wrong_rng (v.row (h := 0) (by omega)).1 _ ha
  have b2 := wrong_rng (v.row (h := 0) (by omega)).1 _ hb
  unfold t_dissenter
  walk_at "start"
  walk_at "w"
  apply wpE_mapP (as := List.range 3) (enc := fun (i : Nat) => D.int (0 + (i : Int))) (f := fun i => D.bl (sayB (row gs i) a b)) true (gIn_name (by decide)) gMono_name
  walk_at "w"
  refine wpE_cval T1 T2 (fun _ => .int 3) ?_
  walk_at "w"
  refine ⟨rfl, ?_⟩
  walk_at "w"
  refine ⟨⟨by decide, by decide⟩, rfl, small1000 (by decide), trivial, fun i z hz => ?_, ?_⟩
  · obtain ⟨rfl, hz⟩ := range_get hz
    walk_at "w"
    refine ⟨rfl, ?_⟩
    walk_at "m0"
    refine ⟨gs, _, _, _, ⟨rfl, rfl⟩, v, by omega, by omega, by omega, fun _ _ _ => ?_, fun q => absurd (by omega) q, fun _ q => absurd ha q, fun _ _ q => absurd hb q⟩
    refine ⟨?_, rfl⟩
    have e : (0 + (z : Int)).toNat = z := by omega
    rw [e]
  have ew : (List.range 3).map (fun i => D.bl (sayB (row gs i) a b)) = (wsB gs a b).map D.bl := by
    unfold wsB
    rw [List.map_map] <;> rfl
  rw [ew]
  walk_at "w"
  refine wpS_seq ?_
  refine wpS_for2 4 5 (fun i q r O' => O' = [] ∧ ∀ j, j < i → ¬ (wsB gs a b).count ((wsB gs a b).getD j false) = 1) (as := (wsB gs a b).zipIdx) (enc := fun p => D.tup [.int (p.2 : Nat), .bl p.1]) ?_
  walk_at "w"
  refine ⟨_, (wsB gs a b).map D.bl, rfl, seq_l, enumD_map D.bl _, ⟨rfl, fun j hj => by omega⟩, fun _ _ _ _ _ _ => seq_l, ?_, ?_⟩
  · intro i p q r O' hp hJ
    obtain ⟨rfl, hJ⟩ := hJ
    obtain ⟨w, i'⟩ := p
    obtain ⟨ho, e⟩ := zip_get hp
    dsimp only at ho e
    subst e
    walk_at "w"
    refine wpM_countB seq_l ?_
    walk_at "w"
    refine ⟨fun hc => ?_, fun hc => ?_⟩
    · have hc := of_decide_eq_true hc
      walk_at "wr"
      rw [dis_at ho (by omega) hJ] at hk
      exact hk
    · have hc := of_decide_eq_false hc
      walk_at "w"
      refine ⟨_, _, rfl, rfl, fun j hj => ?_⟩
      by_cases e : j = i'
      · rw [e, List.getD_eq_getElem?_getD, ho]
        intro z
        exact hc (by rw [show (some w).getD false = w from rfl] at z; rw [z] <;> rfl)
      · exact hJ j (by omega)
  · intro q r O' hJ
    obtain ⟨rfl, hJ⟩ := hJ
    walk_at "wr"
    have : disN gs a b = none := by
      unfold disN
      rw [List.find?_eq_none]
      intro j hj
      have hj := List.mem_range.mp hj
      have := hJ j (by rw [List.length_zipIdx, wsB_len]; exact hj)
      simpa using this
    rw [this] at hk
    exact hk
theorem w_barred_by (h : sp_barred_by K ds O k x) (lo : ∀ p ∈ O, p.loc = false) : wpS K W (fun e _ O' => x e O') (t_barred_by K W) (startD N_barred_by.length ds) O { nx := fun _ O' => k .non O', rt := k } := by
  obtain ⟨gs, s, ⟨rfl, rfl⟩, v, h1, h2⟩ := h
  unfold t_barred_by
  walk_at "start"
  walk_at "w"
  walk_at "c0"
  refine ⟨gs, s, ⟨rfl, rfl⟩, v, fun hc => ?_, fun hc => h1 hc⟩
  have hs := stepB_ok hc
  have h2 := h2 hc
  unfold barN at h2
  walk_at "w"
  refine ⟨fun hq => ?_, fun hq => ?_⟩
  · rw [if_pos hq] at h2
    walk_at "wr"
    exact h2
  · rw [if_neg (by rw [hq]; decide)] at h2
    walk_at "w"
    walk_at "c0"
    refine ⟨gs, s, ⟨rfl, rfl⟩, v, fun _ => ?_, fun q => by rw [hc] at q; cases q⟩
    walk_at "wr"
    walk_at "c0"
    exact ⟨gs, _, _, ⟨rfl, rfl⟩, v, kx_mem v (by omega) (by omega), kx_mem v (by omega) (by omega), h2⟩
end
section
variable {K : PySem.W.Frag} {W : WX} {ds : List D} {O : Ow} {k : Kk} {x : Xk}
theorem lex_uniq {ms ps : List (Int × Int)} (h1 : ms.Perm ps) (h2 : ms.Pairwise lexI) (h3 : ps.Pairwise lexI) : ms = ps :=
  List.Perm.eq_of_pairwise (le := lexI) (fun x y _ _ h3 h4 => by
    obtain ⟨x1, x2⟩ := x
    obtain ⟨y1, y2⟩ := y
    unfold lexI at h3 h4
    simp only [Prod.mk.injEq]
    dsimp only at h3 h4
    omega) h2 h3 h1
theorem pd_val (l : List (Int × Int)) (p : Int × Int) : (valD (pdD l) [Sum.inl p.1, Sum.inl p.2]).isSome = decide (p ∈ l) := pair_val l p
theorem w_Reading_pairs (T : FT_Reading_pairs K) (h : sp_Reading_pairs K ds O k x) (lo : ∀ p ∈ O, p.loc = false) : wpS K W (fun e _ O' => x e O') (t_Reading_pairs K W) (startD N_Reading_pairs.length ds) O { nx := fun _ O' => k .non O', rt := k } := by
  obtain ⟨ks, ps, ⟨rfl, rfl⟩, hp, hk⟩ := h
  unfold t_Reading_pairs
  walk_at "start"
  walk_at "wr"
  refine wpE_fld T.C_Reading T.na_Reading__before ?_
  walk_at "w"
  walk_at "w"
  refine wpC_sortTD true rfl fun ms h1 h2 => ?_
  obtain rfl := lex_uniq h1 h2 hp
  exact hk
theorem w_Reading__in_a_cycle (T : FT_Reading__in_a_cycle K) (h : sp_Reading__in_a_cycle K ds O k x) (lo : ∀ p ∈ O, p.loc = false) : wpS K W (fun e _ O' => x e O') (t_Reading__in_a_cycle K W) (startD N_Reading__in_a_cycle.length ds) O { nx := fun _ O' => k .non O', rt := k } := by
  obtain ⟨ks, ps, a, b, ⟨rfl, rfl⟩, hl, hk⟩ := h
  unfold t_Reading__in_a_cycle
  walk_at "start"
  walk_at "wr"
  apply wpE_mapP (as := ks) (enc := D.int) (f := fun z => D.bl (decide ((b, z) ∈ ps) && decide ((z, a) ∈ ps))) true (gIn_name (by decide)) gMono_name
  walk_at "w"
  refine wpE_fld T.C_Reading T.na_Reading__keys ?_
  walk_at "w"
  refine ⟨_, seq_l, rfl, small1000 hl, seq_l, fun i z hz => ?_, ?_⟩
  · refine wpG_name ⟨rfl, ?_⟩
    refine wpE_andV ?_
    refine wpE_dinT ?_
    walk_at "w"
    refine ⟨by show 2 ≤ sizeLine; decide, ?_⟩
    refine wpE_fld T.C_Reading T.na_Reading__before ?_
    walk_at "w"
    refine ⟨pdD ps, [.inl b, .inl z], dt_l, rfl, ?_⟩
    rw [pd_val ps (b, z)]
    refine ⟨_, rfl, fun hc => ?_, fun hc => ?_⟩
    · rw [hc]
      refine wpE_dinT ?_
      walk_at "w"
      refine ⟨by show 2 ≤ sizeLine; decide, ?_⟩
      refine wpE_fld T.C_Reading T.na_Reading__before ?_
      walk_at "w"
      refine ⟨pdD ps, [.inl z, .inl a], dt_l, rfl, ?_⟩
      rw [pd_val ps (z, a)]
      exact ⟨rfl, rfl⟩
    · rw [hc]
      exact ⟨rfl, rfl⟩
  walk_at "w"
  refine wpC_any (bs := ks.map fun z => decide ((b, z) ∈ ps) && decide ((z, a) ∈ ps)) (by rw [List.map_map]; exact seq_l) ?_
  rw [List.any_map]
  exact hk
theorem w_Reading_pinned (h : sp_Reading_pinned K ds O k x) (lo : ∀ p ∈ O, p.loc = false) : wpS K W (fun e _ O' => x e O') (t_Reading_pinned K W) (startD N_Reading_pinned.length ds) O { nx := fun _ O' => k .non O', rt := k } := by
  obtain ⟨ks, ps, ⟨rfl, rfl⟩, hp, hl, hl2, hk⟩ := h
  unfold t_Reading_pinned
  walk_at "start"
  walk_at "wr"
  apply wpE_filP (as := ps) (enc := PyD.prD) (c := fun p => cycB ks ps p.1 p.2) (f := PyD.prD) true (gIn_tup2 (by simp) (by simp)) gMono_tup2
  walk_at "w"
  walk_at "m0"
  refine ⟨ks, ps, ⟨rfl, rfl⟩, hp, ?_⟩
  walk_at "w"
  refine ⟨_, seq_l, rfl, Nat.lt_of_le_of_lt hl2 (by decide), seq_l, fun i p hz => ?_, ?_⟩
  · walk_at "w"
    refine ⟨rfl, ?_, fun _ => ?_⟩
    · walk_at "w"
      walk_at "m0"
      refine ⟨ks, ps, _, _, ⟨rfl, rfl⟩, hl, ?_⟩
      walk_at "w"
      exact ⟨rfl, rfl⟩
    · walk_at "w"
      exact ⟨by show 2 ≤ sizeLine; decide, rfl, rfl⟩
  · exact hk
theorem w__first_wrong_pair (h : sp__first_wrong_pair K ds O k x) (lo : ∀ p ∈ O, p.loc = false) : wpS K W (fun e _ O' => x e O') (t__first_wrong_pair K W) (startD N__first_wrong_pair.length ds) O { nx := fun _ O' => k .non O', rt := k } := by
  obtain ⟨ks, ps, ⟨rfl, rfl⟩, hl, g, hk⟩ := h
  unfold t__first_wrong_pair
  walk_at "start"
  refine wpS_seq ?_
  refine wpS_for3 2 3 4 (fun i q r s O' => O' = []) (as := ks.zipIdx) (enc := fun p => D.tup [.int (p.2 : Nat), .int p.1]) ?_
  walk_at "w"
  refine ⟨_, ks.map D.int, rfl, seq_l, enumD_map D.int _, rfl, fun _ _ _ _ _ _ _ => seq_l, ?_, ?_⟩
  · intro i p q r s O' hp hJ
    subst hJ
    obtain ⟨w, i'⟩ := p
    obtain ⟨ho, e⟩ := zip_get hp
    dsimp only at ho e
    subst e
    have hw := List.mem_of_getElem? ho
    have hi : i' < ks.length := (List.getElem?_eq_some_iff.mp ho).1
    refine wpG_tup rfl (wpGs_cons (wpG_name (wpGs_cons (wpG_name (wpGs_nil ?_)))))
    dsimp only [List.set_cons_zero, List.set_cons_succ]
    refine wpS_seq ?_
    refine wpS_iteP (c := false) ?_ ⟨fun hc => (by cases hc), fun _ => ?_⟩
    · refine wpT_B (wpE_dinT ?_)
      walk_at "w"
      refine ⟨by show 2 ≤ sizeLine; decide, ?_⟩
      walk_at "w"
      refine ⟨pdD ps, [.inl w, .inl w], dt_l, rfl, ?_⟩
      rw [pd_val ps (w, w)]
      exact ⟨_, rfl, decide_eq_false (g.self w hw), rfl⟩
    · refine wpS_next ?_
      refine wpS_for1 4 (fun i q O' => O' = []) (as := ks.drop (i' + 1)) (enc := D.int) ?_
      refine wpI_list ?_
      refine wpE_slL true ?_
      walk_at "w"
      refine ⟨ks.map D.int, seq_l, ?_⟩
      rw [show ((i' : Int) + 1) = ((i' + 1 : Nat) : Int) by omega, cut_from (by omega)]
      walk_at "w"
      refine ⟨_, seq_l, rfl, rfl, fun _ _ _ _ _ => seq_l, ?_, ?_⟩
      · intro j y q O' hy hJ
        subst hJ
        have hy' := List.mem_of_getElem? hy
        have hyk : y ∈ ks := List.mem_of_mem_drop hy'
        have ne : w ≠ y := fun e => by
          subst e
          rw [List.getElem?_drop] at hy
          have h1 := (List.getElem?_inj hi g.nd).mp (ho.trans hy.symm)
          omega
        refine wpG_name ?_
        dsimp only [List.set_cons_zero, List.set_cons_succ]
        refine wpS_iteP (c := false) ?_ ⟨fun hc => (by cases hc), fun _ => ?_⟩
        · refine wpT_test (wpE_op ?_)
          refine wpE_dinT ?_
          walk_at "w"
          refine ⟨by show 2 ≤ sizeLine; decide, ?_⟩
          walk_at "w"
          refine ⟨pdD ps, [.inl w, .inl y], dt_l, rfl, ?_⟩
          rw [pd_val ps (w, y)]
          refine wpE_dinT ?_
          walk_at "w"
          refine ⟨by show 2 ≤ sizeLine; decide, ?_⟩
          walk_at "w"
          refine ⟨pdD ps, [.inl y, .inl w], dt_l, rfl, ?_⟩
          rw [pd_val ps (y, w)]
          walk_at "w"
          exact ⟨decide_eq_false (g.one w hw y hyk ne), rfl⟩
        · walk_at "w"
      · intro q O' hJ
        exact ⟨_, _, _, rfl, hJ⟩
  · intro q r s O' hJ
    subst hJ
    walk_at "wr"
    exact hk
end
section
variable {K : PySem.W.Frag} {W : WX} {ds : List D} {O : Ow} {k : Kk} {x : Xk}
theorem nd_take {α : Type} {l : List α} (nd : l.Nodup) {i : Nat} {p : α} (h : l[i]? = some p) : p ∉ l.take i := fun hq => by
  obtain ⟨j, hj, e⟩ := List.getElem_of_mem hq
  rw [List.length_take] at hj
  rw [List.getElem_take] at e
  have h2 : l[j]? = some p := by rw [List.getElem?_eq_getElem (by omega), e]
  have h3 := (List.getElem?_inj (by omega) nd).mp (h2.trans h.symm)
  omega
theorem w_Reading___init__ (T : FT_Reading___init__ K) (h : sp_Reading___init__ K ds O k x) (lo : ∀ p ∈ O, p.loc = false) : wpS K W (fun e _ O' => x e O') (t_Reading___init__ K W) (startD N_Reading___init__.length ds) O { nx := fun _ O' => k .non O', rt := k } := by
  obtain ⟨s, ks, ps, ⟨rfl, rfl⟩, hw, g, hm, nd, hl, hk⟩ := h
  have hr := wrong_rng hw
  have hsm := wrong_sm hw
  have hkl := wrong_len hw
  have e1 : res1 ks = .ok := by
    unfold res1
    rw [hw]
  unfold t_Reading___init__
  walk_at "start"
  walk_at "w"
  walk_at "c0"
  refine ⟨ks, ⟨rfl, rfl⟩, hsm, fun _ => ?_, fun q => absurd e1 q⟩
  walk_at "w"
  refine wpS_seq ?_
  refine wpS_for2 6 7 (fun i q r O' => O' = [⟨s, false, .ins (He.ga K "Reading") []⟩]) (as := ps) (enc := PyD.prD) ?_
  walk_at "w"
  refine ⟨_, seq_l, rfl, rfl, fun _ _ _ _ _ _ => seq_l, ?_, ?_⟩
  · intro i p q r O' hp hJ
    subst hJ
    obtain ⟨m1, m2⟩ := hm p (List.mem_of_getElem? hp)
    have r1 := hr _ m1
    have r2 := hr _ m2
    walk_at "w"
    walk_at "c0"
    refine ⟨L ks, p.1, true, ⟨rfl, rfl⟩, by omega, .inl ⟨ks, rfl, (decide_eq_true m1).symm⟩, fun _ => ?_, fun q => by cases q⟩
    walk_at "w"
    walk_at "c0"
    refine ⟨L ks, p.2, true, ⟨rfl, rfl⟩, by omega, .inl ⟨ks, rfl, (decide_eq_true m2).symm⟩, fun _ => ?_, fun q => by cases q⟩
    walk_at "w"
    exact ⟨_, _, rfl, rfl⟩
  · intro q r O' hJ
    subst hJ
    walk_at "w"
    refine wpC_sortAI true seq_l fun ms h1 h2 => ?_
    obtain rfl := srt_uniq h1 h2
    walk_at "w"
    refine wpE_dcT true (gIn_tup2 (by simp) (by simp)) gMono_tup2 ?_
    walk_at "w"
    refine ⟨ps.map PyD.prD, seq_l, fun i acc O' => O' = [⟨s, false, .ins (He.ga K "Reading") []⟩] ∧ acc = pdD (ps.take i), ⟨rfl, rfl⟩, fun i acc O' hi hI => ⟨seq_l, ?_⟩, fun i p' acc O' hp' hI => ?_, fun acc O' hI => ?_⟩
    · rw [hI.2]
      unfold pdD
      rw [List.length_map, List.length_take]
      have : 10000 < sizeLine := by decide
      omega
    · obtain ⟨rfl, rfl⟩ := hI
      obtain ⟨p, hp, rfl⟩ := map_get hp'
      walk_at "w"
      refine wpT_yes ⟨fun _ => ?_, fun h => (by cases h)⟩
      walk_at "w"
      refine ⟨by show 2 ≤ sizeLine; decide, ?_⟩
      walk_at "w"
      refine ⟨[.inl p.1, .inl p.2], rfl, rfl, ?_⟩
      have hn : p ∉ ps.take i := fun hq => by
        have := nd_take nd hp
        exact this hq
      have := pair_put hn
      rw [List.take_succ, hp]
      exact this
    · obtain ⟨rfl, rfl⟩ := hI
      rw [List.length_map, List.take_length]
      dsimp only [dtEnd]
      walk_at "w"
      walk_at "c0"
      have g' : Gd (srt ks) ps := ⟨(srt_perm ks).nodup_iff.mpr g.nd, fun x hx => g.self x (srt_mem.mp hx), fun x hx y hy => g.one x (srt_mem.mp hx) y (srt_mem.mp hy)⟩
      refine ⟨srt ks, ps, ⟨rfl, rfl⟩, by rw [(srt_perm ks).length_eq]; omega, g', ?_⟩
      walk_at "w"
      refine ⟨fun hc => (by cases hc), fun _ => ?_⟩
      walk_at "w"
      refine wpS_seq ?_
      refine wpS_fld T.C_Reading T.na_Reading__keys ?_
      walk_at "w"
      refine ⟨0, _, _, _, rfl, rfl, by simp, ?_⟩
      walk_at "w"
      refine wpS_fld T.C_Reading T.na_Reading__before ?_
      walk_at "w"
      exact ⟨0, _, _, _, rfl, rfl, by simp [putA], hk⟩
theorem srt_idem {a : List Int} : srt (srt a) = srt a := srt_eq (srt_perm a)
theorem fl_take {ks l : List Int} {f : Int → Int → Bool} {i : Nat} {z : Int} (h : l[i]? = some z) : ((l.take (i + 1)).flatMap fun x => (ks.filter (f x)).map fun y => (x, y)) = ((l.take i).flatMap fun x => (ks.filter (f x)).map fun y => (x, y)) ++ (ks.filter (f z)).map fun y => (z, y) := by
  rw [List.take_succ, h, List.flatMap_append]
  show _ ++ ([z].flatMap fun x => (ks.filter (f x)).map fun y => (x, y)) = _
  rw [List.flatMap_cons, List.flatMap_nil, List.append_nil]
theorem w_read (h : sp_read K ds O k x) (lo : ∀ p ∈ O, p.loc = false) : wpS K W (fun e _ O' => x e O') (t_read K W) (startD N_read.length ds) O { nx := fun _ O' => k .non O', rt := k } := by
  obtain ⟨gs, ⟨rfl, rfl⟩, v, hk⟩ := h
  have vl := v.len
  have v0 := v.row (h := 0) (by omega)
  have h12 := v.l12 (h := 0) (by omega)
  have hsl : (srt (row gs 0)).length = (row gs 0).length := (srt_perm _).length_eq
  have nd0 := v.nd (h := 0) (by omega)
  obtain ⟨f, hf⟩ : ∃ f : Int → Int → Bool, f = fun x y => decide (1 < (gs.filter fun o => sayB o x y).length) := ⟨_, rfl⟩
  have hrd : readL gs = (srt (row gs 0)).flatMap fun x => ((srt (row gs 0)).filter (f x)).map fun y => (x, y) := by
    show ((srt (row gs 0)).flatMap fun x => ((srt (row gs 0)).filter fun y => decide (1 < (gs.filter fun o => decide ((x, y) ∈ wordsL o)).length)).map fun y => (x, y)) = _
    refine fl_eq.mpr fun x y hx hy => ?_
    have : (gs.filter fun o => decide ((x, y) ∈ wordsL o)) = gs.filter fun o => sayB o x y := List.filter_congr fun o ho => words_say ((v.same o ho).nodup_iff.mpr nd0) (v.same o ho) (srt_mem.mp hx) (srt_mem.mp hy)
    rw [hf, this]
  unfold t_read
  walk_at "start"
  walk_at "w"
  apply wpE_mapP (as := gs) (enc := L) (f := fun o => D.dK (idxD o)) true (gIn_name (by decide)) gMono_name
  refine wpI_list ?_
  refine wpE_fz ?_
  walk_at "m0"
  refine ⟨gs, ⟨rfl, rfl⟩, by omega, fun c => ⟨c, _, _, rfl, rfl, ?_⟩⟩
  walk_at "w"
  refine ⟨_, seq_l, rfl, small1000 (by omega), seq_l, fun i o ho => ?_, ?_⟩
  · walk_at "w"
    refine ⟨rfl, ?_⟩
    have hm := List.mem_of_getElem? ho
    walk_at "w"
    exact ⟨o, ⟨rfl, rfl⟩, wrong_sm (v.ok o hm), wrong_nodup (v.ok o hm), rfl, rfl⟩
  walk_at "w"
  refine wpE_fz ?_
  walk_at "m0"
  refine ⟨gs, ⟨rfl, rfl⟩, vl, fun c => ⟨c, _, _, rfl, rfl, ?_⟩⟩
  walk_at "w"
  refine wpE_lc2 true (gIn_name (by decide)) gMono_name (gIn_name (by decide)) gMono_name ?_
  walk_at "w"
  refine ⟨(srt (row gs 0)).map D.int, seq_l, fun i acc O' => O' = [] ∧ acc = (((srt (row gs 0)).take i).flatMap fun x => ((srt (row gs 0)).filter (f x)).map fun y => (x, y)).map PyD.prD, ⟨rfl, rfl⟩, fun _ _ _ _ _ => seq_l, fun i q acc O' hq hI => ?_, fun acc O' hI => ?_⟩
  · obtain ⟨rfl, rfl⟩ := hI
    obtain ⟨z, hz, rfl⟩ := map_get hq
    have hzm := srt_mem.mp (List.mem_of_getElem? hz)
    obtain ⟨A, hA⟩ : ∃ A, A = ((srt (row gs 0)).take i).flatMap fun x => ((srt (row gs 0)).filter (f x)).map fun y => (x, y) := ⟨_, rfl⟩
    have hAl : A.length ≤ 144 := by
      rw [hA]
      refine Nat.le_trans (fl_len (ks := srt (row gs 0)) (f := f) _) ?_
      have : ((srt (row gs 0)).take i).length ≤ 12 := by rw [List.length_take]; omega
      exact Nat.le_trans (Nat.mul_le_mul this (show (srt (row gs 0)).length ≤ 12 by omega)) (by decide)
    rw [← hA]
    walk_at "w"
    refine wpT_yes ⟨fun h => (by cases h), fun _ => ?_⟩
    walk_at "w"
    refine ⟨(srt (row gs 0)).map D.int, seq_l, fun j acc O' => O' = [] ∧ acc = (A ++ (((srt (row gs 0)).take j).filter (f z)).map fun y => (z, y)).map PyD.prD, ⟨rfl, by simp⟩, fun j acc O' hj hJ => ⟨seq_l, ?_⟩, fun j y acc O' hy hJ => ?_, fun acc O' hJ => ?_⟩
    · rw [hJ.2, List.length_map, List.length_append, List.length_map]
      have : (((srt (row gs 0)).take j).filter (f z)).length ≤ 12 := Nat.le_trans (List.length_filter_le ..) (by rw [List.length_take]; omega)
      exact small1000 (by omega)
    · obtain ⟨rfl, rfl⟩ := hJ
      obtain ⟨y, hy', rfl⟩ := map_get hy
      have hym := srt_mem.mp (List.mem_of_getElem? hy')
      walk_at "w"
      apply wpE_filP (α := List Int) (as := gs) (enc := fun o => D.dK (idxD o)) (f := fun o => D.dK (idxD o)) (c := fun o => sayB o z y) true (gIn_name (by decide)) gMono_name
      walk_at "w"
      refine ⟨_, seq_l, rfl, small1000 (by omega), seq_l, fun m o ho => ?_, ?_⟩
      · have hm := List.mem_of_getElem? ho
        have hon := wrong_nodup (v.ok o hm)
        have hzo := (v.same o hm).mem_iff.mpr hzm
        have hyo := (v.same o hm).mem_iff.mpr hym
        walk_at "w"
        refine ⟨rfl, ?_, fun _ => ?_⟩
        · walk_at "w"
          refine ⟨_, Sum.inl z, _, d_l, rfl, idx_val hon hzo, ?_⟩
          walk_at "w"
          refine ⟨_, Sum.inl y, _, d_l, rfl, idx_val hon hyo, ?_⟩
          walk_at "w"
          refine ⟨?_, rfl⟩
          unfold sayB
          exact decide_eq_decide.mpr (by omega)
        · walk_at "w"
          exact ⟨rfl, rfl⟩
      walk_at "w"
      have ef : decide (2 ≤ (((gs.filter fun o => sayB o z y).map fun o => D.dK (idxD o)).length : Int)) = f z y := by
        rw [hf, List.length_map]
        exact decide_eq_decide.mpr (by omega)
      have et := take_snoc hy'
      refine ⟨fun hc => ?_, fun hc => ?_⟩
      · have hc : f z y = true := by
          rw [← ef]
          simpa using hc
        walk_at "w"
        refine ⟨by show 2 ≤ sizeLine; decide, rfl, ?_⟩
        rw [et, List.filter_append, List.filter_cons, if_pos hc]
        simp
      · have hc : f z y = false := by
          rw [← ef]
          simpa using hc
        refine ⟨rfl, ?_⟩
        rw [et, List.filter_append, List.filter_cons, hc]
        simp
    · obtain ⟨rfl, rfl⟩ := hJ
      refine ⟨rfl, ?_⟩
      rw [List.length_map, List.take_length, fl_take hz, ← hA]
  · obtain ⟨rfl, rfl⟩ := hI
    rw [List.length_map, List.take_length, ← hrd]
    walk_at "w"
    refine wpS_ret ?_
    refine wpE_make (fun _ => .nil) ?_
    walk_at "w"
    rw [← srt_idem] at hk
    refine ⟨[], lent_nil, fun s' _ => ⟨s', srt (row gs 0), readL gs, ⟨rfl, rfl⟩, wrong_perm v0.1 (srt_perm _), read_gd v, fun p hp => ?_, read_nd v, Nat.le_trans (read_len v) (by decide), rfl, [], _, rfl, hk⟩⟩
    obtain ⟨a, b⟩ := p
    obtain ⟨h1, h2, _⟩ := (read_mem v).mp hp
    exact ⟨srt_mem.mpr h1, srt_mem.mpr h2⟩
theorem w_dealing (h : sp_dealing K ds O k x) (lo : ∀ p ∈ O, p.loc = false) : wpS K W (fun e _ O' => x e O') (t_dealing K W) (startD N_dealing.length ds) O { nx := fun _ O' => k .non O', rt := k } := by
  obtain ⟨gs, ⟨rfl, rfl⟩, v, hk⟩ := h
  have h12 := v.l12 (h := 0) (by omega)
  have hsl : (srt (row gs 0)).length = (row gs 0).length := (srt_perm _).length_eq
  have hl := read_len v
  have e : pinL (srt (row gs 0)) (readL gs) = pinL (row gs 0) (readL gs) := List.filter_congr fun p _ => cyc_perm (srt_perm _)
  have hpl : (pinL (row gs 0) (readL gs)).length ≤ 144 := Nat.le_trans (List.length_filter_le _ _) hl
  unfold t_dealing
  walk_at "start"
  walk_at "wr"
  apply wpE_mapP (as := pinL (row gs 0) (readL gs)) (enc := PyD.prD) (f := dealD gs) true (gIn_tup2 (by simp) (by simp)) gMono_tup2
  walk_at "w"
  refine wpE_meth0 (fun _ => .nil) ?_
  walk_at "c0"
  refine ⟨gs, ⟨rfl, rfl⟩, v, ?_⟩
  refine ⟨_, rfl, rfl, ?_⟩
  walk_at "w"
  refine ⟨_, _, ⟨rfl, rfl⟩, read_lexI v, by omega, by omega, ?_⟩
  rw [e]
  walk_at "w"
  refine ⟨_, seq_l, rfl, small1000 (by omega), seq_l, fun i p hp => ?_, ?_⟩
  · have hp := (List.mem_filter.mp (List.mem_of_getElem? hp)).1
    obtain ⟨a, b⟩ := p
    obtain ⟨m1, m2, _⟩ := (read_mem v).mp hp
    walk_at "w"
    refine ⟨rfl, ?_⟩
    walk_at "w"
    refine ⟨gs, a, b, ⟨rfl, rfl⟩, v, m1, m2, ?_⟩
    walk_at "w"
    exact ⟨by show 3 ≤ sizeLine; decide, rfl, rfl⟩
  · rw [deal_eq v]
    exact hk
theorem w_State_lists_own (T : FT_State_lists_own K) (h : sp_State_lists_own K ds O k x) (lo : ∀ p ∈ O, p.loc = false) : wpS K W (fun e _ O' => x e O') (t_State_lists_own K W) (startD N_State_lists_own.length ds) O { nx := fun _ O' => k .non O', rt := k } := by
  obtain ⟨gs, ⟨rfl, rfl⟩, hl, hk⟩ := h
  unfold t_State_lists_own
  walk_at "start"
  walk_at "wr"
  refine wpE_lcOwn (gs := gs) (gIn_name (by decide)) gMono_name ?_
  walk_at "w"
  refine wpE_fld T.C_State T.na_State__lists ?_
  walk_at "w"
  refine ⟨_, seq_l, rfl, small1000 (by omega), fun _ => seq_l, fun i o O2 ho => ?_, fun cs hc => ?_⟩
  · walk_at "w"
    refine ⟨rfl, ?_⟩
    walk_at "w"
    refine wpC_list false seq_l ?_
    intro c _
    exact ⟨c, rfl, rfl⟩
  · rw [hl] at hc
    rw [List.append_nil]
    exact hk cs hc
theorem w_silent_swaps (T : FT_silent_swaps K) (h : sp_silent_swaps K ds O k x) (lo : ∀ p ∈ O, p.loc = false) : wpS K W (fun e _ O' => x e O') (t_silent_swaps K W) (startD N_silent_swaps.length ds) O { nx := fun _ O' => k .non O', rt := k } := by
  obtain ⟨gs, ⟨rfl, rfl⟩, v, hk⟩ := h
  have h12 := v.l12 (h := 0) (by omega)
  obtain ⟨T1, u, T2⟩ := T.cv_State_REPLICAS
  obtain ⟨n, hn⟩ : ∃ n, n = (row gs 0).length - 1 := ⟨_, rfl⟩
  unfold t_silent_swaps
  walk_at "start"
  walk_at "w"
  refine wpE_lc2 true (gIn_name (by decide)) gMono_name (gIn_name (by decide)) gMono_name ?_
  walk_at "w"
  refine wpE_cval T1 T2 (fun _ => .int 3) ?_
  walk_at "w"
  refine ⟨rfl, ?_⟩
  walk_at "w"
  obtain ⟨F, hF⟩ : ∃ F : Nat → List (Int × Int), F = fun (h : Nat) => (List.range ((row gs 0).length - 1)).map fun (i : Nat) => ((h : Int), (i : Int)) := ⟨_, rfl⟩
  have hFl : ∀ j, (F j).length = (row gs 0).length - 1 := fun j => by rw [hF]; simp
  have hAl : ∀ i, ((List.range i).flatMap F).length = i * ((row gs 0).length - 1) := fun i => by
    induction i with
    | zero => simp
    | succ i ih => rw [List.range_succ, List.flatMap_append, List.length_append, ih, Nat.succ_mul]; simp [hFl]
  refine ⟨⟨by decide, by decide⟩, fun i acc O' => O' = [] ∧ acc = ((List.range i).flatMap F).map PyD.prD, ⟨rfl, rfl⟩, fun _ _ _ _ _ => trivial, fun i q acc O' hq hI => ?_, fun acc O' hI => ?_⟩
  · obtain ⟨rfl, rfl⟩ := hI
    obtain ⟨hi, rfl⟩ := rngD_at hq
    have hAi := hAl i
    walk_at "w"
    refine wpT_yes ⟨fun h => (by cases h), fun _ => ?_⟩
    walk_at "w"
    refine wpC_lenO ⟨gs, ⟨rfl, rfl⟩, v.len, _, rfl, by omega, by omega, ?_⟩
    walk_at "w"
    refine ⟨⟨by omega, by omega⟩, fun j acc O' => O' = [] ∧ acc = ((List.range i).flatMap F ++ (F i).take j).map PyD.prD, ⟨rfl, by simp⟩, fun j acc O' _ hJ => ⟨trivial, ?_⟩, fun j y acc O' hy hJ => ?_, fun acc O' hJ => ?_⟩
    · rw [hJ.2, List.length_map, List.length_append, List.length_take, hAi, hFl]
      have : i * ((row gs 0).length - 1) ≤ 3 * 12 := Nat.mul_le_mul (by omega) (by omega)
      exact small1000 (by omega)
    · obtain ⟨hj, rfl⟩ := rngD_at hy
      obtain ⟨rfl, rfl⟩ := hJ
      have hz : (F i)[j]? = some (0 + (i : Int), 0 + (j : Int)) := by
        rw [hF, List.getElem?_map, List.getElem?_range (by omega), Int.zero_add, Int.zero_add] <;> rfl
      walk_at "w"
      refine wpT_yes ⟨fun _ => ?_, fun h => (by cases h)⟩
      walk_at "w"
      refine ⟨by show 2 ≤ sizeLine; decide, rfl, ?_⟩
      rw [List.take_succ, hz, ← List.append_assoc, List.map_append (l₂ := (some (0 + (i : Int), 0 + (j : Int))).toList)] <;> rfl
    · obtain ⟨rfl, rfl⟩ := hJ
      refine ⟨rfl, ?_⟩
      rw [rngD_len, List.take_of_length_le (by rw [hFl]; omega), List.range_succ, List.flatMap_append]
      simp
  · obtain ⟨rfl, rfl⟩ := hI
    rw [rngD_len]
    have ea : ((List.range 3).flatMap F) = allS (row gs 0).length := by rw [hF] <;> rfl
    have el : (allS (row gs 0).length).length ≤ 36 := by
      rw [← ea, hAl]
      omega
    walk_at "w"
    rw [ea]
    walk_at "wr"
    apply wpE_filP (α := Int × Int) (as := allS (row gs 0).length) (enc := PyD.prD) (f := PyD.prD) (c := fun s => sil gs s) false (gIn_name (by decide)) gMono_name
    walk_at "w"
    refine ⟨_, seq_l, rfl, small1000 (by omega), seq_l, fun i s hs => ?_, ?_⟩
    · have hst := allS_step (List.mem_of_getElem? hs)
      walk_at "w"
      refine ⟨rfl, ?_, fun _ => ?_⟩
      · walk_at "w"
        refine ⟨gs, s, ⟨rfl, rfl⟩, v, fun _ => ?_, fun q => by rw [hst] at q; cases q⟩
        walk_at "w"
        exact ⟨rfl, rfl⟩
      · walk_at "w"
        exact ⟨rfl, rfl⟩
    · intro c _
      exact hk c
end
section
variable {K : PySem.W.Frag} {W : WX} {ds : List D} {O : Ow} {k : Kk} {x : Xk}
theorem w__law_lacking (h : sp__law_lacking K ds O k x) (lo : ∀ p ∈ O, p.loc = false) : wpS K W (fun e _ O' => x e O') (t__law_lacking K W) (startD N__law_lacking.length ds) O { nx := fun _ O' => k .non O', rt := k } := by
  obtain ⟨b, d, n, ⟨rfl, rfl⟩, hB, hn, hk⟩ := h
  unfold t__law_lacking
  walk_at "start"
  walk_at "w"
  refine wpE_take (j := 0) rfl ?_
  walk_at "w"
  refine ⟨_, _, _, rfl, ⟨by omega, by omega⟩, rfl, hB, fun x1 d x10 x11 hB => ?_⟩
  walk_at "w"
  refine wpE_take (j := 0) rfl ?_
  walk_at "w"
  obtain ⟨m, hm⟩ : ∃ m : Int, m = if (n : Int) - 1 > 1 then (n : Int) - 1 else 1 := ⟨_, rfl⟩
  have hm1 : 1 ≤ m ∧ m ≤ 12 ∧ (n : Int) - 1 ≤ m := by
    rw [hm]
    split <;> omega
  rw [← hm]
  refine ⟨_, _, _, rfl, ⟨by omega, by omega⟩, rfl, hB, fun x2 d x20 x21 hB => ?_⟩
  walk_at "w"
  refine wpE_take (j := 0) rfl ?_
  walk_at "w"
  refine ⟨_, _, _, rfl, ⟨by omega, by omega⟩, rfl, hB, fun x3 d x30 x31 hB => ?_⟩
  walk_at "w"
  refine wpE_take (j := 0) rfl ?_
  walk_at "w"
  refine ⟨_, _, _, rfl, ⟨by omega, by omega⟩, rfl, hB, fun x4 d x40 x41 hB => ?_⟩
  walk_at "w"
  refine wpE_lst true ?_
  walk_at "w"
  refine ⟨by show 2 ≤ sizeLine; decide, ?_⟩
  walk_at "w"
  refine ⟨by show 2 ≤ sizeLine; decide, ?_⟩
  walk_at "w"
  refine ⟨by show 2 ≤ sizeLine; decide, ?_⟩
  walk_at "w"
  refine wpE_take (j := 0) rfl ?_
  walk_at "w"
  refine ⟨_, _, _, rfl, ⟨by omega, by omega⟩, rfl, hB, fun x5 d x50 x51 hB => ?_⟩
  walk_at "w"
  refine ⟨by show 2 ≤ sizeLine; decide, ?_⟩
  walk_at "w"
  refine ⟨by show 4 ≤ sizeLine; decide, ?_⟩
  walk_at "wr"
  refine wpE_lst true ?_
  walk_at "w"
  refine wpE_take (j := 0) rfl ?_
  walk_at "w"
  refine ⟨_, _, _, rfl, ⟨by omega, by omega⟩, rfl, hB, fun x6 d x60 x61 hB => ?_⟩
  walk_at "w"
  refine ⟨by show 2 ≤ sizeLine; decide, ?_⟩
  walk_at "w"
  refine ⟨by show 2 ≤ sizeLine; decide, ?_⟩
  walk_at "w"
  refine ⟨by show 2 ≤ sizeLine; decide, ?_⟩
  walk_at "w"
  refine wpR_addL true lst_l lst_l (by show 6 ≤ sizeLine; decide) ?_
  refine hk [(3 + x3, x2), (-1 - x4, x2), (x1, n - 1), (x1, n + x5), (x1, -1 - x6), (-1 - x4, 3 + x3)] d hB (by show 6 ≤ 20; decide) fun s hs gs hg => ?_
  have hf : ¬ ((0 ≤ s.1 ∧ s.1 < 3) ∧ (0 ≤ s.2 ∧ s.2 ≤ ((row gs 0).length : Int) - 2)) := by
    simp only [List.mem_cons, List.not_mem_nil, or_false] at hs
    rcases hs with rfl | rfl | rfl | rfl | rfl | rfl <;> dsimp only <;> omega
  cases e : stepB gs s with
  | false => rfl
  | true =>
    have := stepB_ok e
    omega
theorem w__law_refused_v4 (h : sp__law_refused_v4 K ds O k x) (lo : ∀ p ∈ O, p.loc = false) : wpS K W (fun e _ O' => x e O') (t__law_refused_v4 K W) (startD N__law_refused_v4.length ds) O { nx := fun _ O' => k .non O', rt := k } := by
  obtain ⟨s, ⟨rfl, rfl⟩, hk⟩ := h
  unfold t__law_refused_v4
  walk_at "start"
  walk_at "wr"
  refine ⟨fun _ => ?_, fun h => (by simp at h)⟩
  walk_at "w"
  refine ⟨fun _ => ?_, fun h => (by cases h)⟩
  walk_at "w"
  walk_at "c0"
  exact ⟨0, ⟨rfl, rfl⟩, hk⟩
theorem w__law_call_v3 (h : sp__law_call_v3 K ds O k x) (lo : ∀ p ∈ O, p.loc = false) : wpS K W (fun e _ O' => x e O') (t__law_call_v3 K W) (startD N__law_call_v3.length ds) O { nx := fun _ O' => k .non O', rt := k } := by
  obtain ⟨gs, s, w, ⟨rfl, rfl⟩, v, w0, h1, h2, h3⟩ := h
  unfold toldS at h3
  unfold t__law_call_v3
  walk_at "start"
  walk_at "w"
  refine ⟨fun hw => ?_, fun hw => ?_⟩
  · have hw := of_decide_eq_true hw
    subst hw
    walk_at "wr"
    walk_at "c0"
    exact ⟨gs, s, ⟨rfl, rfl⟩, v, fun hc => h3 hc fun q => (by cases q), h1⟩
  have hw := of_decide_eq_false hw
  rw [if_neg hw] at h3
  walk_at "w"
  refine ⟨fun hw1 => ?_, fun hw1 => ?_⟩
  · have hw1 := of_decide_eq_true hw1
    subst hw1
    walk_at "wr"
    walk_at "c0"
    exact ⟨gs, s, ⟨rfl, rfl⟩, v, fun hc => h3 hc fun q => (by cases q), h1⟩
  have hw1 := of_decide_eq_false hw1
  rw [if_neg hw1] at h3
  walk_at "w"
  refine ⟨fun hw2 => ?_, fun hw2 => ?_⟩
  · have hw2 := of_decide_eq_true hw2
    subst hw2
    walk_at "wr"
    walk_at "c0"
    exact ⟨gs, s, ⟨rfl, rfl⟩, v, h1, fun hc => h3 hc fun q => (by cases q)⟩
  have hw2 := of_decide_eq_false hw2
  rw [if_neg hw2] at h3
  have w3 : w = 3 := by omega
  walk_at "wr"
  walk_at "c0"
  exact ⟨gs, s, ⟨rfl, rfl⟩, v, h1, fun hc hq => h3 hc fun _ => hq, fun hc hq => h2 hc w3 hq⟩
theorem w__law_tried_v3 (T : FT__law_tried_v3 K) (h : sp__law_tried_v3 K ds O k x) (lo : ∀ p ∈ O, p.loc = false) : wpS K W (fun e _ O' => x e O') (t__law_tried_v3 K W) (startD N__law_tried_v3.length ds) O { nx := fun _ O' => k .non O', rt := k } := by
  obtain ⟨gs, s, w, ⟨rfl, rfl⟩, v, w0, h1, h2, h3⟩ := h
  unfold t__law_tried_v3
  walk_at "start"
  refine wpS_seq ?_
  refine wpS_try fun W' => ?_
  unfold tl__law_tried_v3_0
  walk_at "w"
  walk_at "c0"
  refine ⟨gs, s, w, ⟨rfl, rfl⟩, v, w0, fun hc => ?_, fun hc hw hq => ?_, fun hc hw => ?_⟩
  · refine ⟨true, T.exm_InvalidSwap_InvalidSwap, fun _ a d => ?_, fun h => (by cases h)⟩
    walk_at "w"
    refine wpC_isX rfl T.x_InvalidSwap.ex T.kit_InvalidSwap_DriftError ?_
    walk_at "w"
    refine ⟨fun _ => ?_, fun h => (by cases h)⟩
    walk_at "w"
    refine wpC_isXt rfl T.x_InvalidSwap.ex T.kit_InvalidSwap_ValueError ?_
    walk_at "wr"
    refine wpE_xfA rfl rfl rfl ?_
    walk_at "w"
    refine ⟨fun _ => ?_, fun h => (by cases h)⟩
    walk_at "w"
    refine wpC_isX rfl T.x_InvalidSwap.ex T.kit_InvalidSwap_AudibleSwap ?_
    walk_at "w"
    exact ⟨by show 3 ≤ sizeLine; decide, h1 hc⟩
  · refine ⟨false, T.exm_AudibleSwap_InvalidSwap, fun h => (by cases h), fun _ => ⟨true, T.exm_AudibleSwap_AudibleSwap, fun _ a d => ?_, fun h => (by cases h)⟩⟩
    walk_at "w"
    refine wpC_isX rfl T.x_AudibleSwap.ex T.kit_AudibleSwap_DriftError ?_
    walk_at "w"
    refine ⟨fun _ => ?_, fun h => (by cases h)⟩
    walk_at "w"
    refine wpC_isXt rfl T.x_AudibleSwap.ex T.kit_AudibleSwap_ValueError ?_
    walk_at "wr"
    refine wpE_xfA rfl rfl rfl ?_
    walk_at "w"
    exact ⟨by show 3 ≤ sizeLine; decide, h2 hc hw hq⟩
  · walk_at "w"
    walk_at "wr"
    exact ⟨by show 3 ≤ sizeLine; decide, h3 hc hw⟩
theorem w__law_refuses_v2 (h : sp__law_refuses_v2 K ds O k x) (lo : ∀ p ∈ O, p.loc = false) : wpS K W (fun e _ O' => x e O') (t__law_refuses_v2 K W) (startD N__law_refuses_v2.length ds) O { nx := fun _ O' => k .non O', rt := k } := by
  obtain ⟨gs, ms, ⟨rfl, rfl⟩, v, hl, hm, hk⟩ := h
  unfold t__law_refuses_v2
  walk_at "start"
  walk_at "w"
  refine wpS_seq ?_
  refine wpS_for2 2 3 (fun i q r O' => O' = []) (as := ms) (enc := PyD.prD) ?_
  walk_at "w"
  refine ⟨_, seq_l, rfl, rfl, fun _ _ _ _ _ _ => seq_l, ?_, ?_⟩
  · intro i m q r O' hi hJ
    subst hJ
    have no := hm m (List.mem_of_getElem? hi)
    walk_at "w"
    refine wpS_for1 3 (fun i q O' => O' = []) (as := List.range 4) (enc := fun (i : Nat) => D.int (0 + (i : Int))) ?_
    walk_at "w"
    refine ⟨⟨by decide, by decide⟩, rfl, rfl, fun _ _ _ _ _ => trivial, ?_, ?_⟩
    · intro j j' q O' hj hJ
      subst hJ
      obtain ⟨rfl, hj⟩ := range_get hj
      walk_at "w"
      walk_at "c0"
      walk_at "w"
      walk_at "c0"
      refine ⟨gs, m, _, ⟨rfl, rfl⟩, v, ⟨by omega, by omega⟩, fun _ => ?_, fun q => (by rw [no] at q; cases q), fun q => (by rw [no] at q; cases q)⟩
      walk_at "w"
      refine ⟨"invalid", ⟨rfl, rfl⟩, ?_⟩
      walk_at "w"
      refine ⟨fun h => (by cases h), fun _ => ?_⟩
      walk_at "w"
    · intro q O' hJ
      subst hJ
      exact ⟨_, _, rfl, rfl⟩
  · intro q r O' hJ
    subst hJ
    walk_at "wr"
    exact hk
end
section
variable {K : PySem.W.Frag} {W : WX} {ds : List D} {O : Ow} {k : Kk} {x : Xk}
theorem w__law_shares (h : sp__law_shares K ds O k x) (lo : ∀ p ∈ O, p.loc = false) : wpS K W (fun e _ O' => x e O') (t__law_shares K W) (startD N__law_shares.length ds) O { nx := fun _ O' => k .non O', rt := k } := by
  obtain ⟨gs, ⟨rfl, rfl⟩, v, hk⟩ := h
  have vl := v.len
  have v12 := v.l12 (h := 0) (by omega)
  have hRl := read_len v
  have hRn := read_nd v
  obtain ⟨R, hR⟩ : ∃ R, R = readL gs := ⟨_, rfl⟩
  rw [← hR] at hRl hRn
  obtain ⟨F, hF⟩ : ∃ F : Int × Int → List (Int × Int × Int), F = fun p => (disL gs p).map fun (h : Nat) => (p.1, p.2, (h : Int)) := ⟨_, rfl⟩
  have hsh : shL gs = R.flatMap F := by rw [shL_eq, hR, hF]
  have hFl : ∀ l : List (Int × Int), (l.flatMap F).length ≤ l.length * 3 := fun l => by
    induction l with
    | nil => simp
    | cons p l ih =>
      rw [List.flatMap_cons, List.length_append, List.length_cons, Nat.succ_mul]
      have : (F p).length ≤ 3 := by
        rw [hF, List.length_map]
        exact Nat.le_trans (List.length_filter_le _ _) (by decide)
      omega
  unfold t__law_shares
  walk_at "start"
  walk_at "w"
  apply wpE_mapP (as := gs) (enc := L) (f := fun o => D.dT (wordsD o)) true (gIn_name (by decide)) gMono_name
  walk_at "w"
  refine ⟨_, seq_l, rfl, small1000 (by omega), seq_l, fun j o ho => ?_, ?_⟩
  · walk_at "w"
    refine ⟨rfl, ?_⟩
    refine wpE_fz ?_
    walk_at "w"
    have hm := v.same o (List.mem_of_getElem? ho)
    refine ⟨o, ⟨rfl, rfl⟩, ?_, ?_, fun c => ⟨c, _, _, rfl, rfl, rfl, rfl⟩⟩
    · exact hm.nodup_iff.mpr (v.nd (by omega))
    · rw [hm.length_eq]; exact v12
  walk_at "w"
  walk_at "c0"
  refine ⟨gs, ⟨rfl, rfl⟩, v.v3, ?_⟩
  rw [← hR]
  walk_at "w"
  refine wpE_dnewT ?_
  intro c _
  walk_at "w"
  refine wpS_seq ?_
  refine wpS_for1 4 (fun i q O' => O' = [⟨c, true, .dT (pdD (R.take i))⟩]) (as := R) (enc := PyD.prD) ?_
  walk_at "w"
  refine ⟨_, seq_l, rfl, rfl, fun _ _ _ _ _ => seq_l, ?_, ?_⟩
  · intro i p q O' hp hJ
    subst hJ
    refine wpG_name ?_
    refine wpS_dputT ?_
    walk_at "w"
    refine ⟨0, c, true, _, [.inl p.1, .inl p.2], rfl, rfl, rfl, small1000 (by unfold pdD; rw [List.length_map, List.length_take]; omega), _, rfl, ?_⟩
    have := pair_put (nd_take hRn hp)
    rw [List.take_succ, hp]
    show [(⟨c, true, D.dT (putD ((R.take i).map encP) [Sum.inl p.1, Sum.inl p.2] (.bl true))⟩ : Ob)] = _
    rw [this] <;> rfl
  intro q4 O' hJ
  subst hJ
  rw [List.take_length]
  refine wpS_frz (i := 3) (j := 0) rfl rfl ?_
  walk_at "w"
  refine wpE_lst false ?_
  walk_at "w"
  refine ⟨by decide, ?_⟩
  intro c2 _
  walk_at "w"
  refine wpS_seq ?_
  refine wpS_for3 4 6 7 (fun i q r s O' => O' = [⟨c2, true, trs ((R.take i).flatMap F)⟩]) (as := R) (enc := PyD.prD) ?_
  walk_at "w"
  refine ⟨_, seq_l, rfl, rfl, fun _ _ _ _ _ _ _ => seq_l, ?_, ?_⟩
  · intro i p q r s O' hp hJ
    subst hJ
    walk_at "w"
    have hAl : ((R.take i).flatMap F).length ≤ 432 := by
      have := hFl (R.take i)
      rw [List.length_take] at this
      omega
    obtain ⟨A, hA⟩ : ∃ A, A = (R.take i).flatMap F := ⟨_, rfl⟩
    rw [← hA] at hAl ⊢
    apply wpE_filP (as := row gs 0) (enc := D.int) (f := D.int) (c := fun z => decide ((p.2, z) ∈ R) && decide ((z, p.1) ∈ R)) true (gIn_name (by decide)) gMono_name
    walk_at "w"
    refine wpR_ixA (.inl seq_l) (rowD (by omega) (by omega)) ?_
    walk_at "w"
    refine ⟨_, seq_l, rfl, small1000 (by show (row gs 0).length ≤ 1000; omega), seq_l, fun j z hz => ?_, ?_⟩
    · refine wpG_name ⟨rfl, ?_, fun _ => ?_⟩
      · refine wpT_andP ?_ fun hc => ?_
        · refine wpT_B (wpE_dinT ?_)
          walk_at "w"
          refine ⟨by show 2 ≤ sizeLine; decide, ?_⟩
          walk_at "w"
          refine ⟨pdD R, [.inl p.2, .inl z], dt_l, rfl, ?_⟩
          rw [pd_val R (p.2, z)]
          exact ⟨_, rfl, rfl, rfl⟩
        · refine wpT_B (wpE_dinT ?_)
          walk_at "w"
          refine ⟨by show 2 ≤ sizeLine; decide, ?_⟩
          walk_at "w"
          refine ⟨pdD R, [.inl z, .inl p.1], dt_l, rfl, ?_⟩
          rw [pd_val R (z, p.1)]
          exact ⟨_, rfl, rfl, rfl⟩
      · walk_at "w"
        exact ⟨rfl, rfl⟩
    walk_at "w"
    obtain ⟨cs, hcs⟩ : ∃ cs, cs = (row gs 0).filter fun z => decide ((p.2, z) ∈ R) && decide ((z, p.1) ∈ R) := ⟨_, rfl⟩
    have hcy : (!((cs.map D.int).isEmpty)) = cycB (row gs 0) R p.1 p.2 := by
      unfold cycB
      rw [Bool.eq_iff_iff, List.any_eq_true, List.isEmpty_map, hcs]
      simp
    rw [← hcs]
    refine wpS_for1 7 (fun j q O' => O' = [⟨c2, true, trs (A ++ (((List.range 3).take j).filter fun h => cycB (row gs 0) R p.1 p.2 && !decide (p ∈ wordsL (row gs h))).map fun (h : Nat) => (p.1, p.2, (h : Int)))⟩]) (as := List.range 3) (enc := fun (i : Nat) => D.int (0 + (i : Int))) ?_
    walk_at "w"
    refine ⟨⟨by decide, by decide⟩, rfl, by simp, fun _ _ _ _ _ => trivial, ?_, ?_⟩
    · intro j j' q O' hj hJ
      have hj0 := hj
      obtain ⟨rfl, hj⟩ := range_get hj
      subst hJ
      walk_at "w"
      refine wpS_iteP (c := cycB (row gs 0) R p.1 p.2 && !decide (p ∈ wordsL (row gs j'))) ?_ ⟨fun hc => ?_, fun hc => ?_⟩
      · refine wpT_andP ?_ fun hc => ?_
        · walk_at "w"
          exact ⟨hcy, rfl⟩
        · refine wpT_B (wpE_dnotinT ?_)
          walk_at "w"
          refine wpR_ixA (.inl seq_l) (atI_nn (by omega) (y := D.dT (wordsD (row gs j'))) (by rw [List.getElem?_map, row_at (by omega), show (0 + (j' : Int)).toNat = j' by omega] <;> rfl)) ?_
          refine ⟨wordsD (row gs j'), [.inl p.1, .inl p.2], dt_l, rfl, ?_⟩
          rw [words_val _ p]
          exact ⟨_, rfl, rfl, rfl⟩
      · walk_at "w"
        refine ⟨by show 3 ≤ sizeLine; decide, ?_⟩
        walk_at "w"
        have hfl : (((List.range 3).take j').filter fun h => cycB (row gs 0) R p.1 p.2 && !decide (p ∈ wordsL (row gs h))).length ≤ 3 := Nat.le_trans (List.length_filter_le ..) (by rw [List.length_take]; omega)
        refine wpM_appendC (f := trD) (x := (p.1, p.2, 0 + (j' : Int))) (j := 0) rfl rfl (small1000 (by rw [List.length_append, List.length_map]; omega)) ?_
        refine ⟨_, rfl, ?_⟩
        rw [List.take_succ, hj0, List.filter_append, Int.zero_add]
        show _ = [(⟨c2, true, trs (A ++ ((((List.range 3).take j').filter fun h => cycB (row gs 0) R p.1 p.2 && !decide (p ∈ wordsL (row gs h))) ++ [j'].filter fun h => cycB (row gs 0) R p.1 p.2 && !decide (p ∈ wordsL (row gs h))).map fun (h : Nat) => (p.1, p.2, (h : Int)))⟩ : Ob)]
        have e3 : A ++ ((((List.range 3).take j').filter fun h => cycB (row gs 0) R p.1 p.2 && !decide (p ∈ wordsL (row gs h))) ++ [j'].filter fun h => cycB (row gs 0) R p.1 p.2 && !decide (p ∈ wordsL (row gs h))).map (fun (h : Nat) => (p.1, p.2, (h : Int))) = (A ++ (((List.range 3).take j').filter fun h => cycB (row gs 0) R p.1 p.2 && !decide (p ∈ wordsL (row gs h))).map fun (h : Nat) => (p.1, p.2, (h : Int))) ++ [(p.1, p.2, (j' : Int))] := by
          rw [List.filter_cons, if_pos hc, List.filter_nil, List.map_append, ← List.append_assoc] <;> rfl
        rw [e3] <;> rfl
      · walk_at "w"
        rw [List.take_succ, hj0, List.filter_append]
        show _ = [(⟨c2, true, trs (A ++ ((((List.range 3).take j').filter fun h => cycB (row gs 0) R p.1 p.2 && !decide (p ∈ wordsL (row gs h))) ++ [j'].filter fun h => cycB (row gs 0) R p.1 p.2 && !decide (p ∈ wordsL (row gs h))).map fun (h : Nat) => (p.1, p.2, (h : Int)))⟩ : Ob)]
        rw [List.filter_cons, if_neg (by rw [hc]; decide), List.filter_nil, List.append_nil]
    · intro q O' hJ
      refine ⟨_, _, _, rfl, ?_⟩
      rw [hJ, List.take_succ, hp, List.flatMap_append, ← hA]
      show _ = [(⟨c2, true, trs (A ++ [p].flatMap F)⟩ : Ob)]
      rw [List.flatMap_cons, List.flatMap_nil, List.append_nil, hF]
      dsimp only
      unfold disL
      rw [← hR] <;> rfl
  · intro q r s O' hJ
    subst hJ
    rw [List.take_length, ← hsh]
    refine wpS_frz (i := 5) (j := 0) rfl rfl ?_
    walk_at "wr"
    exact hk
end
section
variable {K : PySem.W.Frag} {W : WX} {ds : List D} {O : Ow} {k : Kk} {x : Xk}
theorem prT_two {ps : List (Int × Int)} : ∀ a ∈ prT ps, a.length ≤ 1000 := fun a ha => by
  unfold prT at ha
  obtain ⟨p, _, rfl⟩ := List.mem_map.mp ha
  show 2 ≤ 1000
  decide
theorem prT_len {ps : List (Int × Int)} : (prT ps).length = ps.length := by
  unfold prT
  rw [List.length_map]
theorem trT_len {ps : List (Int × Int × Int)} : (trT ps).length = ps.length := by
  unfold trT
  rw [List.length_map]
theorem trT_three {ps : List (Int × Int × Int)} : ∀ a ∈ trT ps, a.length ≤ 1000 := fun a ha => by
  unfold trT at ha
  obtain ⟨p, _, rfl⟩ := List.mem_map.mp ha
  show 3 ≤ 1000
  decide
theorem wpR_neB {P : D → Ow → Prop} {i j : Bool} (p : P (.bl (!decide (i = j))) O) : wpR K (rNeA K) (.bl i) (.bl j) O P := fun Z F H vx vy S rx ry Q q => by
  cases rx
  cases ry
  refine .inl ⟨rfl, ?_⟩
  rw [dec_iff (show V.bl i = V.bl j ↔ i = j by simp)]
  exact q _ _ F H O S (Ex.refl F) (.bl _) p
theorem sws_row {gs : List (List Int)} (v : VS gs) {s : Int × Int} (hc : stepB gs s = true) : row (sws gs s) s.1.toNat = exch (row gs s.1.toNat) s.2.toNat ∧ gs.set s.1.toNat (exch (row gs s.1.toNat) s.2.toNat) = sws gs s := by
  have hs := stepB_ok hc
  exact ⟨row_self v.len (by omega), rfl⟩
theorem w__law_deep_holds (h : sp__law_deep_holds K ds O k x) (lo : ∀ p ∈ O, p.loc = false) : wpS K W (fun e _ O' => x e O') (t__law_deep_holds K W) (startD N__law_deep_holds.length ds) O { nx := fun _ O' => k .non O', rt := k } := by
  obtain ⟨gs, s, b, ⟨rfl, rfl⟩, v, hc, hb, hk⟩ := h
  have hs := stepB_ok hc
  have v' := v.swp hc
  have vl' := v'.len
  have hR := read_len v'
  have hS := sh_len v
  have vr' := v'.row (h := s.1.toNat) (by omega)
  have e1 := sws_row v hc
  have vr := v.row (h := s.1.toNat) (by omega)
  have vrl := v.leq (h := s.1.toNat) (by omega)
  have hp : (exch (row gs s.1.toNat) s.2.toNat).Perm (row gs 0) := (exch_perm _ _ (by omega)).trans vr.2
  have hw : wrong (exch (row gs s.1.toNat) s.2.toNat) = none := wrong_perm vr.1 (exch_perm _ _ (by omega))
  unfold t__law_deep_holds
  walk_at "start"
  walk_at "w"
  walk_at "c0"
  refine ⟨gs, s, ⟨rfl, rfl⟩, v.v3, hc, ?_⟩
  walk_at "w"
  walk_at "m0"
  refine wpR_ixA (.inl seq_l) (rowD (by omega) (by omega)) ?_
  walk_at "w"
  refine wpC_list true seq_l ?_
  walk_at "w"
  rw [e1.1]
  refine ⟨gs, s.1, _, ⟨rfl, rfl⟩, v, by omega, wrong_sm hw, fun _ _ _ => ?_, fun q => absurd hs.1 q, fun _ q => absurd ⟨hw, hp⟩ q⟩
  rw [e1.2]
  walk_at "w"
  walk_at "c0"
  refine wpE_meth0 (fun _ => .nil) ?_
  walk_at "c0"
  refine ⟨_, ⟨rfl, rfl⟩, v', ?_⟩
  refine ⟨_, rfl, rfl, ?_⟩
  walk_at "w"
  refine ⟨_, _, ⟨rfl, rfl⟩, read_lexI v', ?_⟩
  walk_at "w"
  walk_at "c0"
  refine ⟨_, ⟨rfl, rfl⟩, v'.v3, ?_⟩
  walk_at "w"
  refine ⟨prT (readL (sws gs s)), ⟨by rw [prT_eq] <;> rfl, rfl⟩, by rw [prT_len]; omega, prT_two, ?_⟩
  walk_at "w"
  refine ⟨fun h => (by cases h), fun _ => ?_⟩
  walk_at "w"
  refine wpS_ret ?_
  walk_at "w"
  refine ⟨fun q => ?_, fun q => ?_⟩
  · exact hk
  · have hq : sil gs s = true := by
      rw [← hb]
      simpa using q
    walk_at "c0"
    walk_at "c0"
    refine ⟨_, ⟨rfl, rfl⟩, v', ?_⟩
    rw [sh_sil v hc hq]
    walk_at "w"
    exact ⟨trT (shL gs), ⟨by rw [trT_eq] <;> rfl, rfl⟩, by rw [trT_len]; omega, trT_three, hk⟩
theorem three_of {α : Type} {l : List α} (h : l.length = 3) : ∃ a b c, l = [a, b, c] := by
  match l, h with
  | [a, b, c], _ => exact ⟨a, b, c, rfl⟩
theorem w__law_swap_holds (h : sp__law_swap_holds K ds O k x) (lo : ∀ p ∈ O, p.loc = false) : wpS K W (fun e _ O' => x e O') (t__law_swap_holds K W) (startD N__law_swap_holds.length ds) O { nx := fun _ O' => k .non O', rt := k } := by
  obtain ⟨gs, ⟨s1, s2⟩, b, ⟨rfl, rfl⟩, v, hc, hb, hk⟩ := h
  have hs := stepB_ok hc
  dsimp only at hs
  have vl := v.len
  have v' := v.swp hc
  have vrl := v.leq (h := s1.toNat) (by omega)
  have hR := read_len v
  have ag := against v hc
  have m1 := kx_mem v (h := s1.toNat) (i := s2.toNat) (by omega) (by omega)
  have m2 := kx_mem v (h := s1.toNat) (i := s2.toNat + 1) (by omega) (by omega)
  have e2 : (s2 + 1).toNat = s2.toNat + 1 := by omega
  obtain ⟨X, hX⟩ : ∃ X, X = kx gs s1.toNat s2.toNat := ⟨_, rfl⟩
  obtain ⟨Y, hY⟩ : ∃ Y, Y = kx gs s1.toNat (s2.toNat + 1) := ⟨_, rfl⟩
  obtain ⟨A, hA⟩ : ∃ A, A = agL gs (s1, s2) := ⟨_, rfl⟩
  have hA' : A = ((([0, 1, 2] : List Int).filter fun z => !decide (z = s1)).filter fun z => !decide (sayB (row gs z.toNat) X Y = decide ((X, Y) ∈ readL gs))) := by rw [hA, hX, hY] <;> rfl
  unfold t__law_swap_holds
  walk_at "start"
  walk_at "w"
  refine wpR_ixA (.inl seq_l) (rowD (by omega) (by omega)) ?_
  walk_at "w"
  refine wpR_ixA (.inl seq_l) (rowD (by omega) (by omega)) ?_
  walk_at "w"
  rw [e2, show (row gs s1.toNat).getD s2.toNat 0 = X from hX.symm, show (row gs s1.toNat).getD (s2.toNat + 1) 0 = Y from hY.symm]
  rw [← hX] at m1
  rw [← hY] at m2
  walk_at "c0"
  walk_at "c0"
  refine ⟨gs, (s1, s2), ⟨rfl, rfl⟩, v, fun _ => ?_, fun q => by rw [hc] at q; cases q⟩
  dsimp only
  rw [← hX, ← hY]
  walk_at "w"
  refine ⟨by show 2 ≤ sizeLine; decide, ?_⟩
  walk_at "w"
  refine ⟨[X, Y], ⟨rfl, rfl⟩, by show 2 ≤ 1000; decide, ?_⟩
  walk_at "w"
  refine ⟨fun h => (by cases h), fun _ => ?_⟩
  walk_at "w"
  walk_at "c0"
  walk_at "c0"
  refine ⟨gs, (s1, s2), ⟨rfl, rfl⟩, v, fun _ => ?_, fun q => by rw [hc] at q; cases q⟩
  rw [← hb]
  walk_at "w"
  refine ⟨b, ⟨rfl, rfl⟩, ?_⟩
  walk_at "w"
  refine ⟨fun h => (by cases h), fun _ => ?_⟩
  walk_at "w"
  apply wpE_filP (as := [0, 1, 2]) (enc := D.int) (c := fun z => !decide (z = s1)) (f := D.int) true (gIn_name (by decide)) gMono_name
  walk_at "w"
  refine ⟨⟨by decide, by decide⟩, rfl, small1000 (by decide), trivial, fun i z hz => ?_, ?_⟩
  · walk_at "w"
    refine ⟨rfl, ?_, fun _ => ?_⟩
    · walk_at "w"
      exact ⟨rfl, rfl⟩
    · walk_at "w"
      exact ⟨rfl, rfl⟩
  walk_at "w"
  refine ⟨by show 2 ≤ sizeLine; decide, ?_⟩
  walk_at "w"
  refine wpR_inP (p := (X, Y)) view_self ?_
  walk_at "w"
  apply wpE_filP (as := (([0, 1, 2] : List Int).filter fun z => !decide (z = s1))) (enc := D.int) (c := fun z => !decide (sayB (row gs z.toNat) X Y = decide ((X, Y) ∈ readL gs))) (f := D.int) true (gIn_name (by decide)) gMono_name
  walk_at "w"
  refine ⟨_, seq_l, rfl, small1000 (Nat.le_trans (List.length_filter_le _ _) (by decide)), seq_l, fun i z hz => ?_, ?_⟩
  · have hz3 : 0 ≤ z ∧ z < 3 := by
      have := (List.mem_filter.mp (List.mem_of_getElem? hz)).1
      simp only [List.mem_cons, List.not_mem_nil, or_false] at this
      omega
    have pz := (v.row (h := z.toNat) (by omega)).2
    walk_at "w"
    refine ⟨rfl, ?_, fun _ => ?_⟩
    · walk_at "w"
      refine wpR_ixA (.inl seq_l) (rowD (by omega) (by omega)) ?_
      walk_at "w"
      refine wpM_indexI seq_l (pz.mem_iff.mpr m1) ?_
      walk_at "w"
      refine wpR_ixA (.inl seq_l) (rowD (by omega) (by omega)) ?_
      walk_at "w"
      refine wpM_indexI seq_l (pz.mem_iff.mpr m2) ?_
      walk_at "w"
      refine wpR_neB ?_
      have : sayB (row gs z.toNat) X Y = decide (((row gs z.toNat).idxOf X : Int) < ((row gs z.toNat).idxOf Y : Nat)) := by
        unfold sayB
        exact decide_eq_decide.mpr (by omega)
      rw [this]
      exact ⟨_, rfl, rfl, rfl⟩
    · walk_at "w"
      exact ⟨rfl, rfl⟩
  rw [← hA']
  walk_at "w"
  walk_at "c0"
  refine ⟨gs, (s1, s2), ⟨rfl, rfl⟩, v, fun q => (by rw [hc] at q; cases q), fun _ => ?_⟩
  walk_at "w"
  walk_at "c0"
  cases hq : sil gs (s1, s2) with
  | false =>
    rw [hq] at hb
    subst hb
    obtain ⟨d, d1, d2⟩ := ag.2 hq
    rw [← hA] at d2
    rw [d1, d2]
    refine ⟨gs, (s1, s2), 3, ⟨rfl, rfl⟩, v, by decide, fun q => (by rw [hc] at q; cases q), fun _ _ _ => ?_, fun _ q => by rw [q rfl] at hq; cases hq⟩
    walk_at "w"
    refine ⟨fun _ => ?_, fun h => (by cases h)⟩
    walk_at "wr"
    refine ⟨fun _ => ?_, fun h => (by cases h)⟩
    walk_at "w"
    walk_at "c0"
    refine ⟨(d : Int), ⟨rfl, rfl⟩, ?_⟩
    refine ⟨_, rfl, fun _ => ?_, fun h => (by cases h)⟩
    walk_at "w"
    walk_at "c0"
    exact ⟨"audible", ⟨rfl, rfl⟩, hk⟩
  | true =>
    rw [hq] at hb
    subst hb
    have a1 := ag.1 hq
    rw [← hA] at a1
    have b1 : barN gs (s1, s2) = none := by
      unfold barN
      rw [if_pos hq]
    have et : toldS K gs (s1, s2) 3 = stD K (sws gs (s1, s2)) := by
      unfold toldS
      rw [if_neg (by decide), if_neg (by decide), if_neg (by decide)]
    rw [b1, a1]
    refine ⟨gs, (s1, s2), 3, ⟨rfl, rfl⟩, v, by decide, fun q => (by rw [hc] at q; cases q), fun _ _ q => (by rw [hq] at q; cases q), fun _ _ => ?_⟩
    rw [et]
    walk_at "w"
    refine ⟨fun h => (by cases h), fun _ => ?_⟩
    walk_at "w"
    refine wpS_iteP (c := false) ?_ ⟨fun h => (by cases h), fun _ => ?_⟩
    · refine wpT_orP (c1 := false) (c2 := false) ?_ fun _ => wpT_orP (c1 := false) (c2 := false) ?_ fun _ => ?_
      · walk_at "w"
        exact ⟨rfl, rfl⟩
      · walk_at "w"
        exact ⟨rfl, rfl⟩
      · walk_at "w"
        exact ⟨rfl, rfl⟩
    walk_at "w"
    walk_at "c0"
    refine ⟨gs, (s1, s2), ⟨rfl, rfl⟩, v.v3, hc, ?_⟩
    walk_at "w"
    walk_at "c0"
    refine ⟨_, ⟨rfl, rfl⟩, v', ?_⟩
    walk_at "w"
    refine ⟨fun h => (by cases h), fun _ => ?_⟩
    obtain ⟨g0, g1, g2, eg⟩ := three_of v'.len
    walk_at "w"
    walk_at "m0"
    refine ⟨_, ⟨rfl, rfl⟩, v'.len, fun cs hcs => ?_⟩
    obtain ⟨c0, c1, c2, rfl⟩ := three_of hcs
    have eo : ownOf [c0, c1, c2] (sws gs (s1, s2)) = [⟨c2, true, L g2⟩, ⟨c1, true, L g1⟩, ⟨c0, true, L g0⟩] := by rw [eg] <;> rfl
    rw [eo]
    have hg0 : g0.length ≤ 12 := by
      have := v'.l12 (h := 0) (by omega)
      rw [eg] at this
      exact this
    walk_at "w"
    have hh : s1 = 0 ∨ s1 = 1 ∨ s1 = 2 := by omega
    rcases hh with rfl | rfl | rfl
    · refine wpR_ixA (.inl seq_l) (show atI ([c0, c1, c2].map D.mut) 0 = some (.mut c0) from rfl) ?_
      refine ⟨⟨_, seq_m (i := 2) rfl⟩, ?_⟩
      refine wpM_reverseI (j := 2) rfl ?_
      walk_at "w"
      refine wpM_appendI (j := 2) rfl (by rw [List.length_reverse]; omega) ?_
      refine wpS_subO (List.nil_sublist _) ?_
      walk_at "wr"
      walk_at "c0"
      refine ⟨_, ⟨rfl, rfl⟩, v', ?_⟩
      walk_at "w"
      refine ⟨fun _ => ?_, fun h => (by cases h)⟩
      walk_at "c0"
      exact ⟨_, ⟨rfl, rfl⟩, v, hk⟩
    · refine wpR_ixA (.inl seq_l) (show atI ([c0, c1, c2].map D.mut) 1 = some (.mut c1) from rfl) ?_
      refine ⟨⟨_, seq_m (i := 1) rfl⟩, ?_⟩
      refine wpM_reverseI (j := 1) rfl ?_
      walk_at "w"
      refine wpM_appendI (j := 2) rfl (by omega) ?_
      refine wpS_subO (List.nil_sublist _) ?_
      walk_at "wr"
      walk_at "c0"
      refine ⟨_, ⟨rfl, rfl⟩, v', ?_⟩
      walk_at "w"
      refine ⟨fun _ => ?_, fun h => (by cases h)⟩
      walk_at "c0"
      exact ⟨_, ⟨rfl, rfl⟩, v, hk⟩
    · refine wpR_ixA (.inl seq_l) (show atI ([c0, c1, c2].map D.mut) 2 = some (.mut c2) from rfl) ?_
      refine ⟨⟨_, seq_m (i := 0) rfl⟩, ?_⟩
      refine wpM_reverseI (j := 0) rfl ?_
      walk_at "w"
      refine wpM_appendI (j := 2) rfl (by omega) ?_
      refine wpS_subO (List.nil_sublist _) ?_
      walk_at "wr"
      walk_at "c0"
      refine ⟨_, ⟨rfl, rfl⟩, v', ?_⟩
      walk_at "w"
      refine ⟨fun _ => ?_, fun h => (by cases h)⟩
      walk_at "c0"
      exact ⟨_, ⟨rfl, rfl⟩, v, hk⟩
end
section
variable {K : PySem.W.Frag} {W : WX} {ds : List D} {O : Ow} {k : Kk} {x : Xk}
theorem w__law_is_tuples_own (h : sp__law_is_tuples_own K ds O k x) (lo : ∀ p ∈ O, p.loc = false) : wpS K W (fun e _ O' => x e O') (t__law_is_tuples_own K W) (startD N__law_is_tuples_own.length ds) O { nx := fun _ O' => k .non O', rt := k } := by
  obtain ⟨d, sw, A, ⟨rfl, rfl⟩, hd, ht, hl, ha, hk⟩ := h
  have ty : TyD O d "list" := by
    rcases ht with rfl | ⟨a, b, rfl, hm⟩
    · exact .lst _
    · exact .own hm
  unfold t__law_is_tuples_own
  walk_at "start"
  walk_at "w"
  refine wpS_iteP (c := false) ?_ ⟨fun h => (by cases h), fun _ => ?_⟩
  · refine wpT_mono (wpT_orP (c1 := false) (c2 := false) ?_ fun _ => ?_) fun b O' h => h
    · walk_at "w"
      refine wpC_isi ty (b := true) (by decide +kernel) ?_
      walk_at "w"
      exact ⟨rfl, rfl⟩
    · walk_at "w"
      refine wpC_lenL hd ?_
      walk_at "w"
      exact ⟨by simp, rfl⟩
  walk_at "w"
  refine wpS_seq ?_
  refine wpS_for1 2 (fun i q O' => O' = O) (as := List.range sw.length) (enc := fun (i : Nat) => D.int (0 + (i : Int))) ?_
  walk_at "w"
  rw [List.length_map]
  refine ⟨⟨by omega, by omega⟩, rfl, rfl, fun _ _ _ _ _ => trivial, ?_, ?_⟩
  · intro i i' q O' hi hJ
    subst hJ
    obtain ⟨rfl, hi⟩ := range_get hi
    have e : atI (sw.map tupD) (0 + (i' : Int)) = some (tupD sw[i']) := atI_nn (by omega) (by
      rw [List.getElem?_map, show (0 + (i' : Int)).toNat = i' by omega, List.getElem?_eq_getElem hi] <;> rfl)
    walk_at "w"
    walk_at "c0"
    refine wpR_ixA (.inl hd) e ?_
    walk_at "w"
    refine wpR_ixA (.inl seq_l) e ?_
    walk_at "w"
    refine ⟨_, ⟨rfl, rfl⟩, ha _ (List.getElem_mem hi), ?_⟩
    walk_at "w"
    refine ⟨fun h => (by cases h), fun _ => ?_⟩
    walk_at "w"
  · intro q O' hJ
    subst hJ
    walk_at "wr"
    exact hk
theorem tupsP {ps : List (Int × Int)} (hl : ps.length ≤ 10000) (hk : k (.bl true) []) : sp__law_is_tuples_own K [prs ps, prs ps] [] k x :=
  ⟨prs ps, prT ps, [], ⟨by rw [prT_eq], rfl⟩, .inl prT_eq.symm, .inl prT_eq.symm, by rw [prT_len]; exact hl, prT_two, hk⟩
theorem tupsT {ps : List (Int × Int × Int)} (hl : ps.length ≤ 10000) (hk : k (.bl true) []) : sp__law_is_tuples_own K [trs ps, trs ps] [] k x :=
  ⟨trs ps, trT ps, [], ⟨by rw [trT_eq], rfl⟩, .inl trT_eq.symm, .inl trT_eq.symm, by rw [trT_len]; exact hl, trT_three, hk⟩
theorem tupsM {ps : List (Int × Int)} {a : Addr} {b : Bool} (hl : ps.length ≤ 10000) (hk : k (.bl true) [⟨a, b, prs ps⟩]) : sp__law_is_tuples_own K [.mut a, prs ps] [⟨a, b, prs ps⟩] k x :=
  ⟨.mut a, prT ps, [⟨a, b, prs ps⟩], ⟨by rw [prT_eq], rfl⟩, .inr (.inr ⟨a, b, rfl, by rw [prT_eq]; exact List.mem_singleton.mpr rfl⟩), .inr ⟨a, b, rfl, by rw [prT_eq]; exact List.mem_singleton.mpr rfl⟩, by rw [prT_len]; exact hl, prT_two, hk⟩
theorem w__law_state_holds (h : sp__law_state_holds K ds O k x) (lo : ∀ p ∈ O, p.loc = false) : wpS K W (fun e _ O' => x e O') (t__law_state_holds K W) (startD N__law_state_holds.length ds) O { nx := fun _ O' => k .non O', rt := k } := by
  obtain ⟨gs, dr, ⟨rfl, rfl⟩, v, hk⟩ := h
  have vl := v.len
  have v12 := v.l12 (h := 0) (by omega)
  have hR := read_len v
  have hS := sh_len v
  obtain ⟨n, hn⟩ : ∃ n, n = (row gs 0).length - 1 := ⟨_, rfl⟩
  obtain ⟨T, hT⟩ : ∃ T : Nat → Nat → Bool, T = fun (h i : Nat) => sil gs ((h : Int), (i : Int)) := ⟨_, rfl⟩
  obtain ⟨F, hF⟩ : ∃ F : Nat → List (Int × Int), F = fun (h : Nat) => ((List.range n).filter (T h)).map fun (i : Nat) => ((h : Int), (i : Int)) := ⟨_, rfl⟩
  have hFl : ∀ h, (F h).length ≤ 12 := fun h => by
    rw [hF, List.length_map]
    refine Nat.le_trans (List.length_filter_le _ _) ?_
    rw [List.length_range]
    omega
  have hAl : ∀ i, ((List.range i).flatMap F).length ≤ i * 12 := fun i => by
    induction i with
    | zero => simp
    | succ i ih =>
      rw [List.range_succ, List.flatMap_append, List.length_append, Nat.succ_mul]
      have := hFl i
      simp only [List.flatMap_cons, List.flatMap_nil, List.append_nil]
      omega
  have hsl : silL gs = (List.range 3).flatMap F := by rw [silL_flat, hF, hn, hT]
  have hsll : (silL gs).length ≤ 36 := by
    rw [hsl]
    exact hAl 3
  unfold t__law_state_holds
  walk_at "start"
  walk_at "w"
  walk_at "c0"
  refine ⟨gs, ⟨rfl, rfl⟩, v.v3, ?_⟩
  walk_at "w"
  walk_at "c0"
  refine ⟨gs, ⟨rfl, rfl⟩, v, ?_⟩
  walk_at "w"
  refine wpS_iteP (c := false) ?_ ⟨fun h => (by cases h), fun _ => ?_⟩
  · refine wpT_orP (c1 := false) (c2 := false) ?_ fun _ => ?_
    · walk_at "w"
      walk_at "c0"
      refine wpE_meth0 (fun _ => .nil) ?_
      walk_at "c0"
      refine ⟨_, ⟨rfl, rfl⟩, v, ?_⟩
      refine ⟨_, rfl, rfl, ?_⟩
      walk_at "w"
      refine ⟨_, _, ⟨rfl, rfl⟩, read_lexI v, ?_⟩
      walk_at "w"
      refine tupsP (by omega) ?_
      walk_at "w"
      exact ⟨rfl, rfl⟩
    · walk_at "w"
      walk_at "c0"
      walk_at "c0"
      refine ⟨_, ⟨rfl, rfl⟩, v, ?_⟩
      walk_at "w"
      refine tupsT (by omega) ?_
      walk_at "w"
      exact ⟨rfl, rfl⟩
  walk_at "w"
  refine wpR_ixA (.inl seq_l) (rowD (by omega) (by omega)) ?_
  walk_at "w"
  refine wpE_lst false ?_
  walk_at "w"
  refine ⟨by decide, ?_⟩
  intro c _
  walk_at "w"
  refine wpS_seq ?_
  refine wpS_for4 7 9 10 11 (fun i q r s t O' => O' = [⟨c, true, prs ((List.range i).flatMap F)⟩]) (as := List.range 3) (enc := fun (i : Nat) => D.int (0 + (i : Int))) ?_
  walk_at "w"
  refine ⟨⟨by decide, by decide⟩, rfl, rfl, fun _ _ _ _ _ _ _ _ => trivial, ?_, ?_⟩
  · intro i i' q r s t O' hi hJ
    obtain ⟨rfl, hi⟩ := range_get hi
    subst hJ
    walk_at "w"
    obtain ⟨A, hA⟩ : ∃ A, A = (List.range i').flatMap F := ⟨_, rfl⟩
    have hAl' : A.length ≤ 36 := by
      have := hAl i'
      rw [hA]
      omega
    rw [← hA]
    refine wpS_for3 9 10 11 (fun j q r s O' => O' = [⟨c, true, prs (A ++ (((List.range n).take j).filter (T i')).map fun (i : Nat) => ((i' : Int), (i : Int)))⟩]) (as := List.range n) (enc := fun (i : Nat) => D.int (0 + (i : Int))) ?_
    walk_at "w"
    refine ⟨⟨by omega, by omega⟩, ?_, by simp, fun _ _ _ _ _ _ _ => trivial, ?_, ?_⟩
    · rw [show (((row gs 0).length : Int) - 1).toNat = n by omega] <;> rfl
    · intro j j' q r s O' hj hJ
      have hj0 := hj
      obtain ⟨rfl, hj⟩ := range_get hj
      subst hJ
      have e0 : (0 + (i' : Int), 0 + (j' : Int)) = ((i' : Int), (j' : Int)) := by rw [Int.zero_add, Int.zero_add]
      have hst : stepB gs ((i' : Int), (j' : Int)) = true := by
        unfold stepB
        simp only [Bool.and_eq_true, decide_eq_true_eq]
        omega
      have v' := v.swp hst
      have hB : decide (readL (sws gs ((i' : Int), (j' : Int))) = readL gs) = T i' j' := by
        rw [hT, Bool.eq_iff_iff, decide_eq_true_iff, sil_read v hst]
      have hfl : (((List.range n).take j').filter (T i')).length ≤ 12 := Nat.le_trans (List.length_filter_le ..) (by rw [List.length_take]; omega)
      have et : (List.range n).take (j' + 1) = (List.range n).take j' ++ [j'] := by
        rw [List.take_succ, hj0] <;> rfl
      walk_at "w"
      refine ⟨by show 2 ≤ sizeLine; decide, ?_⟩
      rw [Int.zero_add, Int.zero_add]
      walk_at "w"
      walk_at "c0"
      walk_at "c0"
      refine ⟨gs, ((i' : Int), (j' : Int)), ⟨rfl, rfl⟩, v.v3, hst, ?_⟩
      walk_at "w"
      refine ⟨_, ⟨rfl, rfl⟩, v'.v3, ?_⟩
      walk_at "w"
      refine wpR_eqC codes_pr (by decide) view_self view_self ?_
      rw [hB]
      have hTT : T i' j' = sil gs ((i' : Int), (j' : Int)) := by rw [hT]
      refine wpS_mid (fun G O => G = [some (stD K gs), some (gD gs), some (PyD.prD dr), some (prs (readL gs)), some (trs (shL gs)), some (D.int ((row gs 0).length : Int)), some (D.mut c), some (D.int (i' : Int)), none, some (D.int (j' : Int)), some (D.tup [D.int (i' : Int), D.int (j' : Int)]), some (D.bl (T i' j'))] ∧ O = [⟨c, true, prs (A ++ (((List.range n).take (j' + 1)).filter (T i')).map fun (i : Nat) => ((i' : Int), (i : Int)))⟩]) ?_ ?_
      · walk_at "w"
        refine ⟨fun hc => ?_, fun hc => ?_⟩
        · walk_at "w"
          refine wpM_appendC (f := PyD.prD) (x := ((i' : Int), (j' : Int))) (j := 0) rfl rfl (small1000 (by rw [List.length_append, List.length_map]; omega)) ?_
          refine ⟨rfl, ?_⟩
          have e3 : A ++ ((((List.range n).take j' ++ [j']).filter (T i')).map fun (i : Nat) => ((i' : Int), (i : Int))) = (A ++ (((List.range n).take j').filter (T i')).map fun (i : Nat) => ((i' : Int), (i : Int))) ++ [((i' : Int), (j' : Int))] := by
            rw [List.filter_append, List.filter_cons, if_pos hc, List.filter_nil, List.map_append, ← List.append_assoc] <;> rfl
          rw [et, e3] <;> rfl
        · walk_at "w"
          refine ⟨rfl, ?_⟩
          rw [et, List.filter_append, List.filter_cons, if_neg (by rw [hc]; decide), List.filter_nil, List.append_nil]
      · rintro G O ⟨rfl, rfl⟩
        walk_at "w"
        walk_at "c0"
        refine ⟨gs, ((i' : Int), (j' : Int)), _, ⟨rfl, rfl⟩, v, hst, hTT, ?_⟩
        walk_at "w"
        refine ⟨fun h => (by cases h), fun _ => ?_⟩
        walk_at "w"
        refine wpS_iteP (c := false) ?_ ⟨fun h => (by cases h), fun _ => ?_⟩
        · refine wpT_mono (wpT_andP (c1 := decide (((row gs 0).length : Int) < 7) || decide (((i' : Int), (j' : Int)) = dr)) (c2 := false) ?_ fun h2 => ?_) fun b O' h => ⟨by rw [h.1, Bool.and_false], h.2⟩
          · refine wpT_orP ?_ fun _ => ?_
            · walk_at "w"
              exact ⟨rfl, rfl⟩
            · walk_at "w"
              refine wpR_eqPd (p := ((i' : Int), (j' : Int))) ?_
              exact ⟨_, rfl, rfl, rfl⟩
          · walk_at "w"
            walk_at "c0"
            refine ⟨gs, ((i' : Int), (j' : Int)), _, ⟨rfl, rfl⟩, v, hst, hTT, ?_⟩
            walk_at "w"
            exact ⟨rfl, rfl⟩
        walk_at "w"
        exact ⟨_, _, _, rfl, rfl⟩
    · intro q r s O' hJ
      refine ⟨_, _, _, _, rfl, ?_⟩
      rw [hJ, List.range_succ, List.flatMap_append, ← hA, List.length_range, List.take_of_length_le (by rw [List.length_range]; exact Nat.le_refl _)]
      have : [i'].flatMap F = F i' := by rw [List.flatMap_cons, List.flatMap_nil, List.append_nil]
      rw [this, hF]
  · intro q r s t O' hJ
    subst hJ
    rw [List.length_range, ← hsl]
    refine wpS_frz (i := 6) (j := 0) rfl rfl ?_
    walk_at "w"
    walk_at "c0"
    refine ⟨gs, ⟨rfl, rfl⟩, v, fun c8 => ?_⟩
    walk_at "w"
    walk_at "c1"
    refine ⟨0, _, _, _, rfl, tupsM (by omega) ⟨[], _, rfl, ?_⟩⟩
    walk_at "w"
    refine ⟨fun h => (by cases h), fun _ => ?_⟩
    walk_at "w"
    refine ⟨by show 2 ≤ sizeLine; decide, ?_⟩
    walk_at "w"
    refine wpM_appendC (f := PyD.prD) (x := (0, 0)) (j := 0) rfl rfl (small1000 (by omega)) ?_
    walk_at "w"
    refine wpM_reverse (j := 0) rfl ?_
    refine wpS_subO (List.nil_sublist _) ?_
    walk_at "wr"
    walk_at "c0"
    refine wpE_fz ?_
    walk_at "c0"
    refine ⟨gs, ⟨rfl, rfl⟩, v, fun c9 => ⟨c9, _, _, rfl, rfl, ?_⟩⟩
    walk_at "w"
    refine tupsP (by omega) ?_
    walk_at "w"
    refine ⟨fun _ => ?_, fun h => (by cases h)⟩
    walk_at "c0"
    exact ⟨gs, ⟨rfl, rfl⟩, v, hk⟩
end
section
variable {K : PySem.W.Frag} {W : WX} {ds : List D} {O : Ow} {k : Kk} {x : Xk}
theorem plainB_ints : ∀ ns : List Int, plainBs (ns.map D.int) = true
  | [] => rfl
  | n :: ns => by
    rw [List.map_cons]
    exact plainB_ints ns
theorem depth_ints : ∀ ns : List Int, PyData.depthAll (toPds (ns.map D.int)) ≤ 1
  | [] => by decide
  | n :: ns => by
    rw [List.map_cons]
    show PyData.depthAll (toPd (D.int n) :: toPds (ns.map D.int)) ≤ 1
    have := depth_ints ns
    simp only [PyData.depthAll]
    refine Nat.max_le.mpr ⟨?_, this⟩
    simp [toPd, PyData.depth]
theorem shalB_gD (a b c : List Int) : shalB (.lst [L a, L b, L c]) := by
  constructor
  · show (plainBs (a.map D.int) && (plainBs (b.map D.int) && (plainBs (c.map D.int) && true))) = true
    rw [plainB_ints, plainB_ints, plainB_ints] <;> rfl
  · have h1 := depth_ints a
    have h2 := depth_ints b
    have h3 := depth_ints c
    simp only [toPd, toPds, PyData.depth, PyData.depthAll]
    simp only [Nat.max_def]
    split <;> (try split) <;> (try split) <;> omega
theorem w_law_v5 (h : sp_law_v5 K ds O k x) (lo : ∀ p ∈ O, p.loc = false) : wpS K W (fun e _ O' => x e O') (t_law_v5 K W) (startD N_law_v5.length ds) O { nx := fun _ O' => k .non O', rt := k } := by
  obtain ⟨ns, ⟨rfl, rfl⟩, hl, hk⟩ := h
  unfold t_law_v5
  walk_at "start"
  walk_at "w"
  walk_at "c0"
  refine ⟨ns, ⟨rfl, rfl⟩, hl, fun c d hB => ?_⟩
  walk_at "w"
  walk_at "c1"
  refine ⟨0, _, _, _, rfl, ⟨_, _, ⟨rfl, rfl⟩, hB, fun gs d hB v => ⟨[], _, rfl, ?_⟩⟩⟩
  have vl := v.len
  have v0 := v.l12 (h := 0) (by omega)
  walk_at "w"
  refine wpR_ixA (.inl seq_l) (rowD (by omega) (by omega)) ?_
  walk_at "w"
  refine wpE_take (j := 0) rfl ?_
  walk_at "w"
  refine ⟨_, _, _, rfl, ⟨by omega, by omega⟩, rfl, hB, fun x1 d x10 x11 hB => ?_⟩
  walk_at "w"
  refine wpE_take (j := 0) rfl ?_
  walk_at "w"
  obtain ⟨m, hm⟩ : ∃ m : Int, m = if ((row gs 0).length : Int) - 1 > 1 then ((row gs 0).length : Int) - 1 else 1 := ⟨_, rfl⟩
  have hm1 : 1 ≤ m ∧ m ≤ 12 := by
    rw [hm]
    split <;> omega
  rw [← hm]
  refine ⟨_, _, _, rfl, ⟨by omega, by omega⟩, rfl, hB, fun x2 d x20 x21 hB => ?_⟩
  walk_at "w"
  refine ⟨by show 2 ≤ sizeLine; decide, ?_⟩
  walk_at "w"
  walk_at "c1"
  refine ⟨0, _, _, _, rfl, ⟨_, _, (row gs 0).length, ⟨rfl, rfl⟩, hB, v0, fun ls d hB hll hls => ⟨[], _, rfl, ?_⟩⟩⟩
  have hls0 : ∀ s ∈ ls, stepB gs s = false := fun s hs => hls s hs gs rfl
  refine wpS_subO (List.nil_sublist _) ?_
  walk_at "w"
  refine wpE_lcOwn (gs := gs) (gIn_name (by decide)) gMono_name ?_
  walk_at "w"
  refine ⟨_, seq_l, rfl, small1000 (by omega), fun _ => seq_l, fun i o O2 ho => ?_, fun cs hcs => ?_⟩
  · walk_at "w"
    refine ⟨rfl, ?_⟩
    walk_at "w"
    refine wpC_list false seq_l ?_
    intro c _
    exact ⟨c, rfl, rfl⟩
  rw [vl] at hcs
  obtain ⟨c0, c1, c2, rfl⟩ := three_of hcs
  obtain ⟨g0, g1, g2, rfl⟩ := three_of vl
  have eo : ownOf [c0, c1, c2] [g0, g1, g2] ++ ([] : Ow) = [⟨c2, true, L g2⟩, ⟨c1, true, L g1⟩, ⟨c0, true, L g0⟩] := rfl
  rw [eo]
  walk_at "w"
  have hv : ∀ j, j < 3 → Sm (row [g0, g1, g2] j) := fun j hj => wrong_sm (v.row hj).1
  have hl0 : ∀ j, j < 3 → (row [g0, g1, g2] j).length ≤ 12 := fun j hj => v.l12 hj
  have l1 : g1.length ≤ 12 := hl0 1 (by omega)
  have vt : VS [g1, g2, g0] := vs_turn v
  have mk0 : wrongRep [g0, g1, g2] = none := v.rep'
  have mk1 : wrongRep [g1, g2, g0] = none := vt.rep
  have lt : (row [g1, g2, g0] 0).length = (row [g0, g1, g2] 0).length := v.leq (h := 1) (by omega)
  refine wpE_nd fun nd => ?_
  refine wpE_make (fun _ => .nil) ?_
  walk_at "w"
  refine ⟨[⟨c0, false, L g0⟩, ⟨c1, false, L g1⟩, ⟨c2, false, L g2⟩], pick_lent nd (js := [2, 1, 0]) (by decide), fun s _ => ⟨s, .mut c0, .mut c1, .mut c2, g0, g1, g2, _, ⟨rfl, rfl⟩, ⟨seq_m (i := 0) rfl, seq_m (i := 1) rfl, seq_m (i := 2) rfl⟩, ⟨hv 0 (by omega), hv 1 (by omega), hv 2 (by omega)⟩, fun _ => ⟨rfl, [], _, rfl, ?_⟩, fun q hq => by rw [mk0] at hq; cases hq⟩⟩
  walk_at "w"
  refine wpR_neVs (es := [L g0, L g1, L g2]) rfl (.cons (view_m (i := 2) rfl) (.cons (view_m (i := 1) rfl) (.cons (view_m (i := 0) rfl) .nil))) view_self (shalB_gD g0 g1 g2) (shalB_gD g0 g1 g2) ?_
  rw [show D.lst ([g0, g1, g2].map L) = D.lst [L g0, L g1, L g2] from rfl, eqv_same _ (shalB_gD g0 g1 g2).1]
  walk_at "w"
  refine ⟨fun h => (by cases h), fun _ => ?_⟩
  walk_at "w"
  refine wpM_reverseI (j := 2) rfl ?_
  walk_at "w"
  refine wpM_appendI (j := 1) rfl (by omega) ?_
  refine wpS_subO (List.nil_sublist _) ?_
  walk_at "w"
  refine wpE_lst true ?_
  walk_at "w"
  refine ⟨by show 3 ≤ sizeLine; decide, ?_⟩
  walk_at "w"
  refine wpE_make (fun _ => .nil) ?_
  walk_at "w"
  refine wpC_list true seq_l ?_
  walk_at "w"
  refine wpC_list true seq_l ?_
  walk_at "w"
  refine wpC_list true seq_l ?_
  walk_at "w"
  refine ⟨[], lent_nil, fun s _ => ⟨s, _, _, _, g1, g2, g0, [], ⟨rfl, rfl⟩, ⟨seq_l, seq_l, seq_l⟩, ⟨hv 1 (by omega), hv 2 (by omega), hv 0 (by omega)⟩, fun _ => ⟨rfl, [], _, rfl, ?_⟩, fun q hq => by rw [mk1] at hq; cases hq⟩⟩
  walk_at "w"
  have hls1 : ∀ s ∈ ls, stepB [g1, g2, g0] s = false := fun s hs => hls s hs _ lt
  refine wpS_iteP (c := false) ?_ ⟨fun h => (by cases h), fun _ => ?_⟩
  · refine wpT_orP (c1 := false) (c2 := false) ?_ fun _ => ?_
    · walk_at "w"
      walk_at "c0"
      refine ⟨_, (x1, x2), ⟨rfl, rfl⟩, v, ?_⟩
      walk_at "w"
      exact ⟨rfl, rfl⟩
    · walk_at "w"
      walk_at "c0"
      refine ⟨_, (x1, x2), ⟨rfl, rfl⟩, vt, ?_⟩
      walk_at "w"
      exact ⟨rfl, rfl⟩
  walk_at "w"
  refine wpS_iteP (c := false) ?_ ⟨fun h => (by cases h), fun _ => ?_⟩
  · refine wpT_orP (c1 := false) (c2 := false) ?_ fun _ => ?_
    · walk_at "w"
      walk_at "c0"
      refine ⟨_, ls, ⟨rfl, rfl⟩, v, hll, hls0, ?_⟩
      walk_at "w"
      exact ⟨rfl, rfl⟩
    · walk_at "w"
      walk_at "c0"
      refine ⟨_, ls, ⟨rfl, rfl⟩, vt, hll, hls1, ?_⟩
      walk_at "w"
      exact ⟨rfl, rfl⟩
  walk_at "wr"
  walk_at "c0"
  refine ⟨_, ⟨rfl, rfl⟩, vt, ?_⟩
  walk_at "w"
  refine ⟨fun _ => ?_, fun h => (by cases h)⟩
  walk_at "c0"
  exact ⟨_, ⟨rfl, rfl⟩, v, hk⟩
end
theorem law_ok_K07 {K : PySem.W.Frag} {ns : List Int} (hn : ns.length ≤ 63) (hb : ∀ z ∈ ns, Builtin.Int.intBits z ≤ 1048576) : sp_law_v5 K [.kl (ns.map D.int)] [] (fun d _ => d = .bl true) (fun _ _ => False) := ⟨ns, ⟨rfl, rfl⟩, hn, rfl⟩
end Q
namespace K07
open PySem PySem.Spec L2 PyD PyT PyE PyH PyI PyC PyProof.Rows Q
section
variable {P : Program} {w : World} {K : PySem.W.Frag} {mg : Str → Option Value} {base : Heap}
theorem ok_first_wrong_place (T : TX P K mg)
    (len : ∀ ds O k x, sp_first_wrong_place K ds O k x → ds.length = 1)
    (walk : ∀ W ds O k x, sp_first_wrong_place K ds O k x → (∀ p ∈ O, p.loc = false) → wpS K W (fun e _ O' => x e O') (t_first_wrong_place K W) (startD N_first_wrong_place.length ds) O { nx := fun _ O' => k .non O', rt := k }) : FE P w K mg base 1 "first_wrong_place" ["order"] [] (toSp K (sp_first_wrong_place K)) := by
  refine fe_of (ts := t_first_wrong_place K) T.F_first_wrong_place T.g_first_wrong_place sc_first_wrong_place len (fun fd F => binds0 F fun _ _ _ _ _ _ us hl => match us, hl with | [_], _ => rfl) (fun cdv A outer s H E hr => ?_) walk
  have hu := hu_of hr
  have hu64 : (A.deeper (envOfC "first_wrong_place" (defScope s_first_wrong_place) s.heap.objs.size (He.ga K "first_wrong_place") cdv)).units + 64 < cLine := by have := hr.un; omega
  have hu1 : (A.deeper (envOfC "first_wrong_place" (defScope s_first_wrong_place) s.heap.objs.size (He.ga K "first_wrong_place") cdv)).units < cLine := by have := hr.un; omega
  unfold t_first_wrong_place
  exact pss_cons (ps_set (i := 1) sc_first_wrong_place.nd rfl (by first | exact Or.inl rfl | exact Or.inr rfl) (pe_dnewK))
      (pss_cons (ps_for (passes_of rfl) rfl (pi_enum (by rfl) T.n_enumerate (pa_cons (pv 0) (pa_nil))) (pg_tup rfl (pgs_cons (pg_name (i := 2) sc_first_wrong_place.nd rfl (by first | exact Or.inl rfl | exact Or.inr rfl)) (pgs_cons (pg_name (i := 3) sc_first_wrong_place.nd rfl (by first | exact Or.inl rfl | exact Or.inr rfl)) (pgs_nil)))) (pss_cons (ps_if (PW.pt (pw_or (pt_cmpR opA_ge (pv 2) ((by obtain ⟨t, h⟩ := T.i_MAX_KEYS; exact pe_glob rfl h ⟨_, rfl⟩)) (nomark _)) (pw_or (pt_cmpR opA_lt (pv 3) (pe_int) (nomark _)) (pw_or (pt_cmpR opA_gt (pv 3) ((by obtain ⟨t, h⟩ := T.i_MAX_KEY; exact pe_glob rfl h ⟨_, rfl⟩)) (nomark _)) (pw_or1 (pt_cmp (pc_din hu (pv 3) (pv 1)))))))) (pss_one (ps_ret (pv 2))) (pss_nil))
      (pss_one (ps_dput hu (pv 1) (pv 3) (pe_bl) rfl))))
      (pss_one (ps_ret (pe_non))))
theorem ok__wrong_replica (T : TX P K mg) (F_first_wrong_place : FE P w K mg base 1 "first_wrong_place" ["order"] [] (toSp K (sp_first_wrong_place K)))
    (len : ∀ ds O k x, sp__wrong_replica K ds O k x → ds.length = 1)
    (walk : ∀ W ds O k x, sp__wrong_replica K ds O k x → (∀ p ∈ O, p.loc = false) → wpS K W (fun e _ O' => x e O') (t__wrong_replica K W) (startD N__wrong_replica.length ds) O { nx := fun _ O' => k .non O', rt := k }) : FE P w K mg base 2 "_wrong_replica" ["orders"] [] (toSp K (sp__wrong_replica K)) := by
  refine fe_of (ts := t__wrong_replica K) T.F__wrong_replica T.g__wrong_replica sc__wrong_replica len (fun fd F => binds0 F fun _ _ _ _ _ _ us hl => match us, hl with | [_], _ => rfl) (fun cdv A outer s H E hr => ?_) walk
  have hu := hu_of hr
  have hu64 : (A.deeper (envOfC "_wrong_replica" (defScope s__wrong_replica) s.heap.objs.size (He.ga K "_wrong_replica") cdv)).units + 64 < cLine := by have := hr.un; omega
  have hu1 : (A.deeper (envOfC "_wrong_replica" (defScope s__wrong_replica) s.heap.objs.size (He.ga K "_wrong_replica") cdv)).units < cLine := by have := hr.un; omega
  unfold t__wrong_replica
  exact pss_cons (ps_set (i := 1) sc__wrong_replica.nd rfl (by first | exact Or.inl rfl | exact Or.inr rfl) (pe_callB callA_sorted (by rfl) T.n_sorted (by decide +kernel) (pa_cons (pe_ix ix_lt (pv 0) (pe_int) (fun _ _ => rfl)) (pa_nil))))
      (pss_cons (ps_for (passes_of rfl) rfl (pi_enum (by rfl) T.n_enumerate (pa_cons (pv 0) (pa_nil))) (pg_tup rfl (pgs_cons (pg_name (i := 2) sc__wrong_replica.nd rfl (by first | exact Or.inl rfl | exact Or.inr rfl)) (pgs_cons (pg_name (i := 3) sc__wrong_replica.nd rfl (by first | exact Or.inl rfl | exact Or.inr rfl)) (pgs_nil)))) (pss_one (ps_if (PW.pt (pw_or (pt_cmpR opA_notN (pe_fe (E := (WE fun cls d _ H => E cls d H)) F_first_wrong_place (hr.mono (by decide)) (by rfl) (fun σ => passAt (takes_of rfl rfl rfl rfl) σ) (pa_cons (pv 3) (pa_nil))) (pe_non) (nomark _)) (pw_or1 (pt_cmpR (opA_ne hu64) (pe_callB callA_sorted (by rfl) T.n_sorted (by decide +kernel) (pa_cons (pv 3) (pa_nil))) (pv 1) (nomark _))))) (pss_one (ps_ret (pv 2))) (pss_nil))))
      (pss_one (ps_ret (pe_non))))
theorem ok_index_of (T : TX P K mg)
    (len : ∀ ds O k x, sp_index_of K ds O k x → ds.length = 1)
    (walk : ∀ W ds O k x, sp_index_of K ds O k x → (∀ p ∈ O, p.loc = false) → wpS K W (fun e _ O' => x e O') (t_index_of K W) (startD N_index_of.length ds) O { nx := fun _ O' => k .non O', rt := k }) : FE P w K mg base 1 "index_of" ["order"] [] (toSp K (sp_index_of K)) := by
  refine fe_of (ts := t_index_of K) T.F_index_of T.g_index_of sc_index_of len (fun fd F => binds0 F fun _ _ _ _ _ _ us hl => match us, hl with | [_], _ => rfl) (fun cdv A outer s H E hr => ?_) walk
  have hu := hu_of hr
  have hu64 : (A.deeper (envOfC "index_of" (defScope s_index_of) s.heap.objs.size (He.ga K "index_of") cdv)).units + 64 < cLine := by have := hr.un; omega
  have hu1 : (A.deeper (envOfC "index_of" (defScope s_index_of) s.heap.objs.size (He.ga K "index_of") cdv)).units < cLine := by have := hr.un; omega
  unfold t_index_of
  exact pss_one (ps_ret (pe_dc (own := [("place", 1), ("key", 2)]) (g := gTup K 2 (gCons (gName 1) (gCons (gName 2) (gNil)))) (tt := tYes)  rfl sc_index_of.nd (pi_enum (by rfl) T.n_enumerate (pa_cons (pv 0) (pa_nil))) (blkOk_by (N := N_index_of) (sc := defScope s_index_of) (by decide +kernel)) (fun _ _ _ _ _ => pg_tup rfl (pgs_cons (pg_name (i := 1) sc_index_of.nd rfl (by first | exact Or.inl rfl | exact Or.inr rfl)) (pgs_cons (pg_name (i := 2) sc_index_of.nd rfl (by first | exact Or.inl rfl | exact Or.inr rfl)) (pgs_nil)))) (fun _ _ _ _ _ => pts_nil) (fun _ _ _ _ _ => pv 2) (fun _ _ _ _ _ => pv 1)))
theorem ok_State___init__ (T : TX P K mg) (F__wrong_replica : FE P w K mg base 2 "_wrong_replica" ["orders"] [] (toSp K (sp__wrong_replica K))) (F_index_of : FE P w K mg base 1 "index_of" ["order"] [] (toSp K (sp_index_of K)))
    (len : ∀ ds O k x, sp_State___init__ K ds O k x → ds.length = 4)
    (walk : ∀ W ds O k x, sp_State___init__ K ds O k x → (∀ p ∈ O, p.loc = false) → wpS K W (fun e _ O' => x e O') (t_State___init__ K W) (startD N_State___init__.length ds) O { nx := fun _ O' => k .non O', rt := k }) : FM P w K mg base 3 (He.ga K "State") "__init__" ["self", "first", "second", "third"] [] (toSp K (sp_State___init__ K)) := by
  refine fm_of (ts := t_State___init__ K) T.F_State___init__ T.M_State___init__ sc_State___init__ len (fun fd F => bindsM F fun _ _ _ _ _ _ us hl => match us, hl with | [_, _, _, _], _ => rfl) (fun cdv A outer s H E hr => ?_) walk
  have hu := hu_of hr
  have hu64 : (A.deeper (envOfC "State.__init__" (defScope s_State___init__) s.heap.objs.size (He.ma K (He.ga K "State") "__init__") cdv)).units + 64 < cLine := by have := hr.un; omega
  have hu1 : (A.deeper (envOfC "State.__init__" (defScope s_State___init__) s.heap.objs.size (He.ma K (He.ga K "State") "__init__") cdv)).units < cLine := by have := hr.un; omega
  unfold t_State___init__
  exact pss_cons (ps_set (i := 4) sc_State___init__.nd rfl (by first | exact Or.inl rfl | exact Or.inr rfl) (pe_lst (pa_cons (pe_callTy callA_list (by rfl) T.n_list (by decide +kernel) (pa_cons (pv 1) (pa_nil))) (pa_cons (pe_callTy callA_list (by rfl) T.n_list (by decide +kernel) (pa_cons (pv 2) (pa_nil))) (pa_cons (pe_callTy callA_list (by rfl) T.n_list (by decide +kernel) (pa_cons (pv 3) (pa_nil))) (pa_nil))))))
      (pss_cons (ps_set (i := 5) sc_State___init__.nd rfl (by first | exact Or.inl rfl | exact Or.inr rfl) (pe_fe (E := (WE fun cls d _ H => E cls d H)) F__wrong_replica (hr.mono (by decide)) (by rfl) (fun σ => passAt (takes_of rfl rfl rfl rfl) σ) (pa_cons (pv 4) (pa_nil))))
      (pss_cons (ps_if (pt_cmpR opA_notN (pv 5) (pe_non) (nomark _)) (pss_one (ps_raiseX (okV := fmtI) (W := fun cls d _ H => E cls d H) rfl (takes_of rfl rfl rfl rfl) T.tx_InvalidState T.g_InvalidState T.x_InvalidState.kp T.x_InvalidState.sb T.x_InvalidState.ty T.n_super (fun v u h r => L2.msg_3 (a := "replica ") (b := " does not fit a state") rfl (by decide) (by decide) v u h r) hr (pa_cons (pv 5) (pa_nil)) rfl)) (pss_nil))
      (pss_cons (ps_fld (pv 0) (pv 4) rfl)
      (pss_one (ps_fld (pv 0) (pe_lc (own := [("order", 6)]) (g := gName 6) (tt := tYes) rfl sc_State___init__.nd (pi_list (pv 4)) (blkOk_by (N := N_State___init__) (sc := defScope s_State___init__) (by decide +kernel)) (fun _ _ _ _ _ => pg_name (i := 6) sc_State___init__.nd rfl (by first | exact Or.inl rfl | exact Or.inr rfl)) (fun _ _ _ _ _ => pts_nil) (fun _ _ _ _ _ => pe_fe (E := (fun _ => E0)) F_index_of (hr.mono (by decide)) (by rfl) (fun σ => passE σ) (pa_cons (pv 6) (pa_nil)))) rfl)))))
theorem ok__law_box (T : TX P K mg)
    (len : ∀ ds O k x, sp__law_box K ds O k x → ds.length = 1)
    (walk : ∀ W ds O k x, sp__law_box K ds O k x → (∀ p ∈ O, p.loc = false) → wpS K W (fun e _ O' => x e O') (t__law_box K W) (startD N__law_box.length ds) O { nx := fun _ O' => k .non O', rt := k }) : FE P w K mg base 1 "_law_box" ["_law_script"] [] (toSp K (sp__law_box K)) := by
  refine fe_of (ts := t__law_box K) T.F__law_box T.g__law_box sc__law_box len (fun fd F => binds0 F fun _ _ _ _ _ _ us hl => match us, hl with | [_], _ => rfl) (fun cdv A outer s H E hr => ?_) walk
  have hu := hu_of hr
  have hu64 : (A.deeper (envOfC "_law_box" (defScope s__law_box) s.heap.objs.size (He.ga K "_law_box") cdv)).units + 64 < cLine := by have := hr.un; omega
  have hu1 : (A.deeper (envOfC "_law_box" (defScope s__law_box) s.heap.objs.size (He.ga K "_law_box") cdv)).units < cLine := by have := hr.un; omega
  unfold t__law_box
  exact pss_one (ps_ret (pe_lst (pa_cons (pe_callTy callA_list (by rfl) T.n_list (by decide +kernel) (pa_cons (pe_slice sl_list (pv 0) (po_none) (po_some (pe_int))) (pa_nil))) (pa_cons (pe_int) (pa_cons (pe_int) (pa_nil))))))
theorem ok_State_lists (T : TX P K mg)
    (len : ∀ ds O k x, sp_State_lists K ds O k x → ds.length = 1)
    (walk : ∀ W ds O k x, sp_State_lists K ds O k x → (∀ p ∈ O, p.loc = false) → wpS K W (fun e _ O' => x e O') (t_State_lists K W) (startD N_State_lists.length ds) O { nx := fun _ O' => k .non O', rt := k }) : FM P w K mg base 1 (He.ga K "State") "lists" ["self"] [] (toSp K (sp_State_lists K)) := by
  refine fm_of (ts := t_State_lists K) T.F_State_lists T.M_State_lists sc_State_lists len (fun fd F => bindsM F fun _ _ _ _ _ _ us hl => match us, hl with | [_], _ => rfl) (fun cdv A outer s H E hr => ?_) walk
  have hu := hu_of hr
  have hu64 : (A.deeper (envOfC "State.lists" (defScope s_State_lists) s.heap.objs.size (He.ma K (He.ga K "State") "lists") cdv)).units + 64 < cLine := by have := hr.un; omega
  have hu1 : (A.deeper (envOfC "State.lists" (defScope s_State_lists) s.heap.objs.size (He.ma K (He.ga K "State") "lists") cdv)).units < cLine := by have := hr.un; omega
  unfold t_State_lists
  exact pss_one (ps_ret (pe_lc (own := [("order", 1)]) (g := gName 1) (tt := tYes) rfl sc_State_lists.nd (pi_list (pe_fld (pv 0) rfl)) (blkOk_by (N := N_State_lists) (sc := defScope s_State_lists) (by decide +kernel)) (fun _ _ _ _ _ => pg_name (i := 1) sc_State_lists.nd rfl (by first | exact Or.inl rfl | exact Or.inr rfl)) (fun _ _ _ _ _ => pts_nil) (fun _ _ _ _ _ => pe_callTy callA_list (by rfl) T.n_list (by decide +kernel) (pa_cons (pv 1) (pa_nil)))))
theorem ok__law_is_number (T : TX P K mg)
    (len : ∀ ds O k x, sp__law_is_number_v2 K ds O k x → ds.length = 2)
    (walk : ∀ W ds O k x, sp__law_is_number_v2 K ds O k x → (∀ p ∈ O, p.loc = false) → wpS K W (fun e _ O' => x e O') (t__law_is_number_v2 K W) (startD N__law_is_number_v2.length ds) O { nx := fun _ O' => k .non O', rt := k }) : FE P w K mg base 1 "_law_is_number" ["_law_actual", "_law_due"] [] (toSp K (sp__law_is_number_v2 K)) := by
  refine fe_of (ts := t__law_is_number_v2 K) T.F__law_is_number T.g__law_is_number sc__law_is_number len (fun fd F => binds0 F fun _ _ _ _ _ _ us hl => match us, hl with | [_, _], _ => rfl) (fun cdv A outer s H E hr => ?_) walk
  have hu := hu_of hr
  have hu64 : (A.deeper (envOfC "_law_is_number" (defScope s__law_is_number) s.heap.objs.size (He.ga K "_law_is_number") cdv)).units + 64 < cLine := by have := hr.un; omega
  have hu1 : (A.deeper (envOfC "_law_is_number" (defScope s__law_is_number) s.heap.objs.size (He.ga K "_law_is_number") cdv)).units < cLine := by have := hr.un; omega
  unfold t__law_is_number_v2
  exact pss_one (ps_ret (pe_and (pe_callB call_isi (by rfl) T.n_isinstance (by decide +kernel) (pa_cons (pv 0) (pa_cons (pe_bltn (v := .ty "int") (by rfl) T.n_int (by decide +kernel) rfl) (pa_nil)))) (pe_and (pe_not (pe_callB call_isi (by rfl) T.n_isinstance (by decide +kernel) (pa_cons (pv 0) (pa_cons (pe_bltn (v := .ty "bool") (by rfl) T.n_bool (by decide +kernel) rfl) (pa_nil))))) (pe_one (pe_cmpR (opA_eq hu64) (pv 0) (pv 1) (nomark _))))))
theorem ok__law_is_row (T : TX P K mg) (F__law_is_number : FE P w K mg base 1 "_law_is_number" ["_law_actual", "_law_due"] [] (toSp K (sp__law_is_number_v2 K)))
    (len : ∀ ds O k x, sp__law_is_row_v2 K ds O k x → ds.length = 2)
    (walk : ∀ W ds O k x, sp__law_is_row_v2 K ds O k x → (∀ p ∈ O, p.loc = false) → wpS K W (fun e _ O' => x e O') (t__law_is_row_v2 K W) (startD N__law_is_row_v2.length ds) O { nx := fun _ O' => k .non O', rt := k }) : FE P w K mg base 2 "_law_is_row" ["_law_actual", "_law_due"] [] (toSp K (sp__law_is_row_v2 K)) := by
  refine fe_of (ts := t__law_is_row_v2 K) T.F__law_is_row T.g__law_is_row sc__law_is_row len (fun fd F => binds0 F fun _ _ _ _ _ _ us hl => match us, hl with | [_, _], _ => rfl) (fun cdv A outer s H E hr => ?_) walk
  have hu := hu_of hr
  have hu64 : (A.deeper (envOfC "_law_is_row" (defScope s__law_is_row) s.heap.objs.size (He.ga K "_law_is_row") cdv)).units + 64 < cLine := by have := hr.un; omega
  have hu1 : (A.deeper (envOfC "_law_is_row" (defScope s__law_is_row) s.heap.objs.size (He.ga K "_law_is_row") cdv)).units < cLine := by have := hr.un; omega
  unfold t__law_is_row_v2
  exact pss_cons (ps_if (pt_cmpR (opA_ne hu64) (pe_callB callA_len (by rfl) T.n_len (by decide +kernel) (pa_cons (pv 0) (pa_nil))) (pe_callB callA_len (by rfl) T.n_len (by decide +kernel) (pa_cons (pv 1) (pa_nil))) (nomark _)) (pss_one (ps_ret (pe_bl))) (pss_nil))
      (pss_cons (ps_for (passes_of rfl) rfl (pi_range1 (by rfl) T.n_range (pa_cons (pe_callB callA_len (by rfl) T.n_len (by decide +kernel) (pa_cons (pv 1) (pa_nil))) (pa_nil))) (pg_name (i := 2) sc__law_is_row.nd rfl (by first | exact Or.inl rfl | exact Or.inr rfl)) (pss_one (ps_if (pt_not (pt_truth (pe_fe (E := (WE fun cls d _ H => E cls d H)) F__law_is_number (hr.mono (by decide)) (by rfl) (fun σ => passAt (takes_of rfl rfl rfl rfl) σ) (pa_cons (pe_ix ix_lt (pv 0) (pv 2) (fun _ _ => rfl)) (pa_cons (pe_ix ix_lt (pv 1) (pv 2) (fun _ _ => rfl)) (pa_nil)))) (by intro _; rfl))) (pss_one (ps_ret (pe_bl))) (pss_nil))))
      (pss_one (ps_ret (pe_bl))))
theorem ok__law_is_state (T : TX P K mg) (F_State_lists : FM P w K mg base 1 (He.ga K "State") "lists" ["self"] [] (toSp K (sp_State_lists K))) (F__law_is_row : FE P w K mg base 2 "_law_is_row" ["_law_actual", "_law_due"] [] (toSp K (sp__law_is_row_v2 K)))
    (len : ∀ ds O k x, sp__law_is_state_v2 K ds O k x → ds.length = 2)
    (walk : ∀ W ds O k x, sp__law_is_state_v2 K ds O k x → (∀ p ∈ O, p.loc = false) → wpS K W (fun e _ O' => x e O') (t__law_is_state_v2 K W) (startD N__law_is_state_v2.length ds) O { nx := fun _ O' => k .non O', rt := k }) : FE P w K mg base 3 "_law_is_state" ["_law_actual", "_law_due"] [] (toSp K (sp__law_is_state_v2 K)) := by
  refine fe_of (ts := t__law_is_state_v2 K) T.F__law_is_state T.g__law_is_state sc__law_is_state len (fun fd F => binds0 F fun _ _ _ _ _ _ us hl => match us, hl with | [_, _], _ => rfl) (fun cdv A outer s H E hr => ?_) walk
  have hu := hu_of hr
  have hu64 : (A.deeper (envOfC "_law_is_state" (defScope s__law_is_state) s.heap.objs.size (He.ga K "_law_is_state") cdv)).units + 64 < cLine := by have := hr.un; omega
  have hu1 : (A.deeper (envOfC "_law_is_state" (defScope s__law_is_state) s.heap.objs.size (He.ga K "_law_is_state") cdv)).units < cLine := by have := hr.un; omega
  unfold t__law_is_state_v2
  exact pss_cons (ps_if (pt_not (pt_truth (pe_callB (C8.call_isC T.isc_State) (by rfl) T.n_isinstance (by decide +kernel) (pa_cons (pv 0) (pa_cons (pe_glob rfl T.g_State rfl) (pa_nil)))) (by intro _; rfl))) (pss_one (ps_ret (pe_bl))) (pss_nil))
      (pss_cons (ps_set (i := 2) sc__law_is_state.nd rfl (by first | exact Or.inl rfl | exact Or.inr rfl) (pe_meth0A (E := (WE fun cls d _ H => E cls d H)) (pv 0) T.C_State F_State_lists (hr.mono (by decide)) (fun σ => passAt (takes_of rfl rfl rfl rfl) σ)))
      (pss_cons (ps_if (PW.pt (pw_or (pt_not (pt_truth (pe_callB call_isi (by rfl) T.n_isinstance (by decide +kernel) (pa_cons (pv 2) (pa_cons (pe_bltn (v := .ty "list") (by rfl) T.n_list (by decide +kernel) rfl) (pa_nil)))) (by intro _; rfl))) (pw_or1 (pt_cmpR (opA_ne hu64) (pe_callB callA_len (by rfl) T.n_len (by decide +kernel) (pa_cons (pv 2) (pa_nil))) (pe_int) (nomark _))))) (pss_one (ps_ret (pe_bl))) (pss_nil))
      (pss_cons (ps_for (passes_of rfl) rfl (pi_range1 (by rfl) T.n_range (pa_cons (pe_int) (pa_nil))) (pg_name (i := 3) sc__law_is_state.nd rfl (by first | exact Or.inl rfl | exact Or.inr rfl)) (pss_one (ps_if (PW.pt (pw_or (pt_not (pt_truth (pe_callB call_isi (by rfl) T.n_isinstance (by decide +kernel) (pa_cons (pe_ix ix_lt (pv 2) (pv 3) (fun _ _ => rfl)) (pa_cons (pe_bltn (v := .ty "list") (by rfl) T.n_list (by decide +kernel) rfl) (pa_nil)))) (by intro _; rfl))) (pw_or1 (pt_not (pt_truth (pe_fe (E := (WE fun cls d _ H => E cls d H)) F__law_is_row (hr.mono (by decide)) (by rfl) (fun σ => passAt (takes_of rfl rfl rfl rfl) σ) (pa_cons (pe_ix ix_lt (pv 2) (pv 3) (fun _ _ => rfl)) (pa_cons (pe_ix ix_lt (pv 1) (pv 3) (fun _ _ => rfl)) (pa_nil)))) (by intro _; rfl)))))) (pss_one (ps_ret (pe_bl))) (pss_nil))))
      (pss_one (ps_ret (pe_bl))))))
theorem ok__law_take (T : TX P K mg)
    (len : ∀ ds O k x, sp__law_take K ds O k x → ds.length = 2)
    (walk : ∀ W ds O k x, sp__law_take K ds O k x → (∀ p ∈ O, p.loc = false) → wpS K W (fun e _ O' => x e O') (t__law_take K W) (startD N__law_take.length ds) O { nx := fun _ O' => k .non O', rt := k }) : FE P w K mg base 1 "_law_take" ["_law_box_here", "_law_size"] [] (toSp K (sp__law_take K)) := by
  refine fe_of (ts := t__law_take K) T.F__law_take T.g__law_take sc__law_take len (fun fd F => binds0 F fun _ _ _ _ _ _ us hl => match us, hl with | [_, _], _ => rfl) (fun cdv A outer s H E hr => ?_) walk
  have hu := hu_of hr
  have hu64 : (A.deeper (envOfC "_law_take" (defScope s__law_take) s.heap.objs.size (He.ga K "_law_take") cdv)).units + 64 < cLine := by have := hr.un; omega
  have hu1 : (A.deeper (envOfC "_law_take" (defScope s__law_take) s.heap.objs.size (He.ga K "_law_take") cdv)).units < cLine := by have := hr.un; omega
  unfold t__law_take
  exact pss_cons (ps_set (i := 2) sc__law_take.nd rfl (by first | exact Or.inl rfl | exact Or.inr rfl) (pe_ix ix_lt (pv 0) (pe_int) (fun _ _ => rfl)))
      (pss_cons (ps_if (pt_cmpR opA_gt (pv 2) (pe_int) (nomark _)) (pss_cons (ps_asg (pe_op opA_div (pv 2) (pv 1)) (pg_sub (pv 0) (pe_int) set_list))
      (pss_one (ps_ret (pe_op opA_mod (pe_callTy callA_int (by rfl) T.n_int (by decide +kernel) (pa_cons (pv 2) (pa_nil))) (pv 1))))) (pss_nil))
      (pss_cons (ps_asg (pe_op opA_add (pe_ix ix_lt (pv 0) (pe_int) (fun _ _ => rfl)) (pe_int)) (pg_sub (pv 0) (pe_int) set_list))
      (pss_cons (ps_set (i := 3) sc__law_take.nd rfl (by first | exact Or.inl rfl | exact Or.inr rfl) (pe_ix ix_lt (pv 0) (pe_int) (fun _ _ => rfl)))
      (pss_cons (ps_set (i := 4) sc__law_take.nd rfl (by first | exact Or.inl rfl | exact Or.inr rfl) (pe_ix ix_lt (pv 0) (pe_int) (fun _ _ => rfl)))
      (pss_cons (ps_set (i := 5) sc__law_take.nd rfl (by first | exact Or.inl rfl | exact Or.inr rfl) (pe_int))
      (pss_cons (ps_if (pt_cmpR opA_le (pv 3) (pe_callB callA_len (by rfl) T.n_len (by decide +kernel) (pa_cons (pv 4) (pa_nil))) (nomark _)) (pss_cons (ps_set (i := 5) sc__law_take.nd rfl (by first | exact Or.inl rfl | exact Or.inr rfl) (pe_callB callA_abs (by rfl) T.n_abs (by decide +kernel) (pa_cons (pe_ix ix_lt (pv 4) (pe_op opA_sub (pv 3) (pe_int)) (fun _ _ => rfl)) (pa_nil))))
      (pss_one (ps_if (pt_cmpR opA_ge (pv 5) (pe_op opA_pow (pe_int) (pe_int)) (nomark _)) (pss_cons (ps_asg (pe_op opA_div (pv 5) (pv 1)) (pg_sub (pv 0) (pe_int) set_list))
      (pss_one (ps_ret (pe_op opA_mod (pe_callTy callA_int (by rfl) T.n_int (by decide +kernel) (pa_cons (pv 5) (pa_nil))) (pv 1))))) (pss_nil)))) (pss_one (ps_if (pt_truth (pv 4) (by intro _; rfl)) (pss_one (ps_set (i := 5) sc__law_take.nd rfl (by first | exact Or.inl rfl | exact Or.inr rfl) (pe_callB callA_abs (by rfl) T.n_abs (by decide +kernel) (pa_cons (pe_ix ix_lt (pv 4) (pe_op opA_mod (pv 3) (pe_callB callA_len (by rfl) T.n_len (by decide +kernel) (pa_cons (pv 4) (pa_nil)))) (fun _ _ => rfl)) (pa_nil))))) (pss_nil))))
      (pss_cons (ps_set (i := 6) sc__law_take.nd rfl (by first | exact Or.inl rfl | exact Or.inr rfl) (pe_op opA_mod (pe_callTy callA_int (by rfl) T.n_int (by decide +kernel) (pa_cons (pe_op opA_add (pe_op opA_mul (pe_op opA_add (pv 5) (pe_op opA_mul (pv 3) (pe_int))) (pe_int)) (pe_int)) (pa_nil))) (pe_int)))
      (pss_cons (ps_set (i := 6) sc__law_take.nd rfl (by first | exact Or.inl rfl | exact Or.inr rfl) (pe_op opA_mod (pe_callTy callA_int (by rfl) T.n_int (by decide +kernel) (pa_cons (pe_op opA_add (pe_op opA_mul (pv 6) (pe_op opA_add (pe_op opA_div (pv 6) (pe_int)) (pe_int))) (pv 3)) (pa_nil))) (pe_int)))
      (pss_one (ps_ret (pe_op opA_mod (pe_callTy callA_int (by rfl) T.n_int (by decide +kernel) (pa_cons (pe_op opA_div (pv 6) (pe_int)) (pa_nil))) (pv 1))))))))))))
theorem ok__law_lacking (T : TX P K mg) (F__law_take : FE P w K mg base 1 "_law_take" ["_law_box_here", "_law_size"] [] (toSp K (sp__law_take K)))
    (len : ∀ ds O k x, sp__law_lacking K ds O k x → ds.length = 2)
    (walk : ∀ W ds O k x, sp__law_lacking K ds O k x → (∀ p ∈ O, p.loc = false) → wpS K W (fun e _ O' => x e O') (t__law_lacking K W) (startD N__law_lacking.length ds) O { nx := fun _ O' => k .non O', rt := k }) : FE P w K mg base 2 "_law_lacking" ["_law_box_here", "_law_size"] [] (toSp K (sp__law_lacking K)) := by
  refine fe_of (ts := t__law_lacking K) T.F__law_lacking T.g__law_lacking sc__law_lacking len (fun fd F => binds0 F fun _ _ _ _ _ _ us hl => match us, hl with | [_, _], _ => rfl) (fun cdv A outer s H E hr => ?_) walk
  have hu := hu_of hr
  have hu64 : (A.deeper (envOfC "_law_lacking" (defScope s__law_lacking) s.heap.objs.size (He.ga K "_law_lacking") cdv)).units + 64 < cLine := by have := hr.un; omega
  have hu1 : (A.deeper (envOfC "_law_lacking" (defScope s__law_lacking) s.heap.objs.size (He.ga K "_law_lacking") cdv)).units < cLine := by have := hr.un; omega
  unfold t__law_lacking
  exact pss_cons (ps_set (i := 2) sc__law_lacking.nd rfl (by first | exact Or.inl rfl | exact Or.inr rfl) (pe_fe (E := (WE fun cls d _ H => E cls d H)) F__law_take (hr.mono (by decide)) (by rfl) (fun σ => passAt (takes_of rfl rfl rfl rfl) σ) (pa_cons (pv 0) (pa_cons (pe_int) (pa_nil)))))
      (pss_cons (ps_set (i := 3) sc__law_lacking.nd rfl (by first | exact Or.inl rfl | exact Or.inr rfl) (pe_fe (E := (WE fun cls d _ H => E cls d H)) F__law_take (hr.mono (by decide)) (by rfl) (fun σ => passAt (takes_of rfl rfl rfl rfl) σ) (pa_cons (pv 0) (pa_cons (pe_callB (callA_max2 rfl) (by rfl) T.n_max (by decide +kernel) (pa_cons (pe_int) (pa_cons (pe_op opA_sub (pv 1) (pe_int)) (pa_nil)))) (pa_nil)))))
      (pss_cons (ps_set (i := 4) sc__law_lacking.nd rfl (by first | exact Or.inl rfl | exact Or.inr rfl) (pe_op opA_add (pe_int) (pe_fe (E := (WE fun cls d _ H => E cls d H)) F__law_take (hr.mono (by decide)) (by rfl) (fun σ => passAt (takes_of rfl rfl rfl rfl) σ) (pa_cons (pv 0) (pa_cons (pe_int) (pa_nil))))))
      (pss_cons (ps_set (i := 5) sc__law_lacking.nd rfl (by first | exact Or.inl rfl | exact Or.inr rfl) (pe_op opA_sub (pe_un unA_neg (pe_int)) (pe_fe (E := (WE fun cls d _ H => E cls d H)) F__law_take (hr.mono (by decide)) (by rfl) (fun σ => passAt (takes_of rfl rfl rfl rfl) σ) (pa_cons (pv 0) (pa_cons (pe_int) (pa_nil))))))
      (pss_cons (ps_set (i := 6) sc__law_lacking.nd rfl (by first | exact Or.inl rfl | exact Or.inr rfl) (pe_lst (pa_cons (pe_tup (pa_cons (pv 4) (pa_cons (pv 3) (pa_nil)))) (pa_cons (pe_tup (pa_cons (pv 5) (pa_cons (pv 3) (pa_nil)))) (pa_cons (pe_tup (pa_cons (pv 2) (pa_cons (pe_op opA_sub (pv 1) (pe_int)) (pa_nil)))) (pa_cons (pe_tup (pa_cons (pv 2) (pa_cons (pe_op opA_add (pv 1) (pe_fe (E := (WE fun cls d _ H => E cls d H)) F__law_take (hr.mono (by decide)) (by rfl) (fun σ => passAt (takes_of rfl rfl rfl rfl) σ) (pa_cons (pv 0) (pa_cons (pe_int) (pa_nil))))) (pa_nil)))) (pa_nil)))))))
      (pss_one (ps_ret (pe_op opA_add (pv 6) (pe_lst (pa_cons (pe_tup (pa_cons (pv 2) (pa_cons (pe_op opA_sub (pe_un unA_neg (pe_int)) (pe_fe (E := (WE fun cls d _ H => E cls d H)) F__law_take (hr.mono (by decide)) (by rfl) (fun σ => passAt (takes_of rfl rfl rfl rfl) σ) (pa_cons (pv 0) (pa_cons (pe_int) (pa_nil))))) (pa_nil)))) (pa_cons (pe_tup (pa_cons (pv 5) (pa_cons (pv 4) (pa_nil)))) (pa_nil)))))))))))
theorem ok__law_swapped (T : TX P K mg)
    (len : ∀ ds O k x, sp__law_swapped_v2 K ds O k x → ds.length = 2)
    (walk : ∀ W ds O k x, sp__law_swapped_v2 K ds O k x → (∀ p ∈ O, p.loc = false) → wpS K W (fun e _ O' => x e O') (t__law_swapped_v2 K W) (startD N__law_swapped_v2.length ds) O { nx := fun _ O' => k .non O', rt := k }) : FE P w K mg base 1 "_law_swapped" ["_law_lists_here", "_law_swap"] [] (toSp K (sp__law_swapped_v2 K)) := by
  refine fe_of (ts := t__law_swapped_v2 K) T.F__law_swapped T.g__law_swapped sc__law_swapped len (fun fd F => binds0 F fun _ _ _ _ _ _ us hl => match us, hl with | [_, _], _ => rfl) (fun cdv A outer s H E hr => ?_) walk
  have hu := hu_of hr
  have hu64 : (A.deeper (envOfC "_law_swapped" (defScope s__law_swapped) s.heap.objs.size (He.ga K "_law_swapped") cdv)).units + 64 < cLine := by have := hr.un; omega
  have hu1 : (A.deeper (envOfC "_law_swapped" (defScope s__law_swapped) s.heap.objs.size (He.ga K "_law_swapped") cdv)).units < cLine := by have := hr.un; omega
  unfold t__law_swapped_v2
  exact pss_cons (ps_set (i := 2) sc__law_swapped.nd rfl (by first | exact Or.inl rfl | exact Or.inr rfl) (pe_ix ix_lt (pv 0) (pe_ix ix_lt (pv 1) (pe_int) (fun _ _ => rfl)) (fun _ _ => rfl)))
      (pss_cons (ps_set (i := 3) sc__law_swapped.nd rfl (by first | exact Or.inl rfl | exact Or.inr rfl) (pe_ix ix_lt (pv 1) (pe_int) (fun _ _ => rfl)))
      (pss_cons (ps_setLc (i := 4) (own := [("_law_row", 5)]) (g := gName 5) (tt := tYes) rfl sc__law_swapped.nd rfl rfl (sw_true rfl rfl rfl (by decide +kernel)) (pi_list (pv 0)) (blkOk_by (N := N__law_swapped) (sc := defScope s__law_swapped) (by decide +kernel)) (fun _ _ _ _ _ => pg_name (i := 5) sc__law_swapped.nd rfl (by first | exact Or.inl rfl | exact Or.inr rfl)) (fun _ _ _ _ _ => pts_nil) (fun _ _ _ _ _ => pe_callTy callA_list (by rfl) T.n_list (by decide +kernel) (pa_cons (pv 5) (pa_nil))))
      (pss_cons (ps_asg (pe_op opA_add (pe_op opA_add (pe_slice sl_list (pv 2) (po_none) (po_some (pv 3))) (pe_lst (pa_cons (pe_ix ix_lt (pv 2) (pe_op opA_add (pv 3) (pe_int)) (fun _ _ => rfl)) (pa_cons (pe_ix ix_lt (pv 2) (pv 3) (fun _ _ => rfl)) (pa_nil))))) (pe_slice sl_list (pv 2) (po_some (pe_op opA_add (pv 3) (pe_int))) (po_none))) (pg_sub (pv 4) (pe_ix ix_lt (pv 1) (pe_int) (fun _ _ => rfl)) set_list))
      (pss_one (ps_ret (pv 4))))))
theorem ok__law_after (T : TX P K mg) (F__law_swapped : FE P w K mg base 1 "_law_swapped" ["_law_lists_here", "_law_swap"] [] (toSp K (sp__law_swapped_v2 K)))
    (len : ∀ ds O k x, sp__law_after K ds O k x → ds.length = 2)
    (walk : ∀ W ds O k x, sp__law_after K ds O k x → (∀ p ∈ O, p.loc = false) → wpS K W (fun e _ O' => x e O') (t__law_after K W) (startD N__law_after.length ds) O { nx := fun _ O' => k .non O', rt := k }) : FE P w K mg base 2 "_law_after" ["_law_lists_here", "_law_swaps"] [] (toSp K (sp__law_after K)) := by
  refine fe_of (ts := t__law_after K) T.F__law_after T.g__law_after sc__law_after len (fun fd F => binds0 F fun _ _ _ _ _ _ us hl => match us, hl with | [_, _], _ => rfl) (fun cdv A outer s H E hr => ?_) walk
  have hu := hu_of hr
  have hu64 : (A.deeper (envOfC "_law_after" (defScope s__law_after) s.heap.objs.size (He.ga K "_law_after") cdv)).units + 64 < cLine := by have := hr.un; omega
  have hu1 : (A.deeper (envOfC "_law_after" (defScope s__law_after) s.heap.objs.size (He.ga K "_law_after") cdv)).units < cLine := by have := hr.un; omega
  unfold t__law_after
  exact pss_cons (ps_set (i := 2) sc__law_after.nd rfl (by first | exact Or.inl rfl | exact Or.inr rfl) (pv 0))
      (pss_cons (ps_for (passes_of rfl) rfl (pi_list (pv 1)) (pg_name (i := 3) sc__law_after.nd rfl (by first | exact Or.inl rfl | exact Or.inr rfl)) (pss_one (ps_set (i := 2) sc__law_after.nd rfl (by first | exact Or.inl rfl | exact Or.inr rfl) (pe_fe (E := (WE fun cls d _ H => E cls d H)) F__law_swapped (hr.mono (by decide)) (by rfl) (fun σ => passAt (takes_of rfl rfl rfl rfl) σ) (pa_cons (pv 2) (pa_cons (pv 3) (pa_nil)))))))
      (pss_one (ps_ret (pv 2))))
theorem ok__law_circle (T : TX P K mg) (F__law_take : FE P w K mg base 1 "_law_take" ["_law_box_here", "_law_size"] [] (toSp K (sp__law_take K)))
    (len : ∀ ds O k x, sp__law_circle K ds O k x → ds.length = 2)
    (walk : ∀ W ds O k x, sp__law_circle K ds O k x → (∀ p ∈ O, p.loc = false) → wpS K W (fun e _ O' => x e O') (t__law_circle K W) (startD N__law_circle.length ds) O { nx := fun _ O' => k .non O', rt := k }) : FE P w K mg base 2 "_law_circle" ["_law_box_here", "_law_keys_here"] [] (toSp K (sp__law_circle K)) := by
  refine fe_of (ts := t__law_circle K) T.F__law_circle T.g__law_circle sc__law_circle len (fun fd F => binds0 F fun _ _ _ _ _ _ us hl => match us, hl with | [_, _], _ => rfl) (fun cdv A outer s H E hr => ?_) walk
  have hu := hu_of hr
  have hu64 : (A.deeper (envOfC "_law_circle" (defScope s__law_circle) s.heap.objs.size (He.ga K "_law_circle") cdv)).units + 64 < cLine := by have := hr.un; omega
  have hu1 : (A.deeper (envOfC "_law_circle" (defScope s__law_circle) s.heap.objs.size (He.ga K "_law_circle") cdv)).units < cLine := by have := hr.un; omega
  unfold t__law_circle
  exact pss_cons (ps_set (i := 2) sc__law_circle.nd rfl (by first | exact Or.inl rfl | exact Or.inr rfl) (pe_lst (pa_cons (pe_slice sl_list (pv 1) (po_none) (po_some (pe_int))) (pa_cons (pe_lst (pa_cons (pe_ix ix_lt (pv 1) (pe_int) (fun _ _ => rfl)) (pa_cons (pe_ix ix_lt (pv 1) (pe_int) (fun _ _ => rfl)) (pa_cons (pe_ix ix_lt (pv 1) (pe_int) (fun _ _ => rfl)) (pa_nil))))) (pa_cons (pe_lst (pa_cons (pe_ix ix_lt (pv 1) (pe_int) (fun _ _ => rfl)) (pa_cons (pe_ix ix_lt (pv 1) (pe_int) (fun _ _ => rfl)) (pa_cons (pe_ix ix_lt (pv 1) (pe_int) (fun _ _ => rfl)) (pa_nil))))) (pa_nil))))))
      (pss_cons (ps_for (passes_of rfl) rfl (pi_list (pe_slice sl_list (pv 1) (po_some (pe_int)) (po_none))) (pg_name (i := 3) sc__law_circle.nd rfl (by first | exact Or.inl rfl | exact Or.inr rfl)) (pss_cons (ps_set (i := 4) sc__law_circle.nd rfl (by first | exact Or.inl rfl | exact Or.inr rfl) (pe_fe (E := (WE fun cls d _ H => E cls d H)) F__law_take (hr.mono (by decide)) (by rfl) (fun σ => passAt (takes_of rfl rfl rfl rfl) σ) (pa_cons (pv 0) (pa_cons (pe_op opA_add (pe_callB callA_len (by rfl) T.n_len (by decide +kernel) (pa_cons (pe_ix ix_lt (pv 2) (pe_int) (fun _ _ => rfl)) (pa_nil))) (pe_int)) (pa_nil)))))
      (pss_one (ps_setLc (i := 2) (own := [("_law_order_here", 5)]) (g := gName 5) (tt := tYes) rfl sc__law_circle.nd rfl rfl (sw_true rfl rfl rfl (by decide +kernel)) (pi_list (pv 2)) (blkOk_by (N := N__law_circle) (sc := defScope s__law_circle) (by decide +kernel)) (fun _ _ _ _ _ => pg_name (i := 5) sc__law_circle.nd rfl (by first | exact Or.inl rfl | exact Or.inr rfl)) (fun _ _ _ _ _ => pts_nil) (fun _ _ _ _ _ => pe_op opA_add (pe_op opA_add (pe_slice sl_list (pv 5) (po_none) (po_some (pv 4))) (pe_lst (pa_cons (pv 3) (pa_nil)))) (pe_slice sl_list (pv 5) (po_some (pv 4)) (po_none)))))))
      (pss_one (ps_ret (pv 2))))
theorem ok__law_order (T : TX P K mg) (F__law_take : FE P w K mg base 1 "_law_take" ["_law_box_here", "_law_size"] [] (toSp K (sp__law_take K)))
    (len : ∀ ds O k x, sp__law_order K ds O k x → ds.length = 2)
    (walk : ∀ W ds O k x, sp__law_order K ds O k x → (∀ p ∈ O, p.loc = false) → wpS K W (fun e _ O' => x e O') (t__law_order K W) (startD N__law_order.length ds) O { nx := fun _ O' => k .non O', rt := k }) : FE P w K mg base 2 "_law_order" ["_law_box_here", "_law_keys_here"] [] (toSp K (sp__law_order K)) := by
  refine fe_of (ts := t__law_order K) T.F__law_order T.g__law_order sc__law_order len (fun fd F => binds0 F fun _ _ _ _ _ _ us hl => match us, hl with | [_, _], _ => rfl) (fun cdv A outer s H E hr => ?_) walk
  have hu := hu_of hr
  have hu64 : (A.deeper (envOfC "_law_order" (defScope s__law_order) s.heap.objs.size (He.ga K "_law_order") cdv)).units + 64 < cLine := by have := hr.un; omega
  have hu1 : (A.deeper (envOfC "_law_order" (defScope s__law_order) s.heap.objs.size (He.ga K "_law_order") cdv)).units < cLine := by have := hr.un; omega
  unfold t__law_order
  exact pss_cons (ps_set (i := 2) sc__law_order.nd rfl (by first | exact Or.inl rfl | exact Or.inr rfl) (pe_callTy callA_list (by rfl) T.n_list (by decide +kernel) (pa_cons (pv 1) (pa_nil))))
      (pss_cons (ps_set (i := 3) sc__law_order.nd rfl (by first | exact Or.inl rfl | exact Or.inr rfl) (pe_lst (pa_nil)))
      (pss_cons (ps_for (passes_of rfl) rfl (pi_range1 (by rfl) T.n_range (pa_cons (pe_callB callA_len (by rfl) T.n_len (by decide +kernel) (pa_cons (pv 1) (pa_nil))) (pa_nil))) (pg_name (i := 4) sc__law_order.nd rfl (by first | exact Or.inl rfl | exact Or.inr rfl)) (pss_one (ps_expr (pe_bm PySem.F.plainAttrs_list PySem.F.slot_list_append PySem.F.type_list_append mt_append (pv 3) (pa_cons (pe_bm PySem.F.plainAttrs_list PySem.F.slot_list_pop PySem.F.type_list_pop mt_popAt (pv 2) (pa_cons (pe_fe (E := (WE fun cls d _ H => E cls d H)) F__law_take (hr.mono (by decide)) (by rfl) (fun σ => passAt (takes_of rfl rfl rfl rfl) σ) (pa_cons (pv 0) (pa_cons (pe_callB callA_len (by rfl) T.n_len (by decide +kernel) (pa_cons (pv 2) (pa_nil))) (pa_nil)))) (pa_nil))) (pa_nil))))))
      (pss_one (ps_ret (pv 3)))))
theorem ok__law_keys (T : TX P K mg) (F__law_order : FE P w K mg base 2 "_law_order" ["_law_box_here", "_law_keys_here"] [] (toSp K (sp__law_order K))) (F__law_take : FE P w K mg base 1 "_law_take" ["_law_box_here", "_law_size"] [] (toSp K (sp__law_take K)))
    (len : ∀ ds O k x, sp__law_keys K ds O k x → ds.length = 2)
    (walk : ∀ W ds O k x, sp__law_keys K ds O k x → (∀ p ∈ O, p.loc = false) → wpS K W (fun e _ O' => x e O') (t__law_keys K W) (startD N__law_keys.length ds) O { nx := fun _ O' => k .non O', rt := k }) : FE P w K mg base 3 "_law_keys" ["_law_box_here", "_law_count"] [] (toSp K (sp__law_keys K)) := by
  refine fe_of (ts := t__law_keys K) T.F__law_keys T.g__law_keys sc__law_keys len (fun fd F => binds0 F fun _ _ _ _ _ _ us hl => match us, hl with | [_, _], _ => rfl) (fun cdv A outer s H E hr => ?_) walk
  have hu := hu_of hr
  have hu64 : (A.deeper (envOfC "_law_keys" (defScope s__law_keys) s.heap.objs.size (He.ga K "_law_keys") cdv)).units + 64 < cLine := by have := hr.un; omega
  have hu1 : (A.deeper (envOfC "_law_keys" (defScope s__law_keys) s.heap.objs.size (He.ga K "_law_keys") cdv)).units < cLine := by have := hr.un; omega
  unfold t__law_keys
  exact pss_cons (ps_set (i := 2) sc__law_keys.nd rfl (by first | exact Or.inl rfl | exact Or.inr rfl) (pe_lst (pa_nil)))
      (pss_cons (ps_set (i := 3) sc__law_keys.nd rfl (by first | exact Or.inl rfl | exact Or.inr rfl) (pe_fe (E := (WE fun cls d _ H => E cls d H)) F__law_take (hr.mono (by decide)) (by rfl) (fun σ => passAt (takes_of rfl rfl rfl rfl) σ) (pa_cons (pv 0) (pa_cons (pe_int) (pa_nil)))))
      (pss_cons (ps_for (passes_of rfl) rfl (pi_range1 (by rfl) T.n_range (pa_cons (pv 1) (pa_nil))) (pg_name (i := 4) sc__law_keys.nd rfl (by first | exact Or.inl rfl | exact Or.inr rfl)) (pss_cons (ps_expr (pe_bm PySem.F.plainAttrs_list PySem.F.slot_list_append PySem.F.type_list_append mt_append (pv 2) (pa_cons (pv 3) (pa_nil))))
      (pss_one (ps_set (i := 3) sc__law_keys.nd rfl (by first | exact Or.inl rfl | exact Or.inr rfl) (pe_op opA_add (pe_op opA_add (pv 3) (pe_int)) (pe_op opA_mul (pe_fe (E := (WE fun cls d _ H => E cls d H)) F__law_take (hr.mono (by decide)) (by rfl) (fun σ => passAt (takes_of rfl rfl rfl rfl) σ) (pa_cons (pv 0) (pa_cons (pe_int) (pa_nil)))) (pe_fe (E := (WE fun cls d _ H => E cls d H)) F__law_take (hr.mono (by decide)) (by rfl) (fun σ => passAt (takes_of rfl rfl rfl rfl) σ) (pa_cons (pv 0) (pa_cons (pe_int) (pa_nil))))))))))
      (pss_one (ps_ret (pe_fe (E := (WE fun cls d _ H => E cls d H)) F__law_order (hr.mono (by decide)) (by rfl) (fun σ => passAt (takes_of rfl rfl rfl rfl) σ) (pa_cons (pv 0) (pa_cons (pv 2) (pa_nil))))))))
theorem ok__law_quiet (T : TX P K mg)
    (len : ∀ ds O k x, sp__law_quiet K ds O k x → ds.length = 2)
    (walk : ∀ W ds O k x, sp__law_quiet K ds O k x → (∀ p ∈ O, p.loc = false) → wpS K W (fun e _ O' => x e O') (t__law_quiet K W) (startD N__law_quiet.length ds) O { nx := fun _ O' => k .non O', rt := k }) : FE P w K mg base 1 "_law_quiet" ["_law_lists_here", "_law_swap"] [] (toSp K (sp__law_quiet K)) := by
  refine fe_of (ts := t__law_quiet K) T.F__law_quiet T.g__law_quiet sc__law_quiet len (fun fd F => binds0 F fun _ _ _ _ _ _ us hl => match us, hl with | [_, _], _ => rfl) (fun cdv A outer s H E hr => ?_) walk
  have hu := hu_of hr
  have hu64 : (A.deeper (envOfC "_law_quiet" (defScope s__law_quiet) s.heap.objs.size (He.ga K "_law_quiet") cdv)).units + 64 < cLine := by have := hr.un; omega
  have hu1 : (A.deeper (envOfC "_law_quiet" (defScope s__law_quiet) s.heap.objs.size (He.ga K "_law_quiet") cdv)).units < cLine := by have := hr.un; omega
  unfold t__law_quiet
  exact pss_cons (ps_set (i := 2) sc__law_quiet.nd rfl (by first | exact Or.inl rfl | exact Or.inr rfl) (pe_ix ix_lt (pe_ix ix_lt (pv 0) (pe_ix ix_lt (pv 1) (pe_int) (fun _ _ => rfl)) (fun _ _ => rfl)) (pe_ix ix_lt (pv 1) (pe_int) (fun _ _ => rfl)) (fun _ _ => rfl)))
      (pss_cons (ps_set (i := 3) sc__law_quiet.nd rfl (by first | exact Or.inl rfl | exact Or.inr rfl) (pe_ix ix_lt (pe_ix ix_lt (pv 0) (pe_ix ix_lt (pv 1) (pe_int) (fun _ _ => rfl)) (fun _ _ => rfl)) (pe_op opA_add (pe_ix ix_lt (pv 1) (pe_int) (fun _ _ => rfl)) (pe_int)) (fun _ _ => rfl)))
      (pss_cons (ps_set (i := 4) sc__law_quiet.nd rfl (by first | exact Or.inl rfl | exact Or.inr rfl) (pe_ix ix_lt (pv 0) (pe_op opA_mod (pe_callTy callA_int (by rfl) T.n_int (by decide +kernel) (pa_cons (pe_op opA_add (pe_ix ix_lt (pv 1) (pe_int) (fun _ _ => rfl)) (pe_int)) (pa_nil))) (pe_int)) (fun _ _ => rfl)))
      (pss_cons (ps_set (i := 5) sc__law_quiet.nd rfl (by first | exact Or.inl rfl | exact Or.inr rfl) (pe_ix ix_lt (pv 0) (pe_op opA_mod (pe_callTy callA_int (by rfl) T.n_int (by decide +kernel) (pa_cons (pe_op opA_add (pe_ix ix_lt (pv 1) (pe_int) (fun _ _ => rfl)) (pe_int)) (pa_nil))) (pe_int)) (fun _ _ => rfl)))
      (pss_one (ps_ret (pe_cmpR (opA_eq hu64) (pe_cmpR opA_lt (pe_bm PySem.F.plainAttrs_list PySem.F.slot_list_index PySem.F.type_list_index mt_index (pv 4) (pa_cons (pv 2) (pa_nil))) (pe_bm PySem.F.plainAttrs_list PySem.F.slot_list_index PySem.F.type_list_index mt_index (pv 4) (pa_cons (pv 3) (pa_nil))) (nomark _)) (pe_cmpR opA_lt (pe_bm PySem.F.plainAttrs_list PySem.F.slot_list_index PySem.F.type_list_index mt_index (pv 5) (pa_cons (pv 2) (pa_nil))) (pe_bm PySem.F.plainAttrs_list PySem.F.slot_list_index PySem.F.type_list_index mt_index (pv 5) (pa_cons (pv 3) (pa_nil))) (nomark _)) (nomark _)))))))
theorem ok__law_silent (T : TX P K mg) (F__law_quiet : FE P w K mg base 1 "_law_quiet" ["_law_lists_here", "_law_swap"] [] (toSp K (sp__law_quiet K)))
    (len : ∀ ds O k x, sp__law_silent_v2 K ds O k x → ds.length = 1)
    (walk : ∀ W ds O k x, sp__law_silent_v2 K ds O k x → (∀ p ∈ O, p.loc = false) → wpS K W (fun e _ O' => x e O') (t__law_silent_v2 K W) (startD N__law_silent_v2.length ds) O { nx := fun _ O' => k .non O', rt := k }) : FE P w K mg base 2 "_law_silent" ["_law_lists_here"] [] (toSp K (sp__law_silent_v2 K)) := by
  refine fe_of (ts := t__law_silent_v2 K) T.F__law_silent T.g__law_silent sc__law_silent len (fun fd F => binds0 F fun _ _ _ _ _ _ us hl => match us, hl with | [_], _ => rfl) (fun cdv A outer s H E hr => ?_) walk
  have hu := hu_of hr
  have hu64 : (A.deeper (envOfC "_law_silent" (defScope s__law_silent) s.heap.objs.size (He.ga K "_law_silent") cdv)).units + 64 < cLine := by have := hr.un; omega
  have hu1 : (A.deeper (envOfC "_law_silent" (defScope s__law_silent) s.heap.objs.size (He.ga K "_law_silent") cdv)).units < cLine := by have := hr.un; omega
  unfold t__law_silent_v2
  exact pss_cons (ps_set (i := 1) sc__law_silent.nd rfl (by first | exact Or.inl rfl | exact Or.inr rfl) (pe_lst (pa_nil)))
      (pss_cons (ps_for (passes_of rfl) rfl (pi_range1 (by rfl) T.n_range (pa_cons (pe_int) (pa_nil))) (pg_name (i := 2) sc__law_silent.nd rfl (by first | exact Or.inl rfl | exact Or.inr rfl)) (pss_one (ps_for (passes_of rfl) rfl (pi_range1 (by rfl) T.n_range (pa_cons (pe_op opA_sub (pe_callB callA_len (by rfl) T.n_len (by decide +kernel) (pa_cons (pe_ix ix_lt (pv 0) (pe_int) (fun _ _ => rfl)) (pa_nil))) (pe_int)) (pa_nil))) (pg_name (i := 3) sc__law_silent.nd rfl (by first | exact Or.inl rfl | exact Or.inr rfl)) (pss_one (ps_if (pt_truth (pe_fe (E := (WE fun cls d _ H => E cls d H)) F__law_quiet (hr.mono (by decide)) (by rfl) (fun σ => passAt (takes_of rfl rfl rfl rfl) σ) (pa_cons (pv 0) (pa_cons (pe_tup (pa_cons (pv 2) (pa_cons (pv 3) (pa_nil)))) (pa_nil)))) (by intro _; rfl)) (pss_one (ps_expr (pe_bm PySem.F.plainAttrs_list PySem.F.slot_list_append PySem.F.type_list_append mt_append (pv 1) (pa_cons (pe_tup (pa_cons (pv 2) (pa_cons (pv 3) (pa_nil)))) (pa_nil))))) (pss_nil))))))
      (pss_one (ps_ret (pv 1))))
theorem ok__law_walk (T : TX P K mg) (F__law_silent : FE P w K mg base 2 "_law_silent" ["_law_lists_here"] [] (toSp K (sp__law_silent_v2 K))) (F__law_swapped : FE P w K mg base 1 "_law_swapped" ["_law_lists_here", "_law_swap"] [] (toSp K (sp__law_swapped_v2 K))) (F__law_take : FE P w K mg base 1 "_law_take" ["_law_box_here", "_law_size"] [] (toSp K (sp__law_take K)))
    (len : ∀ ds O k x, sp__law_walk_v2 K ds O k x → ds.length = 3)
    (walk : ∀ W ds O k x, sp__law_walk_v2 K ds O k x → (∀ p ∈ O, p.loc = false) → wpS K W (fun e _ O' => x e O') (t__law_walk_v2 K W) (startD N__law_walk_v2.length ds) O { nx := fun _ O' => k .non O', rt := k }) : FE P w K mg base 3 "_law_walk" ["_law_box_here", "_law_lists_here", "_law_steps"] [] (toSp K (sp__law_walk_v2 K)) := by
  refine fe_of (ts := t__law_walk_v2 K) T.F__law_walk T.g__law_walk sc__law_walk len (fun fd F => binds0 F fun _ _ _ _ _ _ us hl => match us, hl with | [_, _, _], _ => rfl) (fun cdv A outer s H E hr => ?_) walk
  have hu := hu_of hr
  have hu64 : (A.deeper (envOfC "_law_walk" (defScope s__law_walk) s.heap.objs.size (He.ga K "_law_walk") cdv)).units + 64 < cLine := by have := hr.un; omega
  have hu1 : (A.deeper (envOfC "_law_walk" (defScope s__law_walk) s.heap.objs.size (He.ga K "_law_walk") cdv)).units < cLine := by have := hr.un; omega
  unfold t__law_walk_v2
  exact pss_cons (ps_set (i := 3) sc__law_walk.nd rfl (by first | exact Or.inl rfl | exact Or.inr rfl) (pe_lst (pa_nil)))
      (pss_cons (ps_set (i := 4) sc__law_walk.nd rfl (by first | exact Or.inl rfl | exact Or.inr rfl) (pv 1))
      (pss_cons (ps_for (passes_of rfl) rfl (pi_range1 (by rfl) T.n_range (pa_cons (pv 2) (pa_nil))) (pg_name (i := 5) sc__law_walk.nd rfl (by first | exact Or.inl rfl | exact Or.inr rfl)) (pss_cons (ps_set (i := 6) sc__law_walk.nd rfl (by first | exact Or.inl rfl | exact Or.inr rfl) (pe_fe (E := (WE fun cls d _ H => E cls d H)) F__law_silent (hr.mono (by decide)) (by rfl) (fun σ => passAt (takes_of rfl rfl rfl rfl) σ) (pa_cons (pv 4) (pa_nil))))
      (pss_one (ps_if (pt_truth (pv 6) (by intro _; rfl)) (pss_cons (ps_expr (pe_bm PySem.F.plainAttrs_list PySem.F.slot_list_append PySem.F.type_list_append mt_append (pv 3) (pa_cons (pe_ix ix_lt (pv 6) (pe_fe (E := (WE fun cls d _ H => E cls d H)) F__law_take (hr.mono (by decide)) (by rfl) (fun σ => passAt (takes_of rfl rfl rfl rfl) σ) (pa_cons (pv 0) (pa_cons (pe_callB callA_len (by rfl) T.n_len (by decide +kernel) (pa_cons (pv 6) (pa_nil))) (pa_nil)))) (fun _ _ => rfl)) (pa_nil))))
      (pss_one (ps_set (i := 4) sc__law_walk.nd rfl (by first | exact Or.inl rfl | exact Or.inr rfl) (pe_fe (E := (WE fun cls d _ H => E cls d H)) F__law_swapped (hr.mono (by decide)) (by rfl) (fun σ => passAt (takes_of rfl rfl rfl rfl) σ) (pa_cons (pv 4) (pa_cons (pe_ix ix_lt (pv 3) (pe_un unA_neg (pe_int)) (fun _ _ => rfl)) (pa_nil))))))) (pss_nil)))))
      (pss_one (ps_ret (pv 3)))))
theorem ok__law_lists (T : TX P K mg) (F__law_after : FE P w K mg base 2 "_law_after" ["_law_lists_here", "_law_swaps"] [] (toSp K (sp__law_after K))) (F__law_circle : FE P w K mg base 2 "_law_circle" ["_law_box_here", "_law_keys_here"] [] (toSp K (sp__law_circle K))) (F__law_keys : FE P w K mg base 3 "_law_keys" ["_law_box_here", "_law_count"] [] (toSp K (sp__law_keys K))) (F__law_order : FE P w K mg base 2 "_law_order" ["_law_box_here", "_law_keys_here"] [] (toSp K (sp__law_order K))) (F__law_take : FE P w K mg base 1 "_law_take" ["_law_box_here", "_law_size"] [] (toSp K (sp__law_take K))) (F__law_walk : FE P w K mg base 3 "_law_walk" ["_law_box_here", "_law_lists_here", "_law_steps"] [] (toSp K (sp__law_walk_v2 K)))
    (len : ∀ ds O k x, sp__law_lists K ds O k x → ds.length = 1)
    (walk : ∀ W ds O k x, sp__law_lists K ds O k x → (∀ p ∈ O, p.loc = false) → wpS K W (fun e _ O' => x e O') (t__law_lists K W) (startD N__law_lists.length ds) O { nx := fun _ O' => k .non O', rt := k }) : FE P w K mg base 4 "_law_lists" ["_law_box_here"] [] (toSp K (sp__law_lists K)) := by
  refine fe_of (ts := t__law_lists K) T.F__law_lists T.g__law_lists sc__law_lists len (fun fd F => binds0 F fun _ _ _ _ _ _ us hl => match us, hl with | [_], _ => rfl) (fun cdv A outer s H E hr => ?_) walk
  have hu := hu_of hr
  have hu64 : (A.deeper (envOfC "_law_lists" (defScope s__law_lists) s.heap.objs.size (He.ga K "_law_lists") cdv)).units + 64 < cLine := by have := hr.un; omega
  have hu1 : (A.deeper (envOfC "_law_lists" (defScope s__law_lists) s.heap.objs.size (He.ga K "_law_lists") cdv)).units < cLine := by have := hr.un; omega
  unfold t__law_lists
  exact pss_cons (ps_set (i := 1) sc__law_lists.nd rfl (by first | exact Or.inl rfl | exact Or.inr rfl) (pe_ix ix_lt (pe_lst (pa_cons (pe_int) (pa_cons (pe_int) (pa_cons (pe_int) (pa_cons (pe_int) (pa_cons (pe_int) (pa_cons (pe_int) (pa_cons (pe_int) (pa_cons (pe_int) (pa_cons (pe_int) (pa_cons (pe_int) (pa_cons (pe_int) (pa_cons (pe_int) (pa_cons (pe_int) (pa_cons (pe_int) (pa_cons (pe_int) (pa_cons (pe_int) (pa_nil)))))))))))))))))) (pe_fe (E := (WE fun cls d _ H => E cls d H)) F__law_take (hr.mono (by decide)) (by rfl) (fun σ => passAt (takes_of rfl rfl rfl rfl) σ) (pa_cons (pv 0) (pa_cons (pe_int) (pa_nil)))) (fun _ _ => rfl)))
      (pss_cons (ps_if (pt_cmpR (opA_eq hu64) (pv 1) (pe_int) (nomark _)) (pss_one (ps_set (i := 1) sc__law_lists.nd rfl (by first | exact Or.inl rfl | exact Or.inr rfl) (pe_op opA_add (pe_int) (pe_fe (E := (WE fun cls d _ H => E cls d H)) F__law_take (hr.mono (by decide)) (by rfl) (fun σ => passAt (takes_of rfl rfl rfl rfl) σ) (pa_cons (pv 0) (pa_cons (pe_int) (pa_nil))))))) (pss_nil))
      (pss_cons (ps_set (i := 2) sc__law_lists.nd rfl (by first | exact Or.inl rfl | exact Or.inr rfl) (pe_fe (E := (WE fun cls d _ H => E cls d H)) F__law_keys (hr.mono (by decide)) (by rfl) (fun σ => passAt (takes_of rfl rfl rfl rfl) σ) (pa_cons (pv 0) (pa_cons (pv 1) (pa_nil)))))
      (pss_cons (ps_set (i := 3) sc__law_lists.nd rfl (by first | exact Or.inl rfl | exact Or.inr rfl) (pe_fe (E := (WE fun cls d _ H => E cls d H)) F__law_take (hr.mono (by decide)) (by rfl) (fun σ => passAt (takes_of rfl rfl rfl rfl) σ) (pa_cons (pv 0) (pa_cons (pe_int) (pa_nil)))))
      (pss_cons (ps_if (pt_cmpR (opA_eq hu64) (pv 3) (pe_int) (nomark _)) (pss_one (ps_ret (pe_lst (pa_cons (pv 2) (pa_cons (pe_fe (E := (WE fun cls d _ H => E cls d H)) F__law_order (hr.mono (by decide)) (by rfl) (fun σ => passAt (takes_of rfl rfl rfl rfl) σ) (pa_cons (pv 0) (pa_cons (pv 2) (pa_nil)))) (pa_cons (pe_fe (E := (WE fun cls d _ H => E cls d H)) F__law_order (hr.mono (by decide)) (by rfl) (fun σ => passAt (takes_of rfl rfl rfl rfl) σ) (pa_cons (pv 0) (pa_cons (pv 2) (pa_nil)))) (pa_nil))))))) (pss_nil))
      (pss_cons (ps_set (i := 4) sc__law_lists.nd rfl (by first | exact Or.inl rfl | exact Or.inr rfl) (pe_lst (pa_cons (pe_callTy callA_list (by rfl) T.n_list (by decide +kernel) (pa_cons (pv 2) (pa_nil))) (pa_cons (pe_callTy callA_list (by rfl) T.n_list (by decide +kernel) (pa_cons (pv 2) (pa_nil))) (pa_cons (pe_callTy callA_list (by rfl) T.n_list (by decide +kernel) (pa_cons (pv 2) (pa_nil))) (pa_nil))))))
      (pss_cons (ps_if (PW.pt (pw_and (pt_cmpR (opA_eq hu64) (pv 3) (pe_int) (nomark _)) (pw_and1 (pt_cmpR opA_gt (pv 1) (pe_int) (nomark _))))) (pss_one (ps_set (i := 4) sc__law_lists.nd rfl (by first | exact Or.inl rfl | exact Or.inr rfl) (pe_fe (E := (WE fun cls d _ H => E cls d H)) F__law_circle (hr.mono (by decide)) (by rfl) (fun σ => passAt (takes_of rfl rfl rfl rfl) σ) (pa_cons (pv 0) (pa_cons (pv 2) (pa_nil)))))) (pss_nil))
      (pss_cons (ps_set (i := 5) sc__law_lists.nd rfl (by first | exact Or.inl rfl | exact Or.inr rfl) (pe_ix ix_lt (pe_lst (pa_cons (pe_int) (pa_cons (pe_int) (pa_cons (pe_int) (pa_cons (pe_int) (pa_cons (pe_int) (pa_cons (pe_int) (pa_cons (pe_int) (pa_cons (pe_int) (pa_cons (pe_int) (pa_cons (pe_int) (pa_cons (pe_int) (pa_cons (pe_int) (pa_nil)))))))))))))) (pe_fe (E := (WE fun cls d _ H => E cls d H)) F__law_take (hr.mono (by decide)) (by rfl) (fun σ => passAt (takes_of rfl rfl rfl rfl) σ) (pa_cons (pv 0) (pa_cons (pe_int) (pa_nil)))) (fun _ _ => rfl)))
      (pss_one (ps_ret (pe_fe (E := (WE fun cls d _ H => E cls d H)) F__law_after (hr.mono (by decide)) (by rfl) (fun σ => passAt (takes_of rfl rfl rfl rfl) σ) (pa_cons (pv 4) (pa_cons (pe_fe (E := (WE fun cls d _ H => E cls d H)) F__law_walk (hr.mono (by decide)) (by rfl) (fun σ => passAt (takes_of rfl rfl rfl rfl) σ) (pa_cons (pv 0) (pa_cons (pv 4) (pa_cons (pv 5) (pa_nil))))) (pa_nil)))))))))))))
theorem ok__law_refused (T : TX P K mg) (F__law_is_number : FE P w K mg base 1 "_law_is_number" ["_law_actual", "_law_due"] [] (toSp K (sp__law_is_number_v2 K)))
    (len : ∀ ds O k x, sp__law_refused_v4 K ds O k x → ds.length = 2)
    (walk : ∀ W ds O k x, sp__law_refused_v4 K ds O k x → (∀ p ∈ O, p.loc = false) → wpS K W (fun e _ O' => x e O') (t__law_refused_v4 K W) (startD N__law_refused_v4.length ds) O { nx := fun _ O' => k .non O', rt := k }) : FE P w K mg base 2 "_law_refused" ["_law_answer", "_law_word"] [] (toSp K (sp__law_refused_v4 K)) := by
  refine fe_of (ts := t__law_refused_v4 K) T.F__law_refused T.g__law_refused sc__law_refused len (fun fd F => binds0 F fun _ _ _ _ _ _ us hl => match us, hl with | [_, _], _ => rfl) (fun cdv A outer s H E hr => ?_) walk
  have hu := hu_of hr
  have hu64 : (A.deeper (envOfC "_law_refused" (defScope s__law_refused) s.heap.objs.size (He.ga K "_law_refused") cdv)).units + 64 < cLine := by have := hr.un; omega
  have hu1 : (A.deeper (envOfC "_law_refused" (defScope s__law_refused) s.heap.objs.size (He.ga K "_law_refused") cdv)).units < cLine := by have := hr.un; omega
  unfold t__law_refused_v4
  exact pss_one (ps_ret (pe_and (pe_cmpR (opA_eq hu64) (pe_ix ix_lt (pv 0) (pe_int) (fun _ _ => rfl)) (pv 1) (nomark _)) (pe_and (pe_ix ix_lt (pv 0) (pe_int) (fun _ _ => rfl)) (pe_one (pe_fe (E := (WE fun cls d _ H => E cls d H)) F__law_is_number (hr.mono (by decide)) (by rfl) (fun σ => passAt (takes_of rfl rfl rfl rfl) σ) (pa_cons (pe_ix ix_lt (pv 0) (pe_int) (fun _ _ => rfl)) (pa_cons (pe_int) (pa_nil))))))))
theorem ok_check_replica (T : TX P K mg)
    (len : ∀ ds O k x, sp_check_replica K ds O k x → ds.length = 1)
    (walk : ∀ W ds O k x, sp_check_replica K ds O k x → (∀ p ∈ O, p.loc = false) → wpS K W (fun e _ O' => x e O') (t_check_replica K W) (startD N_check_replica.length ds) O { nx := fun _ O' => k .non O', rt := k }) : FE P w K mg base 2 "check_replica" ["replica"] [] (toSp K (sp_check_replica K)) := by
  refine fe_of (ts := t_check_replica K) T.F_check_replica T.g_check_replica sc_check_replica len (fun fd F => binds0 F fun _ _ _ _ _ _ us hl => match us, hl with | [_], _ => rfl) (fun cdv A outer s H E hr => ?_) walk
  have hu := hu_of hr
  have hu64 : (A.deeper (envOfC "check_replica" (defScope s_check_replica) s.heap.objs.size (He.ga K "check_replica") cdv)).units + 64 < cLine := by have := hr.un; omega
  have hu1 : (A.deeper (envOfC "check_replica" (defScope s_check_replica) s.heap.objs.size (He.ga K "check_replica") cdv)).units < cLine := by have := hr.un; omega
  unfold t_check_replica
  exact pss_one (ps_if (pt_cmpR op_notIn_seq (pv 0) (pe_tup (pa_cons (pe_int) (pa_cons (pe_int) (pa_cons (pe_int) (pa_nil))))) (by rfl)) (pss_one (ps_raiseX (okV := fmtI) (W := fun cls d _ H => E cls d H) rfl (takes_of rfl rfl rfl rfl) T.tx_UnknownReplica T.g_UnknownReplica T.x_UnknownReplica.kp T.x_UnknownReplica.sb T.x_UnknownReplica.ty T.n_super (fun v u h r => L2.msg_2 (a := "there is no replica ") rfl (by decide) v u h r) hr (pa_cons (pv 0) (pa_nil)) rfl)) (pss_nil))
theorem ok_require_key (T : TX P K mg)
    (len : ∀ ds O k x, sp_require_key K ds O k x → ds.length = 2)
    (walk : ∀ W ds O k x, sp_require_key K ds O k x → (∀ p ∈ O, p.loc = false) → wpS K W (fun e _ O' => x e O') (t_require_key K W) (startD N_require_key.length ds) O { nx := fun _ O' => k .non O', rt := k }) : FE P w K mg base 2 "require_key" ["keys", "key"] [] (toSp K (sp_require_key K)) := by
  refine fe_of (ts := t_require_key K) T.F_require_key T.g_require_key sc_require_key len (fun fd F => binds0 F fun _ _ _ _ _ _ us hl => match us, hl with | [_, _], _ => rfl) (fun cdv A outer s H E hr => ?_) walk
  have hu := hu_of hr
  have hu64 : (A.deeper (envOfC "require_key" (defScope s_require_key) s.heap.objs.size (He.ga K "require_key") cdv)).units + 64 < cLine := by have := hr.un; omega
  have hu1 : (A.deeper (envOfC "require_key" (defScope s_require_key) s.heap.objs.size (He.ga K "require_key") cdv)).units < cLine := by have := hr.un; omega
  unfold t_require_key
  exact pss_one (ps_if (pt_cmp (pc_or (pc_R op_notIn_seq (pv 1) (pv 0)) (pc_dnotin hu (pv 1) (pv 0)))) (pss_one (ps_raiseX (okV := fmtI) (W := fun cls d _ H => E cls d H) rfl (takes_of rfl rfl rfl rfl) T.tx_UnknownKey T.g_UnknownKey T.x_UnknownKey.kp T.x_UnknownKey.sb T.x_UnknownKey.ty T.n_super (fun v u h r => L2.msg_2 (a := "unknown key ") rfl (by decide) v u h r) hr (pa_cons (pv 1) (pa_nil)) rfl)) (pss_nil))
theorem ok_State_says (T : TX P K mg) (F_check_replica : FE P w K mg base 2 "check_replica" ["replica"] [] (toSp K (sp_check_replica K))) (F_require_key : FE P w K mg base 2 "require_key" ["keys", "key"] [] (toSp K (sp_require_key K)))
    (len : ∀ ds O k x, sp_State_says K ds O k x → ds.length = 4)
    (walk : ∀ W ds O k x, sp_State_says K ds O k x → (∀ p ∈ O, p.loc = false) → wpS K W (fun e _ O' => x e O') (t_State_says K W) (startD N_State_says.length ds) O { nx := fun _ O' => k .non O', rt := k }) : FM P w K mg base 3 (He.ga K "State") "says" ["self", "replica", "x", "y"] [] (toSp K (sp_State_says K)) := by
  refine fm_of (ts := t_State_says K) T.F_State_says T.M_State_says sc_State_says len (fun fd F => bindsM F fun _ _ _ _ _ _ us hl => match us, hl with | [_, _, _, _], _ => rfl) (fun cdv A outer s H E hr => ?_) walk
  have hu := hu_of hr
  have hu64 : (A.deeper (envOfC "State.says" (defScope s_State_says) s.heap.objs.size (He.ma K (He.ga K "State") "says") cdv)).units + 64 < cLine := by have := hr.un; omega
  have hu1 : (A.deeper (envOfC "State.says" (defScope s_State_says) s.heap.objs.size (He.ma K (He.ga K "State") "says") cdv)).units < cLine := by have := hr.un; omega
  unfold t_State_says
  exact pss_cons (ps_expr (pe_fe (E := (WE fun cls d _ H => E cls d H)) F_check_replica (hr.mono (by decide)) (by rfl) (fun σ => passAt (takes_of rfl rfl rfl rfl) σ) (pa_cons (pv 1) (pa_nil))))
      (pss_cons (ps_set (i := 4) sc_State_says.nd rfl (by first | exact Or.inl rfl | exact Or.inr rfl) (pe_ix ix_lt (pe_fld (pv 0) rfl) (pv 1) (fun _ _ => rfl)))
      (pss_cons (ps_expr (pe_fe (E := (WE fun cls d _ H => E cls d H)) F_require_key (hr.mono (by decide)) (by rfl) (fun σ => passAt (takes_of rfl rfl rfl rfl) σ) (pa_cons (pv 4) (pa_cons (pv 2) (pa_nil)))))
      (pss_cons (ps_expr (pe_fe (E := (WE fun cls d _ H => E cls d H)) F_require_key (hr.mono (by decide)) (by rfl) (fun σ => passAt (takes_of rfl rfl rfl rfl) σ) (pa_cons (pv 4) (pa_cons (pv 3) (pa_nil)))))
      (pss_one (ps_ret (pe_cmpR opA_lt (pe_dget hu (pv 4) (pv 2) (fun _ _ => rfl)) (pe_dget hu (pv 4) (pv 3) (fun _ _ => rfl)) (nomark _)))))))
theorem ok__other_replicas (T : TX P K mg)
    (len : ∀ ds O k x, sp__other_replicas K ds O k x → ds.length = 1)
    (walk : ∀ W ds O k x, sp__other_replicas K ds O k x → (∀ p ∈ O, p.loc = false) → wpS K W (fun e _ O' => x e O') (t__other_replicas K W) (startD N__other_replicas.length ds) O { nx := fun _ O' => k .non O', rt := k }) : FE P w K mg base 1 "_other_replicas" ["replica"] [] (toSp K (sp__other_replicas K)) := by
  refine fe_of (ts := t__other_replicas K) T.F__other_replicas T.g__other_replicas sc__other_replicas len (fun fd F => binds0 F fun _ _ _ _ _ _ us hl => match us, hl with | [_], _ => rfl) (fun cdv A outer s H E hr => ?_) walk
  have hu := hu_of hr
  have hu64 : (A.deeper (envOfC "_other_replicas" (defScope s__other_replicas) s.heap.objs.size (He.ga K "_other_replicas") cdv)).units + 64 < cLine := by have := hr.un; omega
  have hu1 : (A.deeper (envOfC "_other_replicas" (defScope s__other_replicas) s.heap.objs.size (He.ga K "_other_replicas") cdv)).units < cLine := by have := hr.un; omega
  unfold t__other_replicas
  exact pss_one (ps_ret (pe_lc (own := [("other", 1)]) (g := gName 1) (tt := tTest (tOp (rNeA K) (tVar 1) (tVar 0))) rfl sc__other_replicas.nd (pi_range1 (by rfl) T.n_range (pa_cons (ClX.pe_cval (pe_glob rfl T.g_State rfl) rfl) (pa_nil))) (blkOk_by (N := N__other_replicas) (sc := defScope s__other_replicas) (by decide +kernel)) (fun _ _ _ _ _ => pg_name (i := 1) sc__other_replicas.nd rfl (by first | exact Or.inl rfl | exact Or.inr rfl)) (fun _ _ _ _ _ => pts_one (pt_cmpR (opA_ne hu64) (pv 1) (pv 0) (nomark _))) (fun _ _ _ _ _ => pv 1)))
theorem ok_State_list_of (T : TX P K mg) (F_check_replica : FE P w K mg base 2 "check_replica" ["replica"] [] (toSp K (sp_check_replica K)))
    (len : ∀ ds O k x, sp_State_list_of K ds O k x → ds.length = 2)
    (walk : ∀ W ds O k x, sp_State_list_of K ds O k x → (∀ p ∈ O, p.loc = false) → wpS K W (fun e _ O' => x e O') (t_State_list_of K W) (startD N_State_list_of.length ds) O { nx := fun _ O' => k .non O', rt := k }) : FM P w K mg base 3 (He.ga K "State") "list_of" ["self", "replica"] [] (toSp K (sp_State_list_of K)) := by
  refine fm_of (ts := t_State_list_of K) T.F_State_list_of T.M_State_list_of sc_State_list_of len (fun fd F => bindsM F fun _ _ _ _ _ _ us hl => match us, hl with | [_, _], _ => rfl) (fun cdv A outer s H E hr => ?_) walk
  have hu := hu_of hr
  have hu64 : (A.deeper (envOfC "State.list_of" (defScope s_State_list_of) s.heap.objs.size (He.ma K (He.ga K "State") "list_of") cdv)).units + 64 < cLine := by have := hr.un; omega
  have hu1 : (A.deeper (envOfC "State.list_of" (defScope s_State_list_of) s.heap.objs.size (He.ma K (He.ga K "State") "list_of") cdv)).units < cLine := by have := hr.un; omega
  unfold t_State_list_of
  exact pss_cons (ps_expr (pe_fe (E := (WE fun cls d _ H => E cls d H)) F_check_replica (hr.mono (by decide)) (by rfl) (fun σ => passAt (takes_of rfl rfl rfl rfl) σ) (pa_cons (pv 1) (pa_nil))))
      (pss_one (ps_ret (pe_callTy callA_list (by rfl) T.n_list (by decide +kernel) (pa_cons (pe_ix ix_lt (pe_fld (pv 0) rfl) (pv 1) (fun _ _ => rfl)) (pa_nil)))))
theorem ok_State___len__ (T : TX P K mg)
    (len : ∀ ds O k x, sp_State___len__ K ds O k x → ds.length = 1)
    (walk : ∀ W ds O k x, sp_State___len__ K ds O k x → (∀ p ∈ O, p.loc = false) → wpS K W (fun e _ O' => x e O') (t_State___len__ K W) (startD N_State___len__.length ds) O { nx := fun _ O' => k .non O', rt := k }) : FM P w K mg base 1 (He.ga K "State") "__len__" ["self"] [] (toSp K (sp_State___len__ K)) := by
  refine fm_of (ts := t_State___len__ K) T.F_State___len__ T.M_State___len__ sc_State___len__ len (fun fd F => bindsM F fun _ _ _ _ _ _ us hl => match us, hl with | [_], _ => rfl) (fun cdv A outer s H E hr => ?_) walk
  have hu := hu_of hr
  have hu64 : (A.deeper (envOfC "State.__len__" (defScope s_State___len__) s.heap.objs.size (He.ma K (He.ga K "State") "__len__") cdv)).units + 64 < cLine := by have := hr.un; omega
  have hu1 : (A.deeper (envOfC "State.__len__" (defScope s_State___len__) s.heap.objs.size (He.ma K (He.ga K "State") "__len__") cdv)).units < cLine := by have := hr.un; omega
  unfold t_State___len__
  exact pss_one (ps_ret (pe_callB callA_len (by rfl) T.n_len (by decide +kernel) (pa_cons (pe_ix ix_lt (pe_fld (pv 0) rfl) (pe_int) (fun _ _ => rfl)) (pa_nil))))
theorem ok_is_swap (T : TX P K mg) (F_State___len__ : FM P w K mg base 1 (He.ga K "State") "__len__" ["self"] [] (toSp K (sp_State___len__ K)))
    (len : ∀ ds O k x, sp_is_swap K ds O k x → ds.length = 2)
    (walk : ∀ W ds O k x, sp_is_swap K ds O k x → (∀ p ∈ O, p.loc = false) → wpS K W (fun e _ O' => x e O') (t_is_swap K W) (startD N_is_swap.length ds) O { nx := fun _ O' => k .non O', rt := k }) : FE P w K mg base 3 "is_swap" ["state", "swap"] [] (toSp K (sp_is_swap K)) := by
  refine fe_of (ts := t_is_swap K) T.F_is_swap T.g_is_swap sc_is_swap len (fun fd F => binds0 F fun _ _ _ _ _ _ us hl => match us, hl with | [_, _], _ => rfl) (fun cdv A outer s H E hr => ?_) walk
  have hu := hu_of hr
  have hu64 : (A.deeper (envOfC "is_swap" (defScope s_is_swap) s.heap.objs.size (He.ga K "is_swap") cdv)).units + 64 < cLine := by have := hr.un; omega
  have hu1 : (A.deeper (envOfC "is_swap" (defScope s_is_swap) s.heap.objs.size (He.ga K "is_swap") cdv)).units < cLine := by have := hr.un; omega
  unfold t_is_swap
  exact pss_cons (ps_asg (pv 1) (pg_tup rfl (pgs_cons (pg_name (i := 3) sc_is_swap.nd rfl (by first | exact Or.inl rfl | exact Or.inr rfl)) (pgs_cons (pg_name (i := 4) sc_is_swap.nd rfl (by first | exact Or.inl rfl | exact Or.inr rfl)) (pgs_nil)))))
      (pss_cons (ps_set (i := 2) sc_is_swap.nd rfl (by first | exact Or.inl rfl | exact Or.inr rfl) (pe_op opA_sub (pe_callB (call_lenI F_State___len__ (hr.mono (by decide))) (by rfl) T.n_len (by decide +kernel) (pa_cons (pv 0) (pa_nil))) (pe_int)))
      (pss_one (ps_ret (pe_and (pe_chain opA_le opA_lt (pe_int) (pv 3) (ClX.pe_cval (pe_glob rfl T.g_State rfl) rfl)) (pe_one (pe_chain opA_le opA_le (pe_int) (pv 4) (pv 2)))))))
theorem ok_swap_pair (T : TX P K mg) (F_State_list_of : FM P w K mg base 3 (He.ga K "State") "list_of" ["self", "replica"] [] (toSp K (sp_State_list_of K))) (F_is_swap : FE P w K mg base 3 "is_swap" ["state", "swap"] [] (toSp K (sp_is_swap K)))
    (len : ∀ ds O k x, sp_swap_pair K ds O k x → ds.length = 2)
    (walk : ∀ W ds O k x, sp_swap_pair K ds O k x → (∀ p ∈ O, p.loc = false) → wpS K W (fun e _ O' => x e O') (t_swap_pair K W) (startD N_swap_pair.length ds) O { nx := fun _ O' => k .non O', rt := k }) : FE P w K mg base 4 "swap_pair" ["state", "swap"] [] (toSp K (sp_swap_pair K)) := by
  refine fe_of (ts := t_swap_pair K) T.F_swap_pair T.g_swap_pair sc_swap_pair len (fun fd F => binds0 F fun _ _ _ _ _ _ us hl => match us, hl with | [_, _], _ => rfl) (fun cdv A outer s H E hr => ?_) walk
  have hu := hu_of hr
  have hu64 : (A.deeper (envOfC "swap_pair" (defScope s_swap_pair) s.heap.objs.size (He.ga K "swap_pair") cdv)).units + 64 < cLine := by have := hr.un; omega
  have hu1 : (A.deeper (envOfC "swap_pair" (defScope s_swap_pair) s.heap.objs.size (He.ga K "swap_pair") cdv)).units < cLine := by have := hr.un; omega
  unfold t_swap_pair
  exact pss_cons (ps_if (pt_not (pt_truth (pe_fe (E := (WE fun cls d _ H => E cls d H)) F_is_swap (hr.mono (by decide)) (by rfl) (fun σ => passAt (takes_of rfl rfl rfl rfl) σ) (pa_cons (pv 0) (pa_cons (pv 1) (pa_nil)))) (by intro _; rfl))) (pss_one (ps_raiseX (okV := fmtI) (W := fun cls d _ H => E cls d H) rfl (takes_of rfl rfl rfl rfl) T.tx_InvalidSwap T.g_InvalidSwap T.x_InvalidSwap.kp T.x_InvalidSwap.sb T.x_InvalidSwap.ty T.n_super (fun v u h r => L2.msg_3 (a := "the swap of step ") (b := " does not exist") rfl (by decide) (by decide) v u h r) hr (pa_cons (pe_int) (pa_nil)) rfl)) (pss_nil))
      (pss_cons (ps_asg (pv 1) (pg_tup rfl (pgs_cons (pg_name (i := 3) sc_swap_pair.nd rfl (by first | exact Or.inl rfl | exact Or.inr rfl)) (pgs_cons (pg_name (i := 4) sc_swap_pair.nd rfl (by first | exact Or.inl rfl | exact Or.inr rfl)) (pgs_nil)))))
      (pss_cons (ps_set (i := 2) sc_swap_pair.nd rfl (by first | exact Or.inl rfl | exact Or.inr rfl) (pe_methA (E := (WE fun cls d _ H => E cls d H)) (pv 0) T.C_State F_State_list_of (hr.mono (by decide)) (fun σ => passAt (takes_of rfl rfl rfl rfl) σ) (pa_cons (pv 3) (pa_nil))))
      (pss_one (ps_ret (pe_tup (pa_cons (pe_ix ix_lt (pv 2) (pv 4) (fun _ _ => rfl)) (pa_cons (pe_ix ix_lt (pv 2) (pe_op opA_add (pv 4) (pe_int)) (fun _ _ => rfl)) (pa_nil))))))))
theorem ok_is_silent (T : TX P K mg) (F_State_says : FM P w K mg base 3 (He.ga K "State") "says" ["self", "replica", "x", "y"] [] (toSp K (sp_State_says K))) (F__other_replicas : FE P w K mg base 1 "_other_replicas" ["replica"] [] (toSp K (sp__other_replicas K))) (F_swap_pair : FE P w K mg base 4 "swap_pair" ["state", "swap"] [] (toSp K (sp_swap_pair K)))
    (len : ∀ ds O k x, sp_is_silent K ds O k x → ds.length = 2)
    (walk : ∀ W ds O k x, sp_is_silent K ds O k x → (∀ p ∈ O, p.loc = false) → wpS K W (fun e _ O' => x e O') (t_is_silent K W) (startD N_is_silent.length ds) O { nx := fun _ O' => k .non O', rt := k }) : FE P w K mg base 5 "is_silent" ["state", "swap"] [] (toSp K (sp_is_silent K)) := by
  refine fe_of (ts := t_is_silent K) T.F_is_silent T.g_is_silent sc_is_silent len (fun fd F => binds0 F fun _ _ _ _ _ _ us hl => match us, hl with | [_, _], _ => rfl) (fun cdv A outer s H E hr => ?_) walk
  have hu := hu_of hr
  have hu64 : (A.deeper (envOfC "is_silent" (defScope s_is_silent) s.heap.objs.size (He.ga K "is_silent") cdv)).units + 64 < cLine := by have := hr.un; omega
  have hu1 : (A.deeper (envOfC "is_silent" (defScope s_is_silent) s.heap.objs.size (He.ga K "is_silent") cdv)).units < cLine := by have := hr.un; omega
  unfold t_is_silent
  exact pss_cons (ps_asg (pe_fe (E := (WE fun cls d _ H => E cls d H)) F_swap_pair (hr.mono (by decide)) (by rfl) (fun σ => passAt (takes_of rfl rfl rfl rfl) σ) (pa_cons (pv 0) (pa_cons (pv 1) (pa_nil)))) (pg_tup rfl (pgs_cons (pg_name (i := 2) sc_is_silent.nd rfl (by first | exact Or.inl rfl | exact Or.inr rfl)) (pgs_cons (pg_name (i := 3) sc_is_silent.nd rfl (by first | exact Or.inl rfl | exact Or.inr rfl)) (pgs_nil)))))
      (pss_cons (ps_asg (pe_fe (E := (WE fun cls d _ H => E cls d H)) F__other_replicas (hr.mono (by decide)) (by rfl) (fun σ => passAt (takes_of rfl rfl rfl rfl) σ) (pa_cons (pe_ix ix_lt (pv 1) (pe_int) (fun _ _ => rfl)) (pa_nil))) (pg_lst rfl (pgs_cons (pg_name (i := 4) sc_is_silent.nd rfl (by first | exact Or.inl rfl | exact Or.inr rfl)) (pgs_cons (pg_name (i := 5) sc_is_silent.nd rfl (by first | exact Or.inl rfl | exact Or.inr rfl)) (pgs_nil)))))
      (pss_one (ps_ret (pe_cmpR (opA_eq hu64) (pe_methA (E := (WE fun cls d _ H => E cls d H)) (pv 0) T.C_State F_State_says (hr.mono (by decide)) (fun σ => passAt (takes_of rfl rfl rfl rfl) σ) (pa_cons (pv 4) (pa_cons (pv 2) (pa_cons (pv 3) (pa_nil))))) (pe_methA (E := (WE fun cls d _ H => E cls d H)) (pv 0) T.C_State F_State_says (hr.mono (by decide)) (fun σ => passAt (takes_of rfl rfl rfl rfl) σ) (pa_cons (pv 5) (pa_cons (pv 2) (pa_cons (pv 3) (pa_nil))))) (nomark _)))))
theorem ok_State_all_keys (T : TX P K mg)
    (len : ∀ ds O k x, sp_State_all_keys K ds O k x → ds.length = 1)
    (walk : ∀ W ds O k x, sp_State_all_keys K ds O k x → (∀ p ∈ O, p.loc = false) → wpS K W (fun e _ O' => x e O') (t_State_all_keys K W) (startD N_State_all_keys.length ds) O { nx := fun _ O' => k .non O', rt := k }) : FM P w K mg base 1 (He.ga K "State") "all_keys" ["self"] [] (toSp K (sp_State_all_keys K)) := by
  refine fm_of (ts := t_State_all_keys K) T.F_State_all_keys T.M_State_all_keys sc_State_all_keys len (fun fd F => bindsM F fun _ _ _ _ _ _ us hl => match us, hl with | [_], _ => rfl) (fun cdv A outer s H E hr => ?_) walk
  have hu := hu_of hr
  have hu64 : (A.deeper (envOfC "State.all_keys" (defScope s_State_all_keys) s.heap.objs.size (He.ma K (He.ga K "State") "all_keys") cdv)).units + 64 < cLine := by have := hr.un; omega
  have hu1 : (A.deeper (envOfC "State.all_keys" (defScope s_State_all_keys) s.heap.objs.size (He.ma K (He.ga K "State") "all_keys") cdv)).units < cLine := by have := hr.un; omega
  unfold t_State_all_keys
  exact pss_one (ps_ret (pe_callB callA_sorted (by rfl) T.n_sorted (by decide +kernel) (pa_cons (pe_ix ix_lt (pe_fld (pv 0) rfl) (pe_int) (fun _ _ => rfl)) (pa_nil))))
theorem ok_State_with_list (T : TX P K mg) (F_State___init__ : FM P w K mg base 3 (He.ga K "State") "__init__" ["self", "first", "second", "third"] [] (toSp K (sp_State___init__ K))) (F_State_all_keys : FM P w K mg base 1 (He.ga K "State") "all_keys" ["self"] [] (toSp K (sp_State_all_keys K))) (F_State_lists : FM P w K mg base 1 (He.ga K "State") "lists" ["self"] [] (toSp K (sp_State_lists K))) (F_check_replica : FE P w K mg base 2 "check_replica" ["replica"] [] (toSp K (sp_check_replica K))) (F_first_wrong_place : FE P w K mg base 1 "first_wrong_place" ["order"] [] (toSp K (sp_first_wrong_place K)))
    (len : ∀ ds O k x, sp_State_with_list K ds O k x → ds.length = 3)
    (walk : ∀ W ds O k x, sp_State_with_list K ds O k x → (∀ p ∈ O, p.loc = false) → wpS K W (fun e _ O' => x e O') (t_State_with_list K W) (startD N_State_with_list.length ds) O { nx := fun _ O' => k .non O', rt := k }) : FM P w K mg base 5 (He.ga K "State") "with_list" ["self", "replica", "order"] [] (toSp K (sp_State_with_list K)) := by
  refine fm_of (ts := t_State_with_list K) T.F_State_with_list T.M_State_with_list sc_State_with_list len (fun fd F => bindsM F fun _ _ _ _ _ _ us hl => match us, hl with | [_, _, _], _ => rfl) (fun cdv A outer s H E hr => ?_) walk
  have hu := hu_of hr
  have hu64 : (A.deeper (envOfC "State.with_list" (defScope s_State_with_list) s.heap.objs.size (He.ma K (He.ga K "State") "with_list") cdv)).units + 64 < cLine := by have := hr.un; omega
  have hu1 : (A.deeper (envOfC "State.with_list" (defScope s_State_with_list) s.heap.objs.size (He.ma K (He.ga K "State") "with_list") cdv)).units < cLine := by have := hr.un; omega
  unfold t_State_with_list
  exact pss_cons (ps_expr (pe_fe (E := (WE fun cls d _ H => E cls d H)) F_check_replica (hr.mono (by decide)) (by rfl) (fun σ => passAt (takes_of rfl rfl rfl rfl) σ) (pa_cons (pv 1) (pa_nil))))
      (pss_cons (ps_if (PW.pt (pw_or (pt_cmpR opA_notN (pe_fe (E := (WE fun cls d _ H => E cls d H)) F_first_wrong_place (hr.mono (by decide)) (by rfl) (fun σ => passAt (takes_of rfl rfl rfl rfl) σ) (pa_cons (pv 2) (pa_nil))) (pe_non) (nomark _)) (pw_or1 (pt_cmpR (opA_ne hu64) (pe_callB callA_sorted (by rfl) T.n_sorted (by decide +kernel) (pa_cons (pv 2) (pa_nil))) (pe_meth0A (E := (WE fun cls d _ H => E cls d H)) (pv 0) T.C_State F_State_all_keys (hr.mono (by decide)) (fun σ => passAt (takes_of rfl rfl rfl rfl) σ)) (nomark _))))) (pss_one (ps_raiseX (okV := fmtI) (W := fun cls d _ H => E cls d H) rfl (takes_of rfl rfl rfl rfl) T.tx_InvalidState T.g_InvalidState T.x_InvalidState.kp T.x_InvalidState.sb T.x_InvalidState.ty T.n_super (fun v u h r => L2.msg_3 (a := "replica ") (b := " does not fit a state") rfl (by decide) (by decide) v u h r) hr (pa_cons (pv 1) (pa_nil)) rfl)) (pss_nil))
      (pss_cons (ps_set (i := 3) sc_State_with_list.nd rfl (by first | exact Or.inl rfl | exact Or.inr rfl) (pe_meth0A (E := (WE fun cls d _ H => E cls d H)) (pv 0) T.C_State F_State_lists (hr.mono (by decide)) (fun σ => passAt (takes_of rfl rfl rfl rfl) σ)))
      (pss_cons (ps_asg (pv 2) (pg_sub (pv 3) (pv 1) set_list))
      (pss_cons (ps_asg (pv 3) (pg_lst rfl (pgs_cons (pg_name (i := 4) sc_State_with_list.nd rfl (by first | exact Or.inl rfl | exact Or.inr rfl)) (pgs_cons (pg_name (i := 5) sc_State_with_list.nd rfl (by first | exact Or.inl rfl | exact Or.inr rfl)) (pgs_cons (pg_name (i := 6) sc_State_with_list.nd rfl (by first | exact Or.inl rfl | exact Or.inr rfl)) (pgs_nil))))))
      (pss_one (ps_ret (pe_makeA (E := (WE fun cls d _ H => E cls d H)) T.mk_State F_State___init__ (hr.mono (by decide)) (by rfl) T.g_State (fun σ => passAt (takes_of rfl rfl rfl rfl) σ) (pa_cons (pv 4) (pa_cons (pv 5) (pa_cons (pv 6) (pa_nil)))))))))))
theorem ok_check_list (T : TX P K mg) (F_first_wrong_place : FE P w K mg base 1 "first_wrong_place" ["order"] [] (toSp K (sp_first_wrong_place K)))
    (len : ∀ ds O k x, sp_check_list K ds O k x → ds.length = 1)
    (walk : ∀ W ds O k x, sp_check_list K ds O k x → (∀ p ∈ O, p.loc = false) → wpS K W (fun e _ O' => x e O') (t_check_list K W) (startD N_check_list.length ds) O { nx := fun _ O' => k .non O', rt := k }) : FE P w K mg base 2 "check_list" ["order"] [] (toSp K (sp_check_list K)) := by
  refine fe_of (ts := t_check_list K) T.F_check_list T.g_check_list sc_check_list len (fun fd F => binds0 F fun _ _ _ _ _ _ us hl => match us, hl with | [_], _ => rfl) (fun cdv A outer s H E hr => ?_) walk
  have hu := hu_of hr
  have hu64 : (A.deeper (envOfC "check_list" (defScope s_check_list) s.heap.objs.size (He.ga K "check_list") cdv)).units + 64 < cLine := by have := hr.un; omega
  have hu1 : (A.deeper (envOfC "check_list" (defScope s_check_list) s.heap.objs.size (He.ga K "check_list") cdv)).units < cLine := by have := hr.un; omega
  unfold t_check_list
  exact pss_cons (ps_set (i := 1) sc_check_list.nd rfl (by first | exact Or.inl rfl | exact Or.inr rfl) (pe_fe (E := (WE fun cls d _ H => E cls d H)) F_first_wrong_place (hr.mono (by decide)) (by rfl) (fun σ => passAt (takes_of rfl rfl rfl rfl) σ) (pa_cons (pv 0) (pa_nil))))
      (pss_one (ps_if (pt_cmpR opA_notN (pv 1) (pe_non) (nomark _)) (pss_one (ps_raiseX (okV := fmtI) (W := fun cls d _ H => E cls d H) rfl (takes_of rfl rfl rfl rfl) T.tx_InvalidList T.g_InvalidList T.x_InvalidList.kp T.x_InvalidList.sb T.x_InvalidList.ty T.n_super (fun v u h r => L2.msg_3 (a := "invalid key at index ") (b := " of the list") rfl (by decide) (by decide) v u h r) hr (pa_cons (pv 1) (pa_nil)) rfl)) (pss_nil)))
theorem ok_swap_at (T : TX P K mg) (F_check_list : FE P w K mg base 2 "check_list" ["order"] [] (toSp K (sp_check_list K)))
    (len : ∀ ds O k x, sp_swap_at K ds O k x → ds.length = 2)
    (walk : ∀ W ds O k x, sp_swap_at K ds O k x → (∀ p ∈ O, p.loc = false) → wpS K W (fun e _ O' => x e O') (t_swap_at K W) (startD N_swap_at.length ds) O { nx := fun _ O' => k .non O', rt := k }) : FE P w K mg base 3 "swap_at" ["order", "index"] [] (toSp K (sp_swap_at K)) := by
  refine fe_of (ts := t_swap_at K) T.F_swap_at T.g_swap_at sc_swap_at len (fun fd F => binds0 F fun _ _ _ _ _ _ us hl => match us, hl with | [_, _], _ => rfl) (fun cdv A outer s H E hr => ?_) walk
  have hu := hu_of hr
  have hu64 : (A.deeper (envOfC "swap_at" (defScope s_swap_at) s.heap.objs.size (He.ga K "swap_at") cdv)).units + 64 < cLine := by have := hr.un; omega
  have hu1 : (A.deeper (envOfC "swap_at" (defScope s_swap_at) s.heap.objs.size (He.ga K "swap_at") cdv)).units < cLine := by have := hr.un; omega
  unfold t_swap_at
  exact pss_cons (ps_expr (pe_fe (E := (WE fun cls d _ H => E cls d H)) F_check_list (hr.mono (by decide)) (by rfl) (fun σ => passAt (takes_of rfl rfl rfl rfl) σ) (pa_cons (pv 0) (pa_nil))))
      (pss_cons (ps_if (PW.pt (pw_or (pt_cmpR opA_lt (pv 1) (pe_int) (nomark _)) (pw_or1 (pt_cmpR opA_gt (pv 1) (pe_op opA_sub (pe_callB callA_len (by rfl) T.n_len (by decide +kernel) (pa_cons (pv 0) (pa_nil))) (pe_int)) (nomark _))))) (pss_one (ps_raiseX (okV := fmtI) (W := fun cls d _ H => E cls d H) rfl (takes_of rfl rfl rfl rfl) T.tx_InvalidSwap T.g_InvalidSwap T.x_InvalidSwap.kp T.x_InvalidSwap.sb T.x_InvalidSwap.ty T.n_super (fun v u h r => L2.msg_3 (a := "the swap of step ") (b := " does not exist") rfl (by decide) (by decide) v u h r) hr (pa_cons (pe_int) (pa_nil)) rfl)) (pss_nil))
      (pss_cons (ps_set (i := 2) sc_swap_at.nd rfl (by first | exact Or.inl rfl | exact Or.inr rfl) (pe_callTy callA_list (by rfl) T.n_list (by decide +kernel) (pa_cons (pv 0) (pa_nil))))
      (pss_cons (ps_asg (pe_ix ix_lt (pv 0) (pe_op opA_add (pv 1) (pe_int)) (fun _ _ => rfl)) (pg_sub (pv 2) (pv 1) set_list))
      (pss_cons (ps_asg (pe_ix ix_lt (pv 0) (pv 1) (fun _ _ => rfl)) (pg_sub (pv 2) (pe_op opA_add (pv 1) (pe_int)) set_list))
      (pss_one (ps_ret (pv 2)))))))
theorem ok_swapped_state (T : TX P K mg) (F_State_list_of : FM P w K mg base 3 (He.ga K "State") "list_of" ["self", "replica"] [] (toSp K (sp_State_list_of K))) (F_State_with_list : FM P w K mg base 5 (He.ga K "State") "with_list" ["self", "replica", "order"] [] (toSp K (sp_State_with_list K))) (F_swap_at : FE P w K mg base 3 "swap_at" ["order", "index"] [] (toSp K (sp_swap_at K)))
    (len : ∀ ds O k x, sp_swapped_state K ds O k x → ds.length = 2)
    (walk : ∀ W ds O k x, sp_swapped_state K ds O k x → (∀ p ∈ O, p.loc = false) → wpS K W (fun e _ O' => x e O') (t_swapped_state K W) (startD N_swapped_state.length ds) O { nx := fun _ O' => k .non O', rt := k }) : FE P w K mg base 6 "swapped_state" ["state", "swap"] [] (toSp K (sp_swapped_state K)) := by
  refine fe_of (ts := t_swapped_state K) T.F_swapped_state T.g_swapped_state sc_swapped_state len (fun fd F => binds0 F fun _ _ _ _ _ _ us hl => match us, hl with | [_, _], _ => rfl) (fun cdv A outer s H E hr => ?_) walk
  have hu := hu_of hr
  have hu64 : (A.deeper (envOfC "swapped_state" (defScope s_swapped_state) s.heap.objs.size (He.ga K "swapped_state") cdv)).units + 64 < cLine := by have := hr.un; omega
  have hu1 : (A.deeper (envOfC "swapped_state" (defScope s_swapped_state) s.heap.objs.size (He.ga K "swapped_state") cdv)).units < cLine := by have := hr.un; omega
  unfold t_swapped_state
  exact pss_cons (ps_asg (pv 1) (pg_tup rfl (pgs_cons (pg_name (i := 2) sc_swapped_state.nd rfl (by first | exact Or.inl rfl | exact Or.inr rfl)) (pgs_cons (pg_name (i := 3) sc_swapped_state.nd rfl (by first | exact Or.inl rfl | exact Or.inr rfl)) (pgs_nil)))))
      (pss_one (ps_ret (pe_methA (E := (WE fun cls d _ H => E cls d H)) (pv 0) T.C_State F_State_with_list (hr.mono (by decide)) (fun σ => passAt (takes_of rfl rfl rfl rfl) σ) (pa_cons (pv 2) (pa_cons (pe_fe (E := (WE fun cls d _ H => E cls d H)) F_swap_at (hr.mono (by decide)) (by rfl) (fun σ => passAt (takes_of rfl rfl rfl rfl) σ) (pa_cons (pe_methA (E := (WE fun cls d _ H => E cls d H)) (pv 0) T.C_State F_State_list_of (hr.mono (by decide)) (fun σ => passAt (takes_of rfl rfl rfl rfl) σ) (pa_cons (pv 2) (pa_nil))) (pa_cons (pv 3) (pa_nil)))) (pa_nil))))))
theorem ok_apply_swap (T : TX P K mg) (F_is_silent : FE P w K mg base 5 "is_silent" ["state", "swap"] [] (toSp K (sp_is_silent K))) (F_swapped_state : FE P w K mg base 6 "swapped_state" ["state", "swap"] [] (toSp K (sp_swapped_state K)))
    (len : ∀ ds O k x, sp_apply_swap K ds O k x → ds.length = 2)
    (walk : ∀ W ds O k x, sp_apply_swap K ds O k x → (∀ p ∈ O, p.loc = false) → wpS K W (fun e _ O' => x e O') (t_apply_swap K W) (startD N_apply_swap.length ds) O { nx := fun _ O' => k .non O', rt := k }) : FE P w K mg base 7 "apply_swap" ["state", "swap"] [] (toSp K (sp_apply_swap K)) := by
  refine fe_of (ts := t_apply_swap K) T.F_apply_swap T.g_apply_swap sc_apply_swap len (fun fd F => binds0 F fun _ _ _ _ _ _ us hl => match us, hl with | [_, _], _ => rfl) (fun cdv A outer s H E hr => ?_) walk
  have hu := hu_of hr
  have hu64 : (A.deeper (envOfC "apply_swap" (defScope s_apply_swap) s.heap.objs.size (He.ga K "apply_swap") cdv)).units + 64 < cLine := by have := hr.un; omega
  have hu1 : (A.deeper (envOfC "apply_swap" (defScope s_apply_swap) s.heap.objs.size (He.ga K "apply_swap") cdv)).units < cLine := by have := hr.un; omega
  unfold t_apply_swap
  exact pss_cons (ps_if (pt_not (pt_truth (pe_fe (E := (WE fun cls d _ H => E cls d H)) F_is_silent (hr.mono (by decide)) (by rfl) (fun σ => passAt (takes_of rfl rfl rfl rfl) σ) (pa_cons (pv 0) (pa_cons (pv 1) (pa_nil)))) (by intro _; rfl))) (pss_one (ps_raiseX (okV := fmtI) (W := fun cls d _ H => E cls d H) rfl (takes_of rfl rfl rfl rfl) T.tx_AudibleSwap T.g_AudibleSwap T.x_AudibleSwap.kp T.x_AudibleSwap.sb T.x_AudibleSwap.ty T.n_super (fun v u h r => L2.msg_3 (a := "the swap of step ") (b := " is audible") rfl (by decide) (by decide) v u h r) hr (pa_cons (pe_int) (pa_nil)) rfl)) (pss_nil))
      (pss_one (ps_ret (pe_fe (E := (WE fun cls d _ H => E cls d H)) F_swapped_state (hr.mono (by decide)) (by rfl) (fun σ => passAt (takes_of rfl rfl rfl rfl) σ) (pa_cons (pv 0) (pa_cons (pv 1) (pa_nil))))))
theorem ok_dissenter (T : TX P K mg) (F_State_says : FM P w K mg base 3 (He.ga K "State") "says" ["self", "replica", "x", "y"] [] (toSp K (sp_State_says K)))
    (len : ∀ ds O k x, sp_dissenter K ds O k x → ds.length = 3)
    (walk : ∀ W ds O k x, sp_dissenter K ds O k x → (∀ p ∈ O, p.loc = false) → wpS K W (fun e _ O' => x e O') (t_dissenter K W) (startD N_dissenter.length ds) O { nx := fun _ O' => k .non O', rt := k }) : FE P w K mg base 4 "dissenter" ["state", "x", "y"] [] (toSp K (sp_dissenter K)) := by
  refine fe_of (ts := t_dissenter K) T.F_dissenter T.g_dissenter sc_dissenter len (fun fd F => binds0 F fun _ _ _ _ _ _ us hl => match us, hl with | [_, _, _], _ => rfl) (fun cdv A outer s H E hr => ?_) walk
  have hu := hu_of hr
  have hu64 : (A.deeper (envOfC "dissenter" (defScope s_dissenter) s.heap.objs.size (He.ga K "dissenter") cdv)).units + 64 < cLine := by have := hr.un; omega
  have hu1 : (A.deeper (envOfC "dissenter" (defScope s_dissenter) s.heap.objs.size (He.ga K "dissenter") cdv)).units < cLine := by have := hr.un; omega
  unfold t_dissenter
  exact pss_cons (ps_setLc (i := 3) (own := [("replica", 4)]) (g := gName 4) (tt := tYes) rfl sc_dissenter.nd rfl rfl (sw_true rfl rfl rfl (by decide +kernel)) (pi_range1 (by rfl) T.n_range (pa_cons (ClX.pe_cval (pe_glob rfl T.g_State rfl) rfl) (pa_nil))) (blkOk_by (N := N_dissenter) (sc := defScope s_dissenter) (by decide +kernel)) (fun _ _ _ _ _ => pg_name (i := 4) sc_dissenter.nd rfl (by first | exact Or.inl rfl | exact Or.inr rfl)) (fun _ _ _ _ _ => pts_nil) (fun _ _ _ _ _ => pe_methA (E := (fun _ => E0)) (pv 0) T.C_State F_State_says (hr.mono (by decide)) (fun σ => passE σ) (pa_cons (pv 4) (pa_cons (pv 1) (pa_cons (pv 2) (pa_nil))))))
      (pss_cons (ps_for (passes_of rfl) rfl (pi_enum (by rfl) T.n_enumerate (pa_cons (pv 3) (pa_nil))) (pg_tup rfl (pgs_cons (pg_name (i := 4) sc_dissenter.nd rfl (by first | exact Or.inl rfl | exact Or.inr rfl)) (pgs_cons (pg_name (i := 5) sc_dissenter.nd rfl (by first | exact Or.inl rfl | exact Or.inr rfl)) (pgs_nil)))) (pss_one (ps_if (pt_cmpR (opA_eq hu64) (pe_bm PySem.F.plainAttrs_list PySem.F.slot_list_count PySem.F.type_list_count mt_cnt (pv 3) (pa_cons (pv 5) (pa_nil))) (pe_int) (nomark _)) (pss_one (ps_ret (pv 4))) (pss_nil))))
      (pss_one (ps_ret (pe_non))))
theorem ok_barred_by (T : TX P K mg) (F_dissenter : FE P w K mg base 4 "dissenter" ["state", "x", "y"] [] (toSp K (sp_dissenter K))) (F_is_silent : FE P w K mg base 5 "is_silent" ["state", "swap"] [] (toSp K (sp_is_silent K))) (F_swap_pair : FE P w K mg base 4 "swap_pair" ["state", "swap"] [] (toSp K (sp_swap_pair K)))
    (len : ∀ ds O k x, sp_barred_by K ds O k x → ds.length = 2)
    (walk : ∀ W ds O k x, sp_barred_by K ds O k x → (∀ p ∈ O, p.loc = false) → wpS K W (fun e _ O' => x e O') (t_barred_by K W) (startD N_barred_by.length ds) O { nx := fun _ O' => k .non O', rt := k }) : FE P w K mg base 6 "barred_by" ["state", "swap"] [] (toSp K (sp_barred_by K)) := by
  refine fe_of (ts := t_barred_by K) T.F_barred_by T.g_barred_by sc_barred_by len (fun fd F => binds0 F fun _ _ _ _ _ _ us hl => match us, hl with | [_, _], _ => rfl) (fun cdv A outer s H E hr => ?_) walk
  have hu := hu_of hr
  have hu64 : (A.deeper (envOfC "barred_by" (defScope s_barred_by) s.heap.objs.size (He.ga K "barred_by") cdv)).units + 64 < cLine := by have := hr.un; omega
  have hu1 : (A.deeper (envOfC "barred_by" (defScope s_barred_by) s.heap.objs.size (He.ga K "barred_by") cdv)).units < cLine := by have := hr.un; omega
  unfold t_barred_by
  exact pss_cons (ps_if (pt_truth (pe_fe (E := (WE fun cls d _ H => E cls d H)) F_is_silent (hr.mono (by decide)) (by rfl) (fun σ => passAt (takes_of rfl rfl rfl rfl) σ) (pa_cons (pv 0) (pa_cons (pv 1) (pa_nil)))) (by intro _; rfl)) (pss_one (ps_ret (pe_non))) (pss_nil))
      (pss_cons (ps_asg (pe_fe (E := (WE fun cls d _ H => E cls d H)) F_swap_pair (hr.mono (by decide)) (by rfl) (fun σ => passAt (takes_of rfl rfl rfl rfl) σ) (pa_cons (pv 0) (pa_cons (pv 1) (pa_nil)))) (pg_tup rfl (pgs_cons (pg_name (i := 2) sc_barred_by.nd rfl (by first | exact Or.inl rfl | exact Or.inr rfl)) (pgs_cons (pg_name (i := 3) sc_barred_by.nd rfl (by first | exact Or.inl rfl | exact Or.inr rfl)) (pgs_nil)))))
      (pss_one (ps_ret (pe_fe (E := (WE fun cls d _ H => E cls d H)) F_dissenter (hr.mono (by decide)) (by rfl) (fun σ => passAt (takes_of rfl rfl rfl rfl) σ) (pa_cons (pv 0) (pa_cons (pv 2) (pa_cons (pv 3) (pa_nil))))))))
theorem ok__law_call (T : TX P K mg) (F_apply_swap : FE P w K mg base 7 "apply_swap" ["state", "swap"] [] (toSp K (sp_apply_swap K))) (F_barred_by : FE P w K mg base 6 "barred_by" ["state", "swap"] [] (toSp K (sp_barred_by K))) (F_is_silent : FE P w K mg base 5 "is_silent" ["state", "swap"] [] (toSp K (sp_is_silent K))) (F_swap_pair : FE P w K mg base 4 "swap_pair" ["state", "swap"] [] (toSp K (sp_swap_pair K)))
    (len : ∀ ds O k x, sp__law_call_v3 K ds O k x → ds.length = 3)
    (walk : ∀ W ds O k x, sp__law_call_v3 K ds O k x → (∀ p ∈ O, p.loc = false) → wpS K W (fun e _ O' => x e O') (t__law_call_v3 K W) (startD N__law_call_v3.length ds) O { nx := fun _ O' => k .non O', rt := k }) : FE P w K mg base 8 "_law_call" ["_law_state", "_law_swap", "_law_way"] [] (toSp K (sp__law_call_v3 K)) := by
  refine fe_of (ts := t__law_call_v3 K) T.F__law_call T.g__law_call sc__law_call len (fun fd F => binds0 F fun _ _ _ _ _ _ us hl => match us, hl with | [_, _, _], _ => rfl) (fun cdv A outer s H E hr => ?_) walk
  have hu := hu_of hr
  have hu64 : (A.deeper (envOfC "_law_call" (defScope s__law_call) s.heap.objs.size (He.ga K "_law_call") cdv)).units + 64 < cLine := by have := hr.un; omega
  have hu1 : (A.deeper (envOfC "_law_call" (defScope s__law_call) s.heap.objs.size (He.ga K "_law_call") cdv)).units < cLine := by have := hr.un; omega
  unfold t__law_call_v3
  exact pss_cons (ps_if (pt_cmpR (opA_eq hu64) (pv 2) (pe_int) (nomark _)) (pss_one (ps_ret (pe_fe (E := (WE fun cls d _ H => E cls d H)) F_swap_pair (hr.mono (by decide)) (by rfl) (fun σ => passAt (takes_of rfl rfl rfl rfl) σ) (pa_cons (pv 0) (pa_cons (pv 1) (pa_nil)))))) (pss_nil))
      (pss_cons (ps_if (pt_cmpR (opA_eq hu64) (pv 2) (pe_int) (nomark _)) (pss_one (ps_ret (pe_fe (E := (WE fun cls d _ H => E cls d H)) F_is_silent (hr.mono (by decide)) (by rfl) (fun σ => passAt (takes_of rfl rfl rfl rfl) σ) (pa_cons (pv 0) (pa_cons (pv 1) (pa_nil)))))) (pss_nil))
      (pss_cons (ps_if (pt_cmpR (opA_eq hu64) (pv 2) (pe_int) (nomark _)) (pss_one (ps_ret (pe_fe (E := (WE fun cls d _ H => E cls d H)) F_barred_by (hr.mono (by decide)) (by rfl) (fun σ => passAt (takes_of rfl rfl rfl rfl) σ) (pa_cons (pv 0) (pa_cons (pv 1) (pa_nil)))))) (pss_nil))
      (pss_one (ps_ret (pe_fe (E := (WE fun cls d _ H => E cls d H)) F_apply_swap (hr.mono (by decide)) (by rfl) (fun σ => passAt (takes_of rfl rfl rfl rfl) σ) (pa_cons (pv 0) (pa_cons (pv 1) (pa_nil))))))))
theorem ok__law_tried (T : TX P K mg) (F__law_call : FE P w K mg base 8 "_law_call" ["_law_state", "_law_swap", "_law_way"] [] (toSp K (sp__law_call_v3 K)))
    (len : ∀ ds O k x, sp__law_tried_v3 K ds O k x → ds.length = 3)
    (walk : ∀ W ds O k x, sp__law_tried_v3 K ds O k x → (∀ p ∈ O, p.loc = false) → wpS K W (fun e _ O' => x e O') (t__law_tried_v3 K W) (startD N__law_tried_v3.length ds) O { nx := fun _ O' => k .non O', rt := k }) : FE P w K mg base 9 "_law_tried" ["_law_state", "_law_swap", "_law_way"] [] (toSp K (sp__law_tried_v3 K)) := by
  refine fe_of (ts := t__law_tried_v3 K) T.F__law_tried T.g__law_tried sc__law_tried len (fun fd F => binds0 F fun _ _ _ _ _ _ us hl => match us, hl with | [_, _, _], _ => rfl) (fun cdv A outer s H E hr => ?_) walk
  have hu := hu_of hr
  have hu64 : (A.deeper (envOfC "_law_tried" (defScope s__law_tried) s.heap.objs.size (He.ga K "_law_tried") cdv)).units + 64 < cLine := by have := hr.un; omega
  have hu1 : (A.deeper (envOfC "_law_tried" (defScope s__law_tried) s.heap.objs.size (He.ga K "_law_tried") cdv)).units < cLine := by have := hr.un; omega
  unfold t__law_tried_v3
  exact pss_cons (ps_try_cls (tb := (fun W1 => tAsg (tCallSD (toSp K (sp__law_call_v3 K)) [] (WE W1) (tCons (tVar 0) (tCons (tVar 1) (tCons (tVar 2) (tNil))))) (gName 5))) (l := (tl__law_tried_v3_0 K)) (Wout := fun cls d _ H => E cls d H) rfl rfl sc__law_tried.nd (takes_of rfl rfl rfl rfl) (fun W1 pn1 xe1 tk1 hp1 => pss_one (ps_set (i := 5) sc__law_tried.nd rfl (by first | exact Or.inl rfl | exact Or.inr rfl) (pe_fe (E := (WE W1)) F__law_call (hr.mono (by decide)) (by rfl) (fun σ => passAt tk1 σ) (pa_cons (pv 0) (pa_cons (pv 1) (pa_cons (pv 2) (pa_nil))))))) ((ClsOk.cons (i := 3) (ts := (fun ea ecls ed => tSeq (tAsg (tAndV (tCB (rIsX K ea ecls ed) (tCons (tVar 3) (tCons (tC (.ref (He.ga K "DriftError"))) (tNil)))) (tCB (rIsX K ea ecls ed) (tCons (tVar 3) (tCons (tC (.ty "ValueError")) (tNil))))) (gName 6))
    (tRet (tTup (tCons (tC (.str "invalid")) (tCons (tXf ea ecls ed (He.ga K "InvalidSwap") "step" (tVar 3)) (tCons (tAndV (tVar 6) (tNotV (tCB (rIsX K ea ecls ed) (tCons (tVar 3) (tCons (tC (.ref (He.ga K "AudibleSwap"))) (tNil)))))) (tNil)))))))) ⟨rfl, by decide, .inl T.g_InvalidSwap⟩ rfl rfl (fun ea oe ecls ed pn hz hf => pss_cons (ps_set (i := 6) sc__law_tried.nd rfl (by first | exact Or.inl rfl | exact Or.inr rfl) (pe_and (pe_callB (call_isX hz hf) (by rfl) T.n_isinstance (by decide +kernel) (pa_cons (pv 3) (pa_cons (pe_glob rfl T.g_DriftError rfl) (pa_nil)))) (pe_one (pe_callB (call_isX hz hf) (by rfl) T.n_isinstance (by decide +kernel) (pa_cons (pv 3) (pa_cons (pe_bltn (v := .ty "ValueError") (by rfl) T.n_ValueError (by decide +kernel) rfl) (pa_nil)))))))
      (pss_one (ps_ret (pe_tup (pa_cons (pe_str) (pa_cons (pe_xf T.x_InvalidSwap.xf T.x_InvalidSwap.no hz hf (pv 3)) (pa_cons (pe_and (pv 6) (pe_one (pe_not (pe_callB (call_isX hz hf) (by rfl) T.n_isinstance (by decide +kernel) (pa_cons (pv 3) (pa_cons (pe_glob rfl T.g_AudibleSwap rfl) (pa_nil))))))) (pa_nil)))))))) (ClsOk.cons (i := 4) (ts := (fun ea ecls ed => tSeq (tAsg (tAndV (tCB (rIsX K ea ecls ed) (tCons (tVar 4) (tCons (tC (.ref (He.ga K "DriftError"))) (tNil)))) (tCB (rIsX K ea ecls ed) (tCons (tVar 4) (tCons (tC (.ty "ValueError")) (tNil))))) (gName 6))
    (tRet (tTup (tCons (tC (.str "audible")) (tCons (tXf ea ecls ed (He.ga K "AudibleSwap") "step" (tVar 4)) (tCons (tVar 6) (tNil)))))))) ⟨rfl, by decide, .inl T.g_AudibleSwap⟩ rfl rfl (fun ea oe ecls ed pn hz hf => pss_cons (ps_set (i := 6) sc__law_tried.nd rfl (by first | exact Or.inl rfl | exact Or.inr rfl) (pe_and (pe_callB (call_isX hz hf) (by rfl) T.n_isinstance (by decide +kernel) (pa_cons (pv 4) (pa_cons (pe_glob rfl T.g_DriftError rfl) (pa_nil)))) (pe_one (pe_callB (call_isX hz hf) (by rfl) T.n_isinstance (by decide +kernel) (pa_cons (pv 4) (pa_cons (pe_bltn (v := .ty "ValueError") (by rfl) T.n_ValueError (by decide +kernel) rfl) (pa_nil)))))))
      (pss_one (ps_ret (pe_tup (pa_cons (pe_str) (pa_cons (pe_xf T.x_AudibleSwap.xf T.x_AudibleSwap.no hz hf (pv 4)) (pa_cons (pv 6) (pa_nil)))))))) .nil))))
      (pss_one (ps_ret (pe_tup (pa_cons (pe_str) (pa_cons (pv 5) (pa_cons (pe_bl) (pa_nil)))))))
theorem ok__law_refuses (T : TX P K mg) (F__law_refused : FE P w K mg base 2 "_law_refused" ["_law_answer", "_law_word"] [] (toSp K (sp__law_refused_v4 K))) (F__law_tried : FE P w K mg base 9 "_law_tried" ["_law_state", "_law_swap", "_law_way"] [] (toSp K (sp__law_tried_v3 K)))
    (len : ∀ ds O k x, sp__law_refuses_v2 K ds O k x → ds.length = 2)
    (walk : ∀ W ds O k x, sp__law_refuses_v2 K ds O k x → (∀ p ∈ O, p.loc = false) → wpS K W (fun e _ O' => x e O') (t__law_refuses_v2 K W) (startD N__law_refuses_v2.length ds) O { nx := fun _ O' => k .non O', rt := k }) : FE P w K mg base 10 "_law_refuses" ["_law_state", "_law_lacking_here"] [] (toSp K (sp__law_refuses_v2 K)) := by
  refine fe_of (ts := t__law_refuses_v2 K) T.F__law_refuses T.g__law_refuses sc__law_refuses len (fun fd F => binds0 F fun _ _ _ _ _ _ us hl => match us, hl with | [_, _], _ => rfl) (fun cdv A outer s H E hr => ?_) walk
  have hu := hu_of hr
  have hu64 : (A.deeper (envOfC "_law_refuses" (defScope s__law_refuses) s.heap.objs.size (He.ga K "_law_refuses") cdv)).units + 64 < cLine := by have := hr.un; omega
  have hu1 : (A.deeper (envOfC "_law_refuses" (defScope s__law_refuses) s.heap.objs.size (He.ga K "_law_refuses") cdv)).units < cLine := by have := hr.un; omega
  unfold t__law_refuses_v2
  exact pss_cons (ps_for (passes_of rfl) rfl (pi_list (pv 1)) (pg_name (i := 2) sc__law_refuses.nd rfl (by first | exact Or.inl rfl | exact Or.inr rfl)) (pss_one (ps_for (passes_of rfl) rfl (pi_range1 (by rfl) T.n_range (pa_cons (pe_int) (pa_nil))) (pg_name (i := 3) sc__law_refuses.nd rfl (by first | exact Or.inl rfl | exact Or.inr rfl)) (pss_one (ps_if (pt_not (pt_truth (pe_fe (E := (WE fun cls d _ H => E cls d H)) F__law_refused (hr.mono (by decide)) (by rfl) (fun σ => passAt (takes_of rfl rfl rfl rfl) σ) (pa_cons (pe_fe (E := (WE fun cls d _ H => E cls d H)) F__law_tried (hr.mono (by decide)) (by rfl) (fun σ => passAt (takes_of rfl rfl rfl rfl) σ) (pa_cons (pv 0) (pa_cons (pv 2) (pa_cons (pv 3) (pa_nil))))) (pa_cons (pe_str) (pa_nil)))) (by intro _; rfl))) (pss_one (ps_ret (pe_bl))) (pss_nil))))))
      (pss_one (ps_ret (pe_bl)))
theorem ok_Reading_pairs (T : TX P K mg)
    (len : ∀ ds O k x, sp_Reading_pairs K ds O k x → ds.length = 1)
    (walk : ∀ W ds O k x, sp_Reading_pairs K ds O k x → (∀ p ∈ O, p.loc = false) → wpS K W (fun e _ O' => x e O') (t_Reading_pairs K W) (startD N_Reading_pairs.length ds) O { nx := fun _ O' => k .non O', rt := k }) : FM P w K mg base 1 (He.ga K "Reading") "pairs" ["self"] [] (toSp K (sp_Reading_pairs K)) := by
  refine fm_of (ts := t_Reading_pairs K) T.F_Reading_pairs T.M_Reading_pairs sc_Reading_pairs len (fun fd F => bindsM F fun _ _ _ _ _ _ us hl => match us, hl with | [_], _ => rfl) (fun cdv A outer s H E hr => ?_) walk
  have hu := hu_of hr
  have hu64 : (A.deeper (envOfC "Reading.pairs" (defScope s_Reading_pairs) s.heap.objs.size (He.ma K (He.ga K "Reading") "pairs") cdv)).units + 64 < cLine := by have := hr.un; omega
  have hu1 : (A.deeper (envOfC "Reading.pairs" (defScope s_Reading_pairs) s.heap.objs.size (He.ma K (He.ga K "Reading") "pairs") cdv)).units < cLine := by have := hr.un; omega
  unfold t_Reading_pairs
  exact pss_one (ps_ret (pe_callB (cr_sortTD rfl) (by rfl) T.n_sorted (by decide +kernel) (pa_cons (pe_fld (pv 0) rfl) (pa_nil))))
theorem ok__law_is_tuple (T : TX P K mg) (F__law_is_row : FE P w K mg base 2 "_law_is_row" ["_law_actual", "_law_due"] [] (toSp K (sp__law_is_row_v2 K)))
    (len : ∀ ds O k x, sp__law_is_tuple_v2 K ds O k x → ds.length = 2)
    (walk : ∀ W ds O k x, sp__law_is_tuple_v2 K ds O k x → (∀ p ∈ O, p.loc = false) → wpS K W (fun e _ O' => x e O') (t__law_is_tuple_v2 K W) (startD N__law_is_tuple_v2.length ds) O { nx := fun _ O' => k .non O', rt := k }) : FE P w K mg base 3 "_law_is_tuple" ["_law_actual", "_law_due"] [] (toSp K (sp__law_is_tuple_v2 K)) := by
  refine fe_of (ts := t__law_is_tuple_v2 K) T.F__law_is_tuple T.g__law_is_tuple sc__law_is_tuple len (fun fd F => binds0 F fun _ _ _ _ _ _ us hl => match us, hl with | [_, _], _ => rfl) (fun cdv A outer s H E hr => ?_) walk
  have hu := hu_of hr
  have hu64 : (A.deeper (envOfC "_law_is_tuple" (defScope s__law_is_tuple) s.heap.objs.size (He.ga K "_law_is_tuple") cdv)).units + 64 < cLine := by have := hr.un; omega
  have hu1 : (A.deeper (envOfC "_law_is_tuple" (defScope s__law_is_tuple) s.heap.objs.size (He.ga K "_law_is_tuple") cdv)).units < cLine := by have := hr.un; omega
  unfold t__law_is_tuple_v2
  exact pss_one (ps_ret (pe_and (pe_callB call_isi (by rfl) T.n_isinstance (by decide +kernel) (pa_cons (pv 0) (pa_cons (pe_bltn (v := .ty "tuple") (by rfl) T.n_tuple (by decide +kernel) rfl) (pa_nil)))) (pe_one (pe_fe (E := (WE fun cls d _ H => E cls d H)) F__law_is_row (hr.mono (by decide)) (by rfl) (fun σ => passAt (takes_of rfl rfl rfl rfl) σ) (pa_cons (pv 0) (pa_cons (pv 1) (pa_nil)))))))
theorem ok__law_is_tuples (T : TX P K mg) (F__law_is_tuple : FE P w K mg base 3 "_law_is_tuple" ["_law_actual", "_law_due"] [] (toSp K (sp__law_is_tuple_v2 K)))
    (len : ∀ ds O k x, sp__law_is_tuples_v2 K ds O k x → ds.length = 2)
    (walk : ∀ W ds O k x, sp__law_is_tuples_v2 K ds O k x → (∀ p ∈ O, p.loc = false) → wpS K W (fun e _ O' => x e O') (t__law_is_tuples_v2 K W) (startD N__law_is_tuples_v2.length ds) O { nx := fun _ O' => k .non O', rt := k }) : FE P w K mg base 4 "_law_is_tuples" ["_law_actual", "_law_due"] [] (toSp K (sp__law_is_tuples_v2 K)) := by
  refine fe_of (ts := t__law_is_tuples_v2 K) T.F__law_is_tuples T.g__law_is_tuples sc__law_is_tuples len (fun fd F => binds0 F fun _ _ _ _ _ _ us hl => match us, hl with | [_, _], _ => rfl) (fun cdv A outer s H E hr => ?_) walk
  have hu := hu_of hr
  have hu64 : (A.deeper (envOfC "_law_is_tuples" (defScope s__law_is_tuples) s.heap.objs.size (He.ga K "_law_is_tuples") cdv)).units + 64 < cLine := by have := hr.un; omega
  have hu1 : (A.deeper (envOfC "_law_is_tuples" (defScope s__law_is_tuples) s.heap.objs.size (He.ga K "_law_is_tuples") cdv)).units < cLine := by have := hr.un; omega
  unfold t__law_is_tuples_v2
  exact pss_cons (ps_if (PW.pt (pw_or (pt_not (pt_truth (pe_callB call_isi (by rfl) T.n_isinstance (by decide +kernel) (pa_cons (pv 0) (pa_cons (pe_bltn (v := .ty "list") (by rfl) T.n_list (by decide +kernel) rfl) (pa_nil)))) (by intro _; rfl))) (pw_or1 (pt_cmpR (opA_ne hu64) (pe_callB callA_len (by rfl) T.n_len (by decide +kernel) (pa_cons (pv 0) (pa_nil))) (pe_callB callA_len (by rfl) T.n_len (by decide +kernel) (pa_cons (pv 1) (pa_nil))) (nomark _))))) (pss_one (ps_ret (pe_bl))) (pss_nil))
      (pss_cons (ps_for (passes_of rfl) rfl (pi_range1 (by rfl) T.n_range (pa_cons (pe_callB callA_len (by rfl) T.n_len (by decide +kernel) (pa_cons (pv 1) (pa_nil))) (pa_nil))) (pg_name (i := 2) sc__law_is_tuples.nd rfl (by first | exact Or.inl rfl | exact Or.inr rfl)) (pss_one (ps_if (pt_not (pt_truth (pe_fe (E := (WE fun cls d _ H => E cls d H)) F__law_is_tuple (hr.mono (by decide)) (by rfl) (fun σ => passAt (takes_of rfl rfl rfl rfl) σ) (pa_cons (pe_ix ix_lt (pv 0) (pv 2) (fun _ _ => rfl)) (pa_cons (pe_ix ix_lt (pv 1) (pv 2) (fun _ _ => rfl)) (pa_nil)))) (by intro _; rfl))) (pss_one (ps_ret (pe_bl))) (pss_nil))))
      (pss_one (ps_ret (pe_bl))))
theorem ok__law_words (T : TX P K mg)
    (len : ∀ ds O k x, sp__law_words K ds O k x → ds.length = 1)
    (walk : ∀ W ds O k x, sp__law_words K ds O k x → (∀ p ∈ O, p.loc = false) → wpS K W (fun e _ O' => x e O') (t__law_words K W) (startD N__law_words.length ds) O { nx := fun _ O' => k .non O', rt := k }) : FE P w K mg base 1 "_law_words" ["_law_order_here"] [] (toSp K (sp__law_words K)) := by
  refine fe_of (ts := t__law_words K) T.F__law_words T.g__law_words sc__law_words len (fun fd F => binds0 F fun _ _ _ _ _ _ us hl => match us, hl with | [_], _ => rfl) (fun cdv A outer s H E hr => ?_) walk
  have hu := hu_of hr
  have hu64 : (A.deeper (envOfC "_law_words" (defScope s__law_words) s.heap.objs.size (He.ga K "_law_words") cdv)).units + 64 < cLine := by have := hr.un; omega
  have hu1 : (A.deeper (envOfC "_law_words" (defScope s__law_words) s.heap.objs.size (He.ga K "_law_words") cdv)).units < cLine := by have := hr.un; omega
  unfold t__law_words
  exact pss_cons (ps_set (i := 1) sc__law_words.nd rfl (by first | exact Or.inl rfl | exact Or.inr rfl) (pe_dnewT))
      (pss_cons (ps_for (passes_of rfl) rfl (pi_range1 (by rfl) T.n_range (pa_cons (pe_callB callA_len (by rfl) T.n_len (by decide +kernel) (pa_cons (pv 0) (pa_nil))) (pa_nil))) (pg_name (i := 2) sc__law_words.nd rfl (by first | exact Or.inl rfl | exact Or.inr rfl)) (pss_one (ps_for (passes_of rfl) rfl (pi_range2 (by rfl) T.n_range (pa_cons (pe_op opA_add (pv 2) (pe_int)) (pa_cons (pe_callB callA_len (by rfl) T.n_len (by decide +kernel) (pa_cons (pv 0) (pa_nil))) (pa_nil)))) (pg_name (i := 3) sc__law_words.nd rfl (by first | exact Or.inl rfl | exact Or.inr rfl)) (pss_one (ps_dput hu (pv 1) (pe_tup (pa_cons (pe_ix ix_lt (pv 0) (pv 2) (fun _ _ => rfl)) (pa_cons (pe_ix ix_lt (pv 0) (pv 3) (fun _ _ => rfl)) (pa_nil)))) (pe_bl) rfl)))))
      (pss_one (ps_ret (pv 1))))
theorem ok__law_reading (T : TX P K mg) (F__law_words : FE P w K mg base 1 "_law_words" ["_law_order_here"] [] (toSp K (sp__law_words K)))
    (len : ∀ ds O k x, sp__law_reading K ds O k x → ds.length = 1)
    (walk : ∀ W ds O k x, sp__law_reading K ds O k x → (∀ p ∈ O, p.loc = false) → wpS K W (fun e _ O' => x e O') (t__law_reading K W) (startD N__law_reading.length ds) O { nx := fun _ O' => k .non O', rt := k }) : FE P w K mg base 2 "_law_reading" ["_law_lists_here"] [] (toSp K (sp__law_reading K)) := by
  refine fe_of (ts := t__law_reading K) T.F__law_reading T.g__law_reading sc__law_reading len (fun fd F => binds0 F fun _ _ _ _ _ _ us hl => match us, hl with | [_], _ => rfl) (fun cdv A outer s H E hr => ?_) walk
  have hu := hu_of hr
  have hu64 : (A.deeper (envOfC "_law_reading" (defScope s__law_reading) s.heap.objs.size (He.ga K "_law_reading") cdv)).units + 64 < cLine := by have := hr.un; omega
  have hu1 : (A.deeper (envOfC "_law_reading" (defScope s__law_reading) s.heap.objs.size (He.ga K "_law_reading") cdv)).units < cLine := by have := hr.un; omega
  unfold t__law_reading
  exact pss_cons (ps_setLc (i := 1) (own := [("_law_order_here", 6)]) (g := gName 6) (tt := tYes) rfl sc__law_reading.nd rfl rfl (sw_true rfl rfl rfl (by decide +kernel)) (pi_list (pv 0)) (blkOk_by (N := N__law_reading) (sc := defScope s__law_reading) (by decide +kernel)) (fun _ _ _ _ _ => pg_name (i := 6) sc__law_reading.nd rfl (by first | exact Or.inl rfl | exact Or.inr rfl)) (fun _ _ _ _ _ => pts_nil) (fun _ _ _ _ _ => pe_fe (E := (fun _ => E0)) F__law_words (hr.mono (by decide)) (by rfl) (fun σ => passE σ) (pa_cons (pv 6) (pa_nil))))
      (pss_cons (ps_set (i := 2) sc__law_reading.nd rfl (by first | exact Or.inl rfl | exact Or.inr rfl) (pe_callB callA_sorted (by rfl) T.n_sorted (by decide +kernel) (pa_cons (pe_ix ix_lt (pv 0) (pe_int) (fun _ _ => rfl)) (pa_nil))))
      (pss_cons (ps_set (i := 3) sc__law_reading.nd rfl (by first | exact Or.inl rfl | exact Or.inr rfl) (pe_lst (pa_nil)))
      (pss_cons (ps_for (passes_of rfl) rfl (pi_list (pv 2)) (pg_name (i := 4) sc__law_reading.nd rfl (by first | exact Or.inl rfl | exact Or.inr rfl)) (pss_one (ps_for (passes_of rfl) rfl (pi_list (pv 2)) (pg_name (i := 5) sc__law_reading.nd rfl (by first | exact Or.inl rfl | exact Or.inr rfl)) (pss_one (ps_if (pt_cmpR opA_gt (pe_callB callA_len (by rfl) T.n_len (by decide +kernel) (pa_cons (pe_lc (own := [("_law_one", 7)]) (g := gName 7) (tt := tB (tDIn (tTup (tCons (tVar 4) (tCons (tVar 5) (tNil)))) (tVar 7))) rfl sc__law_reading.nd (pi_list (pv 1)) (blkOk_by (N := N__law_reading) (sc := defScope s__law_reading) (by decide +kernel)) (fun _ _ _ _ _ => pg_name (i := 7) sc__law_reading.nd rfl (by first | exact Or.inl rfl | exact Or.inr rfl)) (fun _ _ _ _ _ => pts_one (pt_cmp (pc_din hu (pe_tup (pa_cons (pv 4) (pa_cons (pv 5) (pa_nil)))) (pv 7)))) (fun _ _ _ _ _ => pv 7)) (pa_nil))) (pe_int) (nomark _)) (pss_one (ps_expr (pe_bm PySem.F.plainAttrs_list PySem.F.slot_list_append PySem.F.type_list_append mt_append (pv 3) (pa_cons (pe_tup (pa_cons (pv 4) (pa_cons (pv 5) (pa_nil)))) (pa_nil))))) (pss_nil))))))
      (pss_one (ps_ret (pv 3))))))
theorem ok_Reading__in_a_cycle (T : TX P K mg)
    (len : ∀ ds O k x, sp_Reading__in_a_cycle K ds O k x → ds.length = 3)
    (walk : ∀ W ds O k x, sp_Reading__in_a_cycle K ds O k x → (∀ p ∈ O, p.loc = false) → wpS K W (fun e _ O' => x e O') (t_Reading__in_a_cycle K W) (startD N_Reading__in_a_cycle.length ds) O { nx := fun _ O' => k .non O', rt := k }) : FM P w K mg base 1 (He.ga K "Reading") "_in_a_cycle" ["self", "x", "y"] [] (toSp K (sp_Reading__in_a_cycle K)) := by
  refine fm_of (ts := t_Reading__in_a_cycle K) T.F_Reading__in_a_cycle T.M_Reading__in_a_cycle sc_Reading__in_a_cycle len (fun fd F => bindsM F fun _ _ _ _ _ _ us hl => match us, hl with | [_, _, _], _ => rfl) (fun cdv A outer s H E hr => ?_) walk
  have hu := hu_of hr
  have hu64 : (A.deeper (envOfC "Reading._in_a_cycle" (defScope s_Reading__in_a_cycle) s.heap.objs.size (He.ma K (He.ga K "Reading") "_in_a_cycle") cdv)).units + 64 < cLine := by have := hr.un; omega
  have hu1 : (A.deeper (envOfC "Reading._in_a_cycle" (defScope s_Reading__in_a_cycle) s.heap.objs.size (He.ma K (He.ga K "Reading") "_in_a_cycle") cdv)).units < cLine := by have := hr.un; omega
  unfold t_Reading__in_a_cycle
  exact pss_one (ps_ret (pe_callB (cr_any rfl) (by rfl) T.n_any (by decide +kernel) (pa_cons (pe_lc (own := [("z", 3)]) (g := gName 3) (tt := tYes) rfl sc_Reading__in_a_cycle.nd (pi_list (pe_fld (pv 0) rfl)) (blkOk_by (N := N_Reading__in_a_cycle) (sc := defScope s_Reading__in_a_cycle) (by decide +kernel)) (fun _ _ _ _ _ => pg_name (i := 3) sc_Reading__in_a_cycle.nd rfl (by first | exact Or.inl rfl | exact Or.inr rfl)) (fun _ _ _ _ _ => pts_nil) (fun _ _ _ _ _ => pe_and (pe_cmp (pc_din hu (pe_tup (pa_cons (pv 2) (pa_cons (pv 3) (pa_nil)))) (pe_fld (pv 0) rfl))) (pe_one (pe_cmp (pc_din hu (pe_tup (pa_cons (pv 3) (pa_cons (pv 1) (pa_nil)))) (pe_fld (pv 0) rfl)))))) (pa_nil))))
theorem ok_Reading_pinned (T : TX P K mg) (F_Reading__in_a_cycle : FM P w K mg base 1 (He.ga K "Reading") "_in_a_cycle" ["self", "x", "y"] [] (toSp K (sp_Reading__in_a_cycle K))) (F_Reading_pairs : FM P w K mg base 1 (He.ga K "Reading") "pairs" ["self"] [] (toSp K (sp_Reading_pairs K)))
    (len : ∀ ds O k x, sp_Reading_pinned K ds O k x → ds.length = 1)
    (walk : ∀ W ds O k x, sp_Reading_pinned K ds O k x → (∀ p ∈ O, p.loc = false) → wpS K W (fun e _ O' => x e O') (t_Reading_pinned K W) (startD N_Reading_pinned.length ds) O { nx := fun _ O' => k .non O', rt := k }) : FM P w K mg base 2 (He.ga K "Reading") "pinned" ["self"] [] (toSp K (sp_Reading_pinned K)) := by
  refine fm_of (ts := t_Reading_pinned K) T.F_Reading_pinned T.M_Reading_pinned sc_Reading_pinned len (fun fd F => bindsM F fun _ _ _ _ _ _ us hl => match us, hl with | [_], _ => rfl) (fun cdv A outer s H E hr => ?_) walk
  have hu := hu_of hr
  have hu64 : (A.deeper (envOfC "Reading.pinned" (defScope s_Reading_pinned) s.heap.objs.size (He.ma K (He.ga K "Reading") "pinned") cdv)).units + 64 < cLine := by have := hr.un; omega
  have hu1 : (A.deeper (envOfC "Reading.pinned" (defScope s_Reading_pinned) s.heap.objs.size (He.ma K (He.ga K "Reading") "pinned") cdv)).units < cLine := by have := hr.un; omega
  unfold t_Reading_pinned
  exact pss_one (ps_ret (pe_lc (own := [("x", 1), ("y", 2)]) (g := gTup K 2 (gCons (gName 1) (gCons (gName 2) (gNil)))) (tt := tTru K (tMethA (He.ga K "Reading") "_in_a_cycle" (toSp K (sp_Reading__in_a_cycle K)) [] (fun _ => E0) (tVar 0) (tCons (tVar 1) (tCons (tVar 2) (tNil))))) rfl sc_Reading_pinned.nd (pi_list (pe_meth0A (E := (WE fun cls d _ H => E cls d H)) (pv 0) T.C_Reading F_Reading_pairs (hr.mono (by decide)) (fun σ => passAt (takes_of rfl rfl rfl rfl) σ))) (blkOk_by (N := N_Reading_pinned) (sc := defScope s_Reading_pinned) (by decide +kernel)) (fun _ _ _ _ _ => pg_tup rfl (pgs_cons (pg_name (i := 1) sc_Reading_pinned.nd rfl (by first | exact Or.inl rfl | exact Or.inr rfl)) (pgs_cons (pg_name (i := 2) sc_Reading_pinned.nd rfl (by first | exact Or.inl rfl | exact Or.inr rfl)) (pgs_nil)))) (fun _ _ _ _ _ => pts_one (pt_truth (pe_methA (E := (fun _ => E0)) (pv 0) T.C_Reading F_Reading__in_a_cycle (hr.mono (by decide)) (fun σ => passE σ) (pa_cons (pv 1) (pa_cons (pv 2) (pa_nil)))) (by intro _; rfl))) (fun _ _ _ _ _ => pe_tup (pa_cons (pv 1) (pa_cons (pv 2) (pa_nil))))))
theorem ok__first_wrong_pair (T : TX P K mg)
    (len : ∀ ds O k x, sp__first_wrong_pair K ds O k x → ds.length = 2)
    (walk : ∀ W ds O k x, sp__first_wrong_pair K ds O k x → (∀ p ∈ O, p.loc = false) → wpS K W (fun e _ O' => x e O') (t__first_wrong_pair K W) (startD N__first_wrong_pair.length ds) O { nx := fun _ O' => k .non O', rt := k }) : FE P w K mg base 1 "_first_wrong_pair" ["keys", "pairs"] [] (toSp K (sp__first_wrong_pair K)) := by
  refine fe_of (ts := t__first_wrong_pair K) T.F__first_wrong_pair T.g__first_wrong_pair sc__first_wrong_pair len (fun fd F => binds0 F fun _ _ _ _ _ _ us hl => match us, hl with | [_, _], _ => rfl) (fun cdv A outer s H E hr => ?_) walk
  have hu := hu_of hr
  have hu64 : (A.deeper (envOfC "_first_wrong_pair" (defScope s__first_wrong_pair) s.heap.objs.size (He.ga K "_first_wrong_pair") cdv)).units + 64 < cLine := by have := hr.un; omega
  have hu1 : (A.deeper (envOfC "_first_wrong_pair" (defScope s__first_wrong_pair) s.heap.objs.size (He.ga K "_first_wrong_pair") cdv)).units < cLine := by have := hr.un; omega
  unfold t__first_wrong_pair
  exact pss_cons (ps_for (passes_of rfl) rfl (pi_enum (by rfl) T.n_enumerate (pa_cons (pv 0) (pa_nil))) (pg_tup rfl (pgs_cons (pg_name (i := 2) sc__first_wrong_pair.nd rfl (by first | exact Or.inl rfl | exact Or.inr rfl)) (pgs_cons (pg_name (i := 3) sc__first_wrong_pair.nd rfl (by first | exact Or.inl rfl | exact Or.inr rfl)) (pgs_nil)))) (pss_cons (ps_if (pt_cmp (pc_din hu (pe_tup (pa_cons (pv 3) (pa_cons (pv 3) (pa_nil)))) (pv 1))) (pss_one (ps_ret (pe_tup (pa_cons (pv 3) (pa_cons (pv 3) (pa_nil)))))) (pss_nil))
      (pss_one (ps_for (passes_of rfl) rfl (pi_list (pe_slice sl_list (pv 0) (po_some (pe_op opA_add (pv 2) (pe_int))) (po_none))) (pg_name (i := 4) sc__first_wrong_pair.nd rfl (by first | exact Or.inl rfl | exact Or.inr rfl)) (pss_one (ps_if (pt_cmpR (opA_eq hu64) (pe_cmp (pc_din hu (pe_tup (pa_cons (pv 3) (pa_cons (pv 4) (pa_nil)))) (pv 1))) (pe_cmp (pc_din hu (pe_tup (pa_cons (pv 4) (pa_cons (pv 3) (pa_nil)))) (pv 1))) (nomark _)) (pss_one (ps_ret (pe_tup (pa_cons (pv 3) (pa_cons (pv 4) (pa_nil)))))) (pss_nil)))))))
      (pss_one (ps_ret (pe_non)))
theorem ok_Reading___init__ (T : TX P K mg) (F__first_wrong_pair : FE P w K mg base 1 "_first_wrong_pair" ["keys", "pairs"] [] (toSp K (sp__first_wrong_pair K))) (F_check_list : FE P w K mg base 2 "check_list" ["order"] [] (toSp K (sp_check_list K))) (F_require_key : FE P w K mg base 2 "require_key" ["keys", "key"] [] (toSp K (sp_require_key K)))
    (len : ∀ ds O k x, sp_Reading___init__ K ds O k x → ds.length = 3)
    (walk : ∀ W ds O k x, sp_Reading___init__ K ds O k x → (∀ p ∈ O, p.loc = false) → wpS K W (fun e _ O' => x e O') (t_Reading___init__ K W) (startD N_Reading___init__.length ds) O { nx := fun _ O' => k .non O', rt := k }) : FM P w K mg base 3 (He.ga K "Reading") "__init__" ["self", "all_keys", "pairs"] [] (toSp K (sp_Reading___init__ K)) := by
  refine fm_of (ts := t_Reading___init__ K) T.F_Reading___init__ T.M_Reading___init__ sc_Reading___init__ len (fun fd F => bindsM F fun _ _ _ _ _ _ us hl => match us, hl with | [_, _, _], _ => rfl) (fun cdv A outer s H E hr => ?_) walk
  have hu := hu_of hr
  have hu64 : (A.deeper (envOfC "Reading.__init__" (defScope s_Reading___init__) s.heap.objs.size (He.ma K (He.ga K "Reading") "__init__") cdv)).units + 64 < cLine := by have := hr.un; omega
  have hu1 : (A.deeper (envOfC "Reading.__init__" (defScope s_Reading___init__) s.heap.objs.size (He.ma K (He.ga K "Reading") "__init__") cdv)).units < cLine := by have := hr.un; omega
  unfold t_Reading___init__
  exact pss_cons (ps_expr (pe_fe (E := (WE fun cls d _ H => E cls d H)) F_check_list (hr.mono (by decide)) (by rfl) (fun σ => passAt (takes_of rfl rfl rfl rfl) σ) (pa_cons (pv 1) (pa_nil))))
      (pss_cons (ps_for (passes_of rfl) rfl (pi_list (pv 2)) (pg_tup rfl (pgs_cons (pg_name (i := 6) sc_Reading___init__.nd rfl (by first | exact Or.inl rfl | exact Or.inr rfl)) (pgs_cons (pg_name (i := 7) sc_Reading___init__.nd rfl (by first | exact Or.inl rfl | exact Or.inr rfl)) (pgs_nil)))) (pss_cons (ps_expr (pe_fe (E := (WE fun cls d _ H => E cls d H)) F_require_key (hr.mono (by decide)) (by rfl) (fun σ => passAt (takes_of rfl rfl rfl rfl) σ) (pa_cons (pv 1) (pa_cons (pv 6) (pa_nil)))))
      (pss_one (ps_expr (pe_fe (E := (WE fun cls d _ H => E cls d H)) F_require_key (hr.mono (by decide)) (by rfl) (fun σ => passAt (takes_of rfl rfl rfl rfl) σ) (pa_cons (pv 1) (pa_cons (pv 7) (pa_nil))))))))
      (pss_cons (ps_set (i := 3) sc_Reading___init__.nd rfl (by first | exact Or.inl rfl | exact Or.inr rfl) (pe_callB callA_sorted (by rfl) T.n_sorted (by decide +kernel) (pa_cons (pv 1) (pa_nil))))
      (pss_cons (ps_setDcG (i := 4) (own := [("x", 6), ("y", 7)]) (g := gTup K 2 (gCons (gName 6) (gCons (gName 7) (gNil)))) (tt := tYes)  (dkind_T hu1) rfl sc_Reading___init__.nd rfl rfl (sw_trueD rfl rfl rfl (by decide +kernel)) (pi_list (pv 2)) (blkOk_by (N := N_Reading___init__) (sc := defScope s_Reading___init__) (by decide +kernel)) (fun _ _ _ _ _ => pg_tup rfl (pgs_cons (pg_name (i := 6) sc_Reading___init__.nd rfl (by first | exact Or.inl rfl | exact Or.inr rfl)) (pgs_cons (pg_name (i := 7) sc_Reading___init__.nd rfl (by first | exact Or.inl rfl | exact Or.inr rfl)) (pgs_nil)))) (fun _ _ _ _ _ => pts_nil) (fun _ _ _ _ _ => pe_tup (pa_cons (pv 6) (pa_cons (pv 7) (pa_nil)))) (fun _ _ _ _ _ => pe_bl))
      (pss_cons (ps_set (i := 5) sc_Reading___init__.nd rfl (by first | exact Or.inl rfl | exact Or.inr rfl) (pe_fe (E := (WE fun cls d _ H => E cls d H)) F__first_wrong_pair (hr.mono (by decide)) (by rfl) (fun σ => passAt (takes_of rfl rfl rfl rfl) σ) (pa_cons (pv 3) (pa_cons (pv 4) (pa_nil)))))
      (pss_cons (ps_if (pt_cmpR opA_notN (pv 5) (pe_non) (nomark _)) (pss_one (ps_raiseX (okV := fmtI) (W := fun cls d _ H => E cls d H) rfl (takes_of rfl rfl rfl rfl) T.tx_InvalidReading T.g_InvalidReading T.x_InvalidReading.kp T.x_InvalidReading.sb T.x_InvalidReading.ty T.n_super (fun v u h r => L2.msg_3 (a := "the pair ") (b := " must be given in exactly one order") rfl (by decide) (by decide) v u h r) hr (pa_cons (pv 5) (pa_nil)) rfl)) (pss_nil))
      (pss_cons (ps_fld (pv 0) (pv 3) rfl)
      (pss_one (ps_fld (pv 0) (pv 4) rfl))))))))
theorem ok_read (T : TX P K mg) (F_Reading___init__ : FM P w K mg base 3 (He.ga K "Reading") "__init__" ["self", "all_keys", "pairs"] [] (toSp K (sp_Reading___init__ K))) (F_State_all_keys : FM P w K mg base 1 (He.ga K "State") "all_keys" ["self"] [] (toSp K (sp_State_all_keys K))) (F_State_lists : FM P w K mg base 1 (He.ga K "State") "lists" ["self"] [] (toSp K (sp_State_lists K))) (F_index_of : FE P w K mg base 1 "index_of" ["order"] [] (toSp K (sp_index_of K)))
    (len : ∀ ds O k x, sp_read K ds O k x → ds.length = 1)
    (walk : ∀ W ds O k x, sp_read K ds O k x → (∀ p ∈ O, p.loc = false) → wpS K W (fun e _ O' => x e O') (t_read K W) (startD N_read.length ds) O { nx := fun _ O' => k .non O', rt := k }) : FE P w K mg base 5 "read" ["state"] [] (toSp K (sp_read K)) := by
  refine fe_of (ts := t_read K) T.F_read T.g_read sc_read len (fun fd F => binds0 F fun _ _ _ _ _ _ us hl => match us, hl with | [_], _ => rfl) (fun cdv A outer s H E hr => ?_) walk
  have hu := hu_of hr
  have hu64 : (A.deeper (envOfC "read" (defScope s_read) s.heap.objs.size (He.ga K "read") cdv)).units + 64 < cLine := by have := hr.un; omega
  have hu1 : (A.deeper (envOfC "read" (defScope s_read) s.heap.objs.size (He.ga K "read") cdv)).units < cLine := by have := hr.un; omega
  unfold t_read
  exact pss_cons (ps_set (i := 1) sc_read.nd rfl (by first | exact Or.inl rfl | exact Or.inr rfl) (pe_lc (own := [("order", 4)]) (g := gName 4) (tt := tYes) rfl sc_read.nd (pi_list (pe_meth0A (E := (WE fun cls d _ H => E cls d H)) (pv 0) T.C_State F_State_lists (hr.mono (by decide)) (fun σ => passAt (takes_of rfl rfl rfl rfl) σ))) (blkOk_by (N := N_read) (sc := defScope s_read) (by decide +kernel)) (fun _ _ _ _ _ => pg_name (i := 4) sc_read.nd rfl (by first | exact Or.inl rfl | exact Or.inr rfl)) (fun _ _ _ _ _ => pts_nil) (fun _ _ _ _ _ => pe_fe (E := (fun _ => E0)) F_index_of (hr.mono (by decide)) (by rfl) (fun σ => passE σ) (pa_cons (pv 4) (pa_nil)))))
      (pss_cons (ps_set (i := 2) sc_read.nd rfl (by first | exact Or.inl rfl | exact Or.inr rfl) (pe_meth0A (E := (WE fun cls d _ H => E cls d H)) (pv 0) T.C_State F_State_all_keys (hr.mono (by decide)) (fun σ => passAt (takes_of rfl rfl rfl rfl) σ)))
      (pss_cons (ps_setLc2 (i := 3) (own := [("x", 5), ("y", 6)]) (vs1 := [6]) (g := gName 5) (tt := tYes) (g1 := gName 6) (tt1 := tTest (tOp rGeA (tCB (rLenA K) (tCons (tLc (iList K (tVar 1)) (gName 7) (tTest (tOp rLtA (tDGet (tVar 7) (tVar 5)) (tDGet (tVar 7) (tVar 6)))) (tVar 7) [7]) (tNil))) (tC (.int 2)))) rfl sc_read.nd rfl rfl (sw_true rfl rfl rfl (by decide +kernel)) (pi_list (pv 2)) (blkOk_by (N := N_read) (sc := defScope s_read) (by decide +kernel)) (by decide) (fun _ _ _ _ _ => pg_name (i := 5) sc_read.nd rfl (by first | exact Or.inl rfl | exact Or.inr rfl)) (fun _ _ _ _ _ => pts_nil) (fun _ _ _ _ _ => pi_list (pv 2)) (fun _ _ _ _ _ => pg_name (i := 6) sc_read.nd rfl (by first | exact Or.inl rfl | exact Or.inr rfl)) (fun _ _ _ _ _ => pts_one (pt_cmpR opA_ge (pe_callB callA_len (by rfl) T.n_len (by decide +kernel) (pa_cons (pe_lc (own := [("place", 7)]) (g := gName 7) (tt := tTest (tOp rLtA (tDGet (tVar 7) (tVar 5)) (tDGet (tVar 7) (tVar 6)))) rfl sc_read.nd (pi_list (pv 1)) (blkOk_in (N := N_read) (sc0 := defScope s_read) rfl (by decide +kernel)) (fun _ _ _ _ _ => pg_name (i := 7) sc_read.nd rfl (by first | exact Or.inl rfl | exact Or.inr rfl)) (fun _ _ _ _ _ => pts_one (pt_cmpR opA_lt (pe_dget hu (pv 7) (pv 5) (fun _ _ => rfl)) (pe_dget hu (pv 7) (pv 6) (fun _ _ => rfl)) (nomark _))) (fun _ _ _ _ _ => pv 7)) (pa_nil))) (pe_int) (nomark _))) (fun _ _ _ _ _ => pe_tup (pa_cons (pv 5) (pa_cons (pv 6) (pa_nil)))))
      (pss_one (ps_ret (pe_makeA (E := (WE fun cls d _ H => E cls d H)) T.mk_Reading F_Reading___init__ (hr.mono (by decide)) (by rfl) T.g_Reading (fun σ => passAt (takes_of rfl rfl rfl rfl) σ) (pa_cons (pv 2) (pa_cons (pv 3) (pa_nil))))))))
theorem ok_dealing (T : TX P K mg) (F_Reading_pinned : FM P w K mg base 2 (He.ga K "Reading") "pinned" ["self"] [] (toSp K (sp_Reading_pinned K))) (F_dissenter : FE P w K mg base 4 "dissenter" ["state", "x", "y"] [] (toSp K (sp_dissenter K))) (F_read : FE P w K mg base 5 "read" ["state"] [] (toSp K (sp_read K)))
    (len : ∀ ds O k x, sp_dealing K ds O k x → ds.length = 1)
    (walk : ∀ W ds O k x, sp_dealing K ds O k x → (∀ p ∈ O, p.loc = false) → wpS K W (fun e _ O' => x e O') (t_dealing K W) (startD N_dealing.length ds) O { nx := fun _ O' => k .non O', rt := k }) : FE P w K mg base 6 "dealing" ["state"] [] (toSp K (sp_dealing K)) := by
  refine fe_of (ts := t_dealing K) T.F_dealing T.g_dealing sc_dealing len (fun fd F => binds0 F fun _ _ _ _ _ _ us hl => match us, hl with | [_], _ => rfl) (fun cdv A outer s H E hr => ?_) walk
  have hu := hu_of hr
  have hu64 : (A.deeper (envOfC "dealing" (defScope s_dealing) s.heap.objs.size (He.ga K "dealing") cdv)).units + 64 < cLine := by have := hr.un; omega
  have hu1 : (A.deeper (envOfC "dealing" (defScope s_dealing) s.heap.objs.size (He.ga K "dealing") cdv)).units < cLine := by have := hr.un; omega
  unfold t_dealing
  exact pss_one (ps_ret (pe_lc (own := [("x", 1), ("y", 2)]) (g := gTup K 2 (gCons (gName 1) (gCons (gName 2) (gNil)))) (tt := tYes) rfl sc_dealing.nd (pi_list (pe_meth0A (E := (WE fun cls d _ H => E cls d H)) (pe_fe (E := (WE fun cls d _ H => E cls d H)) F_read (hr.mono (by decide)) (by rfl) (fun σ => passAt (takes_of rfl rfl rfl rfl) σ) (pa_cons (pv 0) (pa_nil))) T.C_Reading F_Reading_pinned (hr.mono (by decide)) (fun σ => passAt (takes_of rfl rfl rfl rfl) σ))) (blkOk_by (N := N_dealing) (sc := defScope s_dealing) (by decide +kernel)) (fun _ _ _ _ _ => pg_tup rfl (pgs_cons (pg_name (i := 1) sc_dealing.nd rfl (by first | exact Or.inl rfl | exact Or.inr rfl)) (pgs_cons (pg_name (i := 2) sc_dealing.nd rfl (by first | exact Or.inl rfl | exact Or.inr rfl)) (pgs_nil)))) (fun _ _ _ _ _ => pts_nil) (fun _ _ _ _ _ => pe_tup (pa_cons (pv 1) (pa_cons (pv 2) (pa_cons (pe_fe (E := (fun _ => E0)) F_dissenter (hr.mono (by decide)) (by rfl) (fun σ => passE σ) (pa_cons (pv 0) (pa_cons (pv 1) (pa_cons (pv 2) (pa_nil))))) (pa_nil)))))))
theorem ok__law_deep_holds (T : TX P K mg) (F_Reading_pairs : FM P w K mg base 1 (He.ga K "Reading") "pairs" ["self"] [] (toSp K (sp_Reading_pairs K))) (F_State_with_list : FM P w K mg base 5 (He.ga K "State") "with_list" ["self", "replica", "order"] [] (toSp K (sp_State_with_list K))) (F__law_is_tuples : FE P w K mg base 4 "_law_is_tuples" ["_law_actual", "_law_due"] [] (toSp K (sp__law_is_tuples_v2 K))) (F__law_reading : FE P w K mg base 2 "_law_reading" ["_law_lists_here"] [] (toSp K (sp__law_reading K))) (F__law_swapped : FE P w K mg base 1 "_law_swapped" ["_law_lists_here", "_law_swap"] [] (toSp K (sp__law_swapped_v2 K))) (F_dealing : FE P w K mg base 6 "dealing" ["state"] [] (toSp K (sp_dealing K))) (F_read : FE P w K mg base 5 "read" ["state"] [] (toSp K (sp_read K)))
    (len : ∀ ds O k x, sp__law_deep_holds K ds O k x → ds.length = 5)
    (walk : ∀ W ds O k x, sp__law_deep_holds K ds O k x → (∀ p ∈ O, p.loc = false) → wpS K W (fun e _ O' => x e O') (t__law_deep_holds K W) (startD N__law_deep_holds.length ds) O { nx := fun _ O' => k .non O', rt := k }) : FE P w K mg base 7 "_law_deep_holds" ["_law_state", "_law_lists_here", "_law_swap", "_law_silent_here", "_law_shares_here"] [] (toSp K (sp__law_deep_holds K)) := by
  refine fe_of (ts := t__law_deep_holds K) T.F__law_deep_holds T.g__law_deep_holds sc__law_deep_holds len (fun fd F => binds0 F fun _ _ _ _ _ _ us hl => match us, hl with | [_, _, _, _, _], _ => rfl) (fun cdv A outer s H E hr => ?_) walk
  have hu := hu_of hr
  have hu64 : (A.deeper (envOfC "_law_deep_holds" (defScope s__law_deep_holds) s.heap.objs.size (He.ga K "_law_deep_holds") cdv)).units + 64 < cLine := by have := hr.un; omega
  have hu1 : (A.deeper (envOfC "_law_deep_holds" (defScope s__law_deep_holds) s.heap.objs.size (He.ga K "_law_deep_holds") cdv)).units < cLine := by have := hr.un; omega
  unfold t__law_deep_holds
  exact pss_cons (ps_set (i := 5) sc__law_deep_holds.nd rfl (by first | exact Or.inl rfl | exact Or.inr rfl) (pe_fe (E := (WE fun cls d _ H => E cls d H)) F__law_swapped (hr.mono (by decide)) (by rfl) (fun σ => passAt (takes_of rfl rfl rfl rfl) σ) (pa_cons (pv 1) (pa_cons (pv 2) (pa_nil)))))
      (pss_cons (ps_set (i := 6) sc__law_deep_holds.nd rfl (by first | exact Or.inl rfl | exact Or.inr rfl) (pe_methA (E := (WE fun cls d _ H => E cls d H)) (pv 0) T.C_State F_State_with_list (hr.mono (by decide)) (fun σ => passAt (takes_of rfl rfl rfl rfl) σ) (pa_cons (pe_ix ix_lt (pv 2) (pe_int) (fun _ _ => rfl)) (pa_cons (pe_callTy callA_list (by rfl) T.n_list (by decide +kernel) (pa_cons (pe_ix ix_lt (pv 5) (pe_ix ix_lt (pv 2) (pe_int) (fun _ _ => rfl)) (fun _ _ => rfl)) (pa_nil))) (pa_nil)))))
      (pss_cons (ps_if (pt_not (pt_truth (pe_fe (E := (WE fun cls d _ H => E cls d H)) F__law_is_tuples (hr.mono (by decide)) (by rfl) (fun σ => passAt (takes_of rfl rfl rfl rfl) σ) (pa_cons (pe_meth0A (E := (WE fun cls d _ H => E cls d H)) (pe_fe (E := (WE fun cls d _ H => E cls d H)) F_read (hr.mono (by decide)) (by rfl) (fun σ => passAt (takes_of rfl rfl rfl rfl) σ) (pa_cons (pv 6) (pa_nil))) T.C_Reading F_Reading_pairs (hr.mono (by decide)) (fun σ => passAt (takes_of rfl rfl rfl rfl) σ)) (pa_cons (pe_fe (E := (WE fun cls d _ H => E cls d H)) F__law_reading (hr.mono (by decide)) (by rfl) (fun σ => passAt (takes_of rfl rfl rfl rfl) σ) (pa_cons (pv 5) (pa_nil))) (pa_nil)))) (by intro _; rfl))) (pss_one (ps_ret (pe_bl))) (pss_nil))
      (pss_one (ps_ret (pe_or (pe_not (pv 3)) (pe_one (pe_fe (E := (WE fun cls d _ H => E cls d H)) F__law_is_tuples (hr.mono (by decide)) (by rfl) (fun σ => passAt (takes_of rfl rfl rfl rfl) σ) (pa_cons (pe_fe (E := (WE fun cls d _ H => E cls d H)) F_dealing (hr.mono (by decide)) (by rfl) (fun σ => passAt (takes_of rfl rfl rfl rfl) σ) (pa_cons (pv 6) (pa_nil))) (pa_cons (pv 4) (pa_nil))))))))))
theorem ok__law_is_tuples_own (T : TX P K mg) (F__law_is_tuple : FE P w K mg base 3 "_law_is_tuple" ["_law_actual", "_law_due"] [] (toSp K (sp__law_is_tuple_v2 K)))
    (len : ∀ ds O k x, sp__law_is_tuples_own K ds O k x → ds.length = 2)
    (walk : ∀ W ds O k x, sp__law_is_tuples_own K ds O k x → (∀ p ∈ O, p.loc = false) → wpS K W (fun e _ O' => x e O') (t__law_is_tuples_own K W) (startD N__law_is_tuples_own.length ds) O { nx := fun _ O' => k .non O', rt := k }) : FE P w K mg base 4 "_law_is_tuples" ["_law_actual", "_law_due"] [] (toSp K (sp__law_is_tuples_own K)) := by
  refine fe_of (ts := t__law_is_tuples_own K) T.F__law_is_tuples_own T.g__law_is_tuples_own sc__law_is_tuples_own len (fun fd F => binds0 F fun _ _ _ _ _ _ us hl => match us, hl with | [_, _], _ => rfl) (fun cdv A outer s H E hr => ?_) walk
  have hu := hu_of hr
  have hu64 : (A.deeper (envOfC "_law_is_tuples" (defScope s__law_is_tuples_own) s.heap.objs.size (He.ga K "_law_is_tuples") cdv)).units + 64 < cLine := by have := hr.un; omega
  have hu1 : (A.deeper (envOfC "_law_is_tuples" (defScope s__law_is_tuples_own) s.heap.objs.size (He.ga K "_law_is_tuples") cdv)).units < cLine := by have := hr.un; omega
  unfold t__law_is_tuples_own
  exact pss_cons (ps_if (PW.pt (pw_or (pt_not (pt_truth (pe_callB call_isi (by rfl) T.n_isinstance (by decide +kernel) (pa_cons (pv 0) (pa_cons (pe_bltn (v := .ty "list") (by rfl) T.n_list (by decide +kernel) rfl) (pa_nil)))) (by intro _; rfl))) (pw_or1 (pt_cmpR (opA_ne hu64) (pe_callB callA_len (by rfl) T.n_len (by decide +kernel) (pa_cons (pv 0) (pa_nil))) (pe_callB callA_len (by rfl) T.n_len (by decide +kernel) (pa_cons (pv 1) (pa_nil))) (nomark _))))) (pss_one (ps_ret (pe_bl))) (pss_nil))
      (pss_cons (ps_for (passes_of rfl) rfl (pi_range1 (by rfl) T.n_range (pa_cons (pe_callB callA_len (by rfl) T.n_len (by decide +kernel) (pa_cons (pv 1) (pa_nil))) (pa_nil))) (pg_name (i := 2) sc__law_is_tuples_own.nd rfl (by first | exact Or.inl rfl | exact Or.inr rfl)) (pss_one (ps_if (pt_not (pt_truth (pe_fe (E := (WE fun cls d _ H => E cls d H)) F__law_is_tuple (hr.mono (by decide)) (by rfl) (fun σ => passAt (takes_of rfl rfl rfl rfl) σ) (pa_cons (pe_ix ix_lt (pv 0) (pv 2) (fun _ _ => rfl)) (pa_cons (pe_ix ix_lt (pv 1) (pv 2) (fun _ _ => rfl)) (pa_nil)))) (by intro _; rfl))) (pss_one (ps_ret (pe_bl))) (pss_nil))))
      (pss_one (ps_ret (pe_bl))))
theorem ok__law_shares (T : TX P K mg) (F__law_reading : FE P w K mg base 2 "_law_reading" ["_law_lists_here"] [] (toSp K (sp__law_reading K))) (F__law_words : FE P w K mg base 1 "_law_words" ["_law_order_here"] [] (toSp K (sp__law_words K)))
    (len : ∀ ds O k x, sp__law_shares K ds O k x → ds.length = 1)
    (walk : ∀ W ds O k x, sp__law_shares K ds O k x → (∀ p ∈ O, p.loc = false) → wpS K W (fun e _ O' => x e O') (t__law_shares K W) (startD N__law_shares.length ds) O { nx := fun _ O' => k .non O', rt := k }) : FE P w K mg base 3 "_law_shares" ["_law_lists_here"] [] (toSp K (sp__law_shares K)) := by
  refine fe_of (ts := t__law_shares K) T.F__law_shares T.g__law_shares sc__law_shares len (fun fd F => binds0 F fun _ _ _ _ _ _ us hl => match us, hl with | [_], _ => rfl) (fun cdv A outer s H E hr => ?_) walk
  have hu := hu_of hr
  have hu64 : (A.deeper (envOfC "_law_shares" (defScope s__law_shares) s.heap.objs.size (He.ga K "_law_shares") cdv)).units + 64 < cLine := by have := hr.un; omega
  have hu1 : (A.deeper (envOfC "_law_shares" (defScope s__law_shares) s.heap.objs.size (He.ga K "_law_shares") cdv)).units < cLine := by have := hr.un; omega
  unfold t__law_shares
  exact pss_cons (ps_setLc (i := 1) (own := [("_law_order_here", 8)]) (g := gName 8) (tt := tYes) rfl sc__law_shares.nd rfl rfl (sw_true rfl rfl rfl (by decide +kernel)) (pi_list (pv 0)) (blkOk_by (N := N__law_shares) (sc := defScope s__law_shares) (by decide +kernel)) (fun _ _ _ _ _ => pg_name (i := 8) sc__law_shares.nd rfl (by first | exact Or.inl rfl | exact Or.inr rfl)) (fun _ _ _ _ _ => pts_nil) (fun _ _ _ _ _ => pe_fe (E := (fun _ => E0)) F__law_words (hr.mono (by decide)) (by rfl) (fun σ => passE σ) (pa_cons (pv 8) (pa_nil))))
      (pss_cons (ps_set (i := 2) sc__law_shares.nd rfl (by first | exact Or.inl rfl | exact Or.inr rfl) (pe_fe (E := (WE fun cls d _ H => E cls d H)) F__law_reading (hr.mono (by decide)) (by rfl) (fun σ => passAt (takes_of rfl rfl rfl rfl) σ) (pa_cons (pv 0) (pa_nil))))
      (pss_cons (ps_set (i := 3) sc__law_shares.nd rfl (by first | exact Or.inl rfl | exact Or.inr rfl) (pe_dnewT))
      (pss_cons (ps_for (passes_of rfl) rfl (pi_list (pv 2)) (pg_name (i := 4) sc__law_shares.nd rfl (by first | exact Or.inl rfl | exact Or.inr rfl)) (pss_one (ps_dput hu (pv 3) (pv 4) (pe_bl) rfl)))
      (pss_cons (ps_set (i := 5) sc__law_shares.nd rfl (by first | exact Or.inl rfl | exact Or.inr rfl) (pe_lst (pa_nil)))
      (pss_cons (ps_for (passes_of rfl) rfl (pi_list (pv 2)) (pg_name (i := 4) sc__law_shares.nd rfl (by first | exact Or.inl rfl | exact Or.inr rfl)) (pss_cons (ps_setLc (i := 6) (own := [("_law_z", 9)]) (g := gName 9) (tt := tAnd (tB (tDIn (tTup (tCons (tOp (rIxLT K) (tVar 4) (tC (.int 1))) (tCons (tVar 9) (tNil)))) (tVar 3))) (tB (tDIn (tTup (tCons (tVar 9) (tCons (tOp (rIxLT K) (tVar 4) (tC (.int 0))) (tNil)))) (tVar 3)))) rfl sc__law_shares.nd rfl rfl (sw_true rfl rfl rfl (by decide +kernel)) (pi_list (pe_ix ix_lt (pv 0) (pe_int) (fun _ _ => rfl))) (blkOk_by (N := N__law_shares) (sc := defScope s__law_shares) (by decide +kernel)) (fun _ _ _ _ _ => pg_name (i := 9) sc__law_shares.nd rfl (by first | exact Or.inl rfl | exact Or.inr rfl)) (fun _ _ _ _ _ => pts_one (PW.pt (pw_and (pt_cmp (pc_din hu (pe_tup (pa_cons (pe_ix ix_lt (pv 4) (pe_int) (fun _ _ => rfl)) (pa_cons (pv 9) (pa_nil)))) (pv 3))) (pw_and1 (pt_cmp (pc_din hu (pe_tup (pa_cons (pv 9) (pa_cons (pe_ix ix_lt (pv 4) (pe_int) (fun _ _ => rfl)) (pa_nil)))) (pv 3))))))) (fun _ _ _ _ _ => pv 9))
      (pss_one (ps_for (passes_of rfl) rfl (pi_range1 (by rfl) T.n_range (pa_cons (pe_int) (pa_nil))) (pg_name (i := 7) sc__law_shares.nd rfl (by first | exact Or.inl rfl | exact Or.inr rfl)) (pss_one (ps_if (PW.pt (pw_and (pt_truth (pv 6) (by intro _; rfl)) (pw_and1 (pt_cmp (pc_dnotin hu (pv 4) (pe_ix ix_lt (pv 1) (pv 7) (fun _ _ => rfl))))))) (pss_one (ps_expr (pe_bm PySem.F.plainAttrs_list PySem.F.slot_list_append PySem.F.type_list_append mt_append (pv 5) (pa_cons (pe_tup (pa_cons (pe_ix ix_lt (pv 4) (pe_int) (fun _ _ => rfl)) (pa_cons (pe_ix ix_lt (pv 4) (pe_int) (fun _ _ => rfl)) (pa_cons (pv 7) (pa_nil))))) (pa_nil))))) (pss_nil)))))))
      (pss_one (ps_ret (pv 5))))))))
theorem ok_State_lists_own (T : TX P K mg)
    (len : ∀ ds O k x, sp_State_lists_own K ds O k x → ds.length = 1)
    (walk : ∀ W ds O k x, sp_State_lists_own K ds O k x → (∀ p ∈ O, p.loc = false) → wpS K W (fun e _ O' => x e O') (t_State_lists_own K W) (startD N_State_lists_own.length ds) O { nx := fun _ O' => k .non O', rt := k }) : FM P w K mg base 1 (He.ga K "State") "lists" ["self"] [] (toSp K (sp_State_lists_own K)) := by
  refine fm_of (ts := t_State_lists_own K) T.F_State_lists_own T.M_State_lists_own sc_State_lists_own len (fun fd F => bindsM F fun _ _ _ _ _ _ us hl => match us, hl with | [_], _ => rfl) (fun cdv A outer s H E hr => ?_) walk
  have hu := hu_of hr
  have hu64 : (A.deeper (envOfC "State.lists" (defScope s_State_lists_own) s.heap.objs.size (He.ma K (He.ga K "State") "lists") cdv)).units + 64 < cLine := by have := hr.un; omega
  have hu1 : (A.deeper (envOfC "State.lists" (defScope s_State_lists_own) s.heap.objs.size (He.ma K (He.ga K "State") "lists") cdv)).units < cLine := by have := hr.un; omega
  unfold t_State_lists_own
  exact pss_one (ps_ret (pe_lc (own := [("order", 1)]) (g := gName 1) (tt := tYes) rfl sc_State_lists_own.nd (pi_list (pe_fld (pv 0) rfl)) (blkOk_by (N := N_State_lists_own) (sc := defScope s_State_lists_own) (by decide +kernel)) (fun _ _ _ _ _ => pg_name (i := 1) sc_State_lists_own.nd rfl (by first | exact Or.inl rfl | exact Or.inr rfl)) (fun _ _ _ _ _ => pts_nil) (fun _ _ _ _ _ => pe_callTy callA_list (by rfl) T.n_list (by decide +kernel) (pa_cons (pv 1) (pa_nil)))))
theorem ok__law_is_truth (T : TX P K mg)
    (len : ∀ ds O k x, sp__law_is_truth_v2 K ds O k x → ds.length = 2)
    (walk : ∀ W ds O k x, sp__law_is_truth_v2 K ds O k x → (∀ p ∈ O, p.loc = false) → wpS K W (fun e _ O' => x e O') (t__law_is_truth_v2 K W) (startD N__law_is_truth_v2.length ds) O { nx := fun _ O' => k .non O', rt := k }) : FE P w K mg base 1 "_law_is_truth" ["_law_actual", "_law_due"] [] (toSp K (sp__law_is_truth_v2 K)) := by
  refine fe_of (ts := t__law_is_truth_v2 K) T.F__law_is_truth T.g__law_is_truth sc__law_is_truth len (fun fd F => binds0 F fun _ _ _ _ _ _ us hl => match us, hl with | [_, _], _ => rfl) (fun cdv A outer s H E hr => ?_) walk
  have hu := hu_of hr
  have hu64 : (A.deeper (envOfC "_law_is_truth" (defScope s__law_is_truth) s.heap.objs.size (He.ga K "_law_is_truth") cdv)).units + 64 < cLine := by have := hr.un; omega
  have hu1 : (A.deeper (envOfC "_law_is_truth" (defScope s__law_is_truth) s.heap.objs.size (He.ga K "_law_is_truth") cdv)).units < cLine := by have := hr.un; omega
  unfold t__law_is_truth_v2
  exact pss_one (ps_ret (pe_and (pe_callB call_isi (by rfl) T.n_isinstance (by decide +kernel) (pa_cons (pv 0) (pa_cons (pe_bltn (v := .ty "bool") (by rfl) T.n_bool (by decide +kernel) rfl) (pa_nil)))) (pe_one (pe_cmpR (opA_eq hu64) (pv 0) (pv 1) (nomark _)))))
theorem ok__law_swap_holds (T : TX P K mg) (F_State_lists_own : FM P w K mg base 1 (He.ga K "State") "lists" ["self"] [] (toSp K (sp_State_lists_own K))) (F__law_is_number : FE P w K mg base 1 "_law_is_number" ["_law_actual", "_law_due"] [] (toSp K (sp__law_is_number_v2 K))) (F__law_is_state : FE P w K mg base 3 "_law_is_state" ["_law_actual", "_law_due"] [] (toSp K (sp__law_is_state_v2 K))) (F__law_is_truth : FE P w K mg base 1 "_law_is_truth" ["_law_actual", "_law_due"] [] (toSp K (sp__law_is_truth_v2 K))) (F__law_is_tuple : FE P w K mg base 3 "_law_is_tuple" ["_law_actual", "_law_due"] [] (toSp K (sp__law_is_tuple_v2 K))) (F__law_refused : FE P w K mg base 2 "_law_refused" ["_law_answer", "_law_word"] [] (toSp K (sp__law_refused_v4 K))) (F__law_swapped : FE P w K mg base 1 "_law_swapped" ["_law_lists_here", "_law_swap"] [] (toSp K (sp__law_swapped_v2 K))) (F__law_tried : FE P w K mg base 9 "_law_tried" ["_law_state", "_law_swap", "_law_way"] [] (toSp K (sp__law_tried_v3 K))) (F_barred_by : FE P w K mg base 6 "barred_by" ["state", "swap"] [] (toSp K (sp_barred_by K))) (F_is_silent : FE P w K mg base 5 "is_silent" ["state", "swap"] [] (toSp K (sp_is_silent K))) (F_swap_pair : FE P w K mg base 4 "swap_pair" ["state", "swap"] [] (toSp K (sp_swap_pair K)))
    (len : ∀ ds O k x, sp__law_swap_holds K ds O k x → ds.length = 5)
    (walk : ∀ W ds O k x, sp__law_swap_holds K ds O k x → (∀ p ∈ O, p.loc = false) → wpS K W (fun e _ O' => x e O') (t__law_swap_holds K W) (startD N__law_swap_holds.length ds) O { nx := fun _ O' => k .non O', rt := k }) : FE P w K mg base 10 "_law_swap_holds" ["_law_state", "_law_lists_here", "_law_swap", "_law_silent_here", "_law_said"] [] (toSp K (sp__law_swap_holds K)) := by
  refine fe_of (ts := t__law_swap_holds K) T.F__law_swap_holds T.g__law_swap_holds sc__law_swap_holds len (fun fd F => binds0 F fun _ _ _ _ _ _ us hl => match us, hl with | [_, _, _, _, _], _ => rfl) (fun cdv A outer s H E hr => ?_) walk
  have hu := hu_of hr
  have hu64 : (A.deeper (envOfC "_law_swap_holds" (defScope s__law_swap_holds) s.heap.objs.size (He.ga K "_law_swap_holds") cdv)).units + 64 < cLine := by have := hr.un; omega
  have hu1 : (A.deeper (envOfC "_law_swap_holds" (defScope s__law_swap_holds) s.heap.objs.size (He.ga K "_law_swap_holds") cdv)).units < cLine := by have := hr.un; omega
  unfold t__law_swap_holds
  exact pss_cons (ps_set (i := 5) sc__law_swap_holds.nd rfl (by first | exact Or.inl rfl | exact Or.inr rfl) (pe_ix ix_lt (pe_ix ix_lt (pv 1) (pe_ix ix_lt (pv 2) (pe_int) (fun _ _ => rfl)) (fun _ _ => rfl)) (pe_ix ix_lt (pv 2) (pe_int) (fun _ _ => rfl)) (fun _ _ => rfl)))
      (pss_cons (ps_set (i := 6) sc__law_swap_holds.nd rfl (by first | exact Or.inl rfl | exact Or.inr rfl) (pe_ix ix_lt (pe_ix ix_lt (pv 1) (pe_ix ix_lt (pv 2) (pe_int) (fun _ _ => rfl)) (fun _ _ => rfl)) (pe_op opA_add (pe_ix ix_lt (pv 2) (pe_int) (fun _ _ => rfl)) (pe_int)) (fun _ _ => rfl)))
      (pss_cons (ps_if (pt_not (pt_truth (pe_fe (E := (WE fun cls d _ H => E cls d H)) F__law_is_tuple (hr.mono (by decide)) (by rfl) (fun σ => passAt (takes_of rfl rfl rfl rfl) σ) (pa_cons (pe_fe (E := (WE fun cls d _ H => E cls d H)) F_swap_pair (hr.mono (by decide)) (by rfl) (fun σ => passAt (takes_of rfl rfl rfl rfl) σ) (pa_cons (pv 0) (pa_cons (pv 2) (pa_nil)))) (pa_cons (pe_tup (pa_cons (pv 5) (pa_cons (pv 6) (pa_nil)))) (pa_nil)))) (by intro _; rfl))) (pss_one (ps_ret (pe_bl))) (pss_nil))
      (pss_cons (ps_if (pt_not (pt_truth (pe_fe (E := (WE fun cls d _ H => E cls d H)) F__law_is_truth (hr.mono (by decide)) (by rfl) (fun σ => passAt (takes_of rfl rfl rfl rfl) σ) (pa_cons (pe_fe (E := (WE fun cls d _ H => E cls d H)) F_is_silent (hr.mono (by decide)) (by rfl) (fun σ => passAt (takes_of rfl rfl rfl rfl) σ) (pa_cons (pv 0) (pa_cons (pv 2) (pa_nil)))) (pa_cons (pv 3) (pa_nil)))) (by intro _; rfl))) (pss_one (ps_ret (pe_bl))) (pss_nil))
      (pss_cons (ps_setLc (i := 7) (own := [("_law_k", 14)]) (g := gName 14) (tt := tTest (tOp (rNeA K) (tVar 14) (tOp (rIxLT K) (tVar 2) (tC (.int 0))))) rfl sc__law_swap_holds.nd rfl rfl (sw_true rfl rfl rfl (by decide +kernel)) (pi_range1 (by rfl) T.n_range (pa_cons (pe_int) (pa_nil))) (blkOk_by (N := N__law_swap_holds) (sc := defScope s__law_swap_holds) (by decide +kernel)) (fun _ _ _ _ _ => pg_name (i := 14) sc__law_swap_holds.nd rfl (by first | exact Or.inl rfl | exact Or.inr rfl)) (fun _ _ _ _ _ => pts_one (pt_cmpR (opA_ne hu64) (pv 14) (pe_ix ix_lt (pv 2) (pe_int) (fun _ _ => rfl)) (nomark _))) (fun _ _ _ _ _ => pv 14))
      (pss_cons (ps_set (i := 8) sc__law_swap_holds.nd rfl (by first | exact Or.inl rfl | exact Or.inr rfl) (pe_cmpR (op_inL hu64) (pe_tup (pa_cons (pv 5) (pa_cons (pv 6) (pa_nil)))) (pv 4) (by rfl)))
      (pss_cons (ps_setLc (i := 9) (own := [("_law_k", 14)]) (g := gName 14) (tt := tTest (tOp (rNeA K) (tOp rLtA (tBM K "list" (rIndex K) (tOp (rIxLT K) (tVar 1) (tVar 14)) (tCons (tVar 5) (tNil))) (tBM K "list" (rIndex K) (tOp (rIxLT K) (tVar 1) (tVar 14)) (tCons (tVar 6) (tNil)))) (tVar 8))) rfl sc__law_swap_holds.nd rfl rfl (sw_true rfl rfl rfl (by decide +kernel)) (pi_list (pv 7)) (blkOk_by (N := N__law_swap_holds) (sc := defScope s__law_swap_holds) (by decide +kernel)) (fun _ _ _ _ _ => pg_name (i := 14) sc__law_swap_holds.nd rfl (by first | exact Or.inl rfl | exact Or.inr rfl)) (fun _ _ _ _ _ => pts_one (pt_cmpR (opA_ne hu64) (pe_cmpR opA_lt (pe_bm PySem.F.plainAttrs_list PySem.F.slot_list_index PySem.F.type_list_index mt_index (pe_ix ix_lt (pv 1) (pv 14) (fun _ _ => rfl)) (pa_cons (pv 5) (pa_nil))) (pe_bm PySem.F.plainAttrs_list PySem.F.slot_list_index PySem.F.type_list_index mt_index (pe_ix ix_lt (pv 1) (pv 14) (fun _ _ => rfl)) (pa_cons (pv 6) (pa_nil))) (nomark _)) (pv 8) (nomark _))) (fun _ _ _ _ _ => pv 14))
      (pss_cons (ps_set (i := 10) sc__law_swap_holds.nd rfl (by first | exact Or.inl rfl | exact Or.inr rfl) (pe_fe (E := (WE fun cls d _ H => E cls d H)) F_barred_by (hr.mono (by decide)) (by rfl) (fun σ => passAt (takes_of rfl rfl rfl rfl) σ) (pa_cons (pv 0) (pa_cons (pv 2) (pa_nil)))))
      (pss_cons (ps_set (i := 11) sc__law_swap_holds.nd rfl (by first | exact Or.inl rfl | exact Or.inr rfl) (pe_fe (E := (WE fun cls d _ H => E cls d H)) F__law_tried (hr.mono (by decide)) (by rfl) (fun σ => passAt (takes_of rfl rfl rfl rfl) σ) (pa_cons (pv 0) (pa_cons (pv 2) (pa_cons (pe_int) (pa_nil))))))
      (pss_cons (ps_if (pt_not (pt_truth (pv 3) (by intro _; rfl))) (pss_one (ps_ret (pe_and (pe_cmpR (opA_eq hu64) (pe_callB callA_len (by rfl) T.n_len (by decide +kernel) (pa_cons (pv 9) (pa_nil))) (pe_int) (nomark _)) (pe_and (pe_fe (E := (WE fun cls d _ H => E cls d H)) F__law_is_number (hr.mono (by decide)) (by rfl) (fun σ => passAt (takes_of rfl rfl rfl rfl) σ) (pa_cons (pv 10) (pa_cons (pe_ix ix_lt (pv 9) (pe_int) (fun _ _ => rfl)) (pa_nil)))) (pe_one (pe_fe (E := (WE fun cls d _ H => E cls d H)) F__law_refused (hr.mono (by decide)) (by rfl) (fun σ => passAt (takes_of rfl rfl rfl rfl) σ) (pa_cons (pv 11) (pa_cons (pe_str) (pa_nil))))))))) (pss_nil))
      (pss_cons (ps_if (PW.pt (pw_or (pt_truth (pv 9) (by intro _; rfl)) (pw_or (pt_cmpR opA_notN (pv 10) (pe_non) (nomark _)) (pw_or1 (pt_cmpR (opA_ne hu64) (pe_ix ix_lt (pv 11) (pe_int) (fun _ _ => rfl)) (pe_str) (nomark _)))))) (pss_one (ps_ret (pe_bl))) (pss_nil))
      (pss_cons (ps_set (i := 12) sc__law_swap_holds.nd rfl (by first | exact Or.inl rfl | exact Or.inr rfl) (pe_fe (E := (WE fun cls d _ H => E cls d H)) F__law_swapped (hr.mono (by decide)) (by rfl) (fun σ => passAt (takes_of rfl rfl rfl rfl) σ) (pa_cons (pv 1) (pa_cons (pv 2) (pa_nil)))))
      (pss_cons (ps_if (pt_not (pt_truth (pe_fe (E := (WE fun cls d _ H => E cls d H)) F__law_is_state (hr.mono (by decide)) (by rfl) (fun σ => passAt (takes_of rfl rfl rfl rfl) σ) (pa_cons (pe_ix ix_lt (pv 11) (pe_int) (fun _ _ => rfl)) (pa_cons (pv 12) (pa_nil)))) (by intro _; rfl))) (pss_one (ps_ret (pe_bl))) (pss_nil))
      (pss_cons (ps_set (i := 13) sc__law_swap_holds.nd rfl (by first | exact Or.inl rfl | exact Or.inr rfl) (pe_meth0A (E := (WE fun cls d _ H => E cls d H)) (pe_ix ix_lt (pv 11) (pe_int) (fun _ _ => rfl)) T.C_State F_State_lists_own (hr.mono (by decide)) (fun σ => passAt (takes_of rfl rfl rfl rfl) σ)))
      (pss_cons (ps_expr (pe_bm0 PySem.F.plainAttrs_list PySem.F.slot_list_reverse PySem.F.type_list_reverse mt_reverse (pe_ix ix_lt (pv 13) (pe_ix ix_lt (pv 2) (pe_int) (fun _ _ => rfl)) (fun _ _ => rfl))))
      (pss_cons (ps_expr (pe_bm PySem.F.plainAttrs_list PySem.F.slot_list_append PySem.F.type_list_append mt_append (pe_ix ix_lt (pv 13) (pe_int) (fun _ _ => rfl)) (pa_cons (pe_int) (pa_nil))))
      (pss_one (ps_ret (pe_and (pe_fe (E := (WE fun cls d _ H => E cls d H)) F__law_is_state (hr.mono (by decide)) (by rfl) (fun σ => passAt (takes_of rfl rfl rfl rfl) σ) (pa_cons (pe_ix ix_lt (pv 11) (pe_int) (fun _ _ => rfl)) (pa_cons (pv 12) (pa_nil)))) (pe_one (pe_fe (E := (WE fun cls d _ H => E cls d H)) F__law_is_state (hr.mono (by decide)) (by rfl) (fun σ => passAt (takes_of rfl rfl rfl rfl) σ) (pa_cons (pv 0) (pa_cons (pv 1) (pa_nil)))))))))))))))))))))))
theorem ok_silent_swaps (T : TX P K mg) (F_State___len__ : FM P w K mg base 1 (He.ga K "State") "__len__" ["self"] [] (toSp K (sp_State___len__ K))) (F_is_silent : FE P w K mg base 5 "is_silent" ["state", "swap"] [] (toSp K (sp_is_silent K)))
    (len : ∀ ds O k x, sp_silent_swaps K ds O k x → ds.length = 1)
    (walk : ∀ W ds O k x, sp_silent_swaps K ds O k x → (∀ p ∈ O, p.loc = false) → wpS K W (fun e _ O' => x e O') (t_silent_swaps K W) (startD N_silent_swaps.length ds) O { nx := fun _ O' => k .non O', rt := k }) : FE P w K mg base 6 "silent_swaps" ["state"] [] (toSp K (sp_silent_swaps K)) := by
  refine fe_of (ts := t_silent_swaps K) T.F_silent_swaps T.g_silent_swaps sc_silent_swaps len (fun fd F => binds0 F fun _ _ _ _ _ _ us hl => match us, hl with | [_], _ => rfl) (fun cdv A outer s H E hr => ?_) walk
  have hu := hu_of hr
  have hu64 : (A.deeper (envOfC "silent_swaps" (defScope s_silent_swaps) s.heap.objs.size (He.ga K "silent_swaps") cdv)).units + 64 < cLine := by have := hr.un; omega
  have hu1 : (A.deeper (envOfC "silent_swaps" (defScope s_silent_swaps) s.heap.objs.size (He.ga K "silent_swaps") cdv)).units < cLine := by have := hr.un; omega
  unfold t_silent_swaps
  exact pss_cons (ps_setLc2 (i := 1) (own := [("replica", 2), ("index", 3)]) (vs1 := [3]) (g := gName 2) (tt := tYes) (g1 := gName 3) (tt1 := tYes) rfl sc_silent_swaps.nd rfl rfl (sw_true rfl rfl rfl (by decide +kernel)) (pi_range1 (by rfl) T.n_range (pa_cons (ClX.pe_cval (pe_glob rfl T.g_State rfl) rfl) (pa_nil))) (blkOk_by (N := N_silent_swaps) (sc := defScope s_silent_swaps) (by decide +kernel)) (by decide) (fun _ _ _ _ _ => pg_name (i := 2) sc_silent_swaps.nd rfl (by first | exact Or.inl rfl | exact Or.inr rfl)) (fun _ _ _ _ _ => pts_nil) (fun _ _ _ _ _ => pi_range1 (by rfl) T.n_range (pa_cons (pe_op opA_sub (pe_callB (call_lenI F_State___len__ (hr.mono (by decide))) (by rfl) T.n_len (by decide +kernel) (pa_cons (pv 0) (pa_nil))) (pe_int)) (pa_nil))) (fun _ _ _ _ _ => pg_name (i := 3) sc_silent_swaps.nd rfl (by first | exact Or.inl rfl | exact Or.inr rfl)) (fun _ _ _ _ _ => pts_nil) (fun _ _ _ _ _ => pe_tup (pa_cons (pv 2) (pa_cons (pv 3) (pa_nil)))))
      (pss_one (ps_ret (pe_lc (own := [("swap", 4)]) (g := gName 4) (tt := tTru K (tCallSD (toSp K (sp_is_silent K)) [] (fun _ => E0) (tCons (tVar 0) (tCons (tVar 4) (tNil))))) rfl sc_silent_swaps.nd (pi_list (pv 1)) (blkOk_by (N := N_silent_swaps) (sc := defScope s_silent_swaps) (by decide +kernel)) (fun _ _ _ _ _ => pg_name (i := 4) sc_silent_swaps.nd rfl (by first | exact Or.inl rfl | exact Or.inr rfl)) (fun _ _ _ _ _ => pts_one (pt_truth (pe_fe (E := (fun _ => E0)) F_is_silent (hr.mono (by decide)) (by rfl) (fun σ => passE σ) (pa_cons (pv 0) (pa_cons (pv 4) (pa_nil)))) (by intro _; rfl))) (fun _ _ _ _ _ => pv 4))))
theorem ok__law_state_holds (T : TX P K mg) (F_Reading_pairs : FM P w K mg base 1 (He.ga K "Reading") "pairs" ["self"] [] (toSp K (sp_Reading_pairs K))) (F__law_deep_holds : FE P w K mg base 7 "_law_deep_holds" ["_law_state", "_law_lists_here", "_law_swap", "_law_silent_here", "_law_shares_here"] [] (toSp K (sp__law_deep_holds K))) (F__law_is_state : FE P w K mg base 3 "_law_is_state" ["_law_actual", "_law_due"] [] (toSp K (sp__law_is_state_v2 K))) (F__law_is_tuples_own : FE P w K mg base 4 "_law_is_tuples" ["_law_actual", "_law_due"] [] (toSp K (sp__law_is_tuples_own K))) (F__law_reading : FE P w K mg base 2 "_law_reading" ["_law_lists_here"] [] (toSp K (sp__law_reading K))) (F__law_shares : FE P w K mg base 3 "_law_shares" ["_law_lists_here"] [] (toSp K (sp__law_shares K))) (F__law_swap_holds : FE P w K mg base 10 "_law_swap_holds" ["_law_state", "_law_lists_here", "_law_swap", "_law_silent_here", "_law_said"] [] (toSp K (sp__law_swap_holds K))) (F__law_swapped : FE P w K mg base 1 "_law_swapped" ["_law_lists_here", "_law_swap"] [] (toSp K (sp__law_swapped_v2 K))) (F_dealing : FE P w K mg base 6 "dealing" ["state"] [] (toSp K (sp_dealing K))) (F_read : FE P w K mg base 5 "read" ["state"] [] (toSp K (sp_read K))) (F_silent_swaps : FE P w K mg base 6 "silent_swaps" ["state"] [] (toSp K (sp_silent_swaps K)))
    (len : ∀ ds O k x, sp__law_state_holds K ds O k x → ds.length = 3)
    (walk : ∀ W ds O k x, sp__law_state_holds K ds O k x → (∀ p ∈ O, p.loc = false) → wpS K W (fun e _ O' => x e O') (t__law_state_holds K W) (startD N__law_state_holds.length ds) O { nx := fun _ O' => k .non O', rt := k }) : FE P w K mg base 11 "_law_state_holds" ["_law_state", "_law_lists_here", "_law_drawn"] [] (toSp K (sp__law_state_holds K)) := by
  refine fe_of (ts := t__law_state_holds K) T.F__law_state_holds T.g__law_state_holds sc__law_state_holds len (fun fd F => binds0 F fun _ _ _ _ _ _ us hl => match us, hl with | [_, _, _], _ => rfl) (fun cdv A outer s H E hr => ?_) walk
  have hu := hu_of hr
  have hu64 : (A.deeper (envOfC "_law_state_holds" (defScope s__law_state_holds) s.heap.objs.size (He.ga K "_law_state_holds") cdv)).units + 64 < cLine := by have := hr.un; omega
  have hu1 : (A.deeper (envOfC "_law_state_holds" (defScope s__law_state_holds) s.heap.objs.size (He.ga K "_law_state_holds") cdv)).units < cLine := by have := hr.un; omega
  unfold t__law_state_holds
  exact pss_cons (ps_set (i := 3) sc__law_state_holds.nd rfl (by first | exact Or.inl rfl | exact Or.inr rfl) (pe_fe (E := (WE fun cls d _ H => E cls d H)) F__law_reading (hr.mono (by decide)) (by rfl) (fun σ => passAt (takes_of rfl rfl rfl rfl) σ) (pa_cons (pv 1) (pa_nil))))
      (pss_cons (ps_set (i := 4) sc__law_state_holds.nd rfl (by first | exact Or.inl rfl | exact Or.inr rfl) (pe_fe (E := (WE fun cls d _ H => E cls d H)) F__law_shares (hr.mono (by decide)) (by rfl) (fun σ => passAt (takes_of rfl rfl rfl rfl) σ) (pa_cons (pv 1) (pa_nil))))
      (pss_cons (ps_if (PW.pt (pw_or (pt_not (pt_truth (pe_fe (E := (WE fun cls d _ H => E cls d H)) F__law_is_tuples_own (hr.mono (by decide)) (by rfl) (fun σ => passAt (takes_of rfl rfl rfl rfl) σ) (pa_cons (pe_meth0A (E := (WE fun cls d _ H => E cls d H)) (pe_fe (E := (WE fun cls d _ H => E cls d H)) F_read (hr.mono (by decide)) (by rfl) (fun σ => passAt (takes_of rfl rfl rfl rfl) σ) (pa_cons (pv 0) (pa_nil))) T.C_Reading F_Reading_pairs (hr.mono (by decide)) (fun σ => passAt (takes_of rfl rfl rfl rfl) σ)) (pa_cons (pv 3) (pa_nil)))) (by intro _; rfl))) (pw_or1 (pt_not (pt_truth (pe_fe (E := (WE fun cls d _ H => E cls d H)) F__law_is_tuples_own (hr.mono (by decide)) (by rfl) (fun σ => passAt (takes_of rfl rfl rfl rfl) σ) (pa_cons (pe_fe (E := (WE fun cls d _ H => E cls d H)) F_dealing (hr.mono (by decide)) (by rfl) (fun σ => passAt (takes_of rfl rfl rfl rfl) σ) (pa_cons (pv 0) (pa_nil))) (pa_cons (pv 4) (pa_nil)))) (by intro _; rfl)))))) (pss_one (ps_ret (pe_bl))) (pss_nil))
      (pss_cons (ps_set (i := 5) sc__law_state_holds.nd rfl (by first | exact Or.inl rfl | exact Or.inr rfl) (pe_callB callA_len (by rfl) T.n_len (by decide +kernel) (pa_cons (pe_ix ix_lt (pv 1) (pe_int) (fun _ _ => rfl)) (pa_nil))))
      (pss_cons (ps_set (i := 6) sc__law_state_holds.nd rfl (by first | exact Or.inl rfl | exact Or.inr rfl) (pe_lst (pa_nil)))
      (pss_cons (ps_for (passes_of rfl) rfl (pi_range1 (by rfl) T.n_range (pa_cons (pe_int) (pa_nil))) (pg_name (i := 7) sc__law_state_holds.nd rfl (by first | exact Or.inl rfl | exact Or.inr rfl)) (pss_one (ps_for (passes_of rfl) rfl (pi_range1 (by rfl) T.n_range (pa_cons (pe_op opA_sub (pv 5) (pe_int)) (pa_nil))) (pg_name (i := 9) sc__law_state_holds.nd rfl (by first | exact Or.inl rfl | exact Or.inr rfl)) (pss_cons (ps_set (i := 10) sc__law_state_holds.nd rfl (by first | exact Or.inl rfl | exact Or.inr rfl) (pe_tup (pa_cons (pv 7) (pa_cons (pv 9) (pa_nil)))))
      (pss_cons (ps_set (i := 11) sc__law_state_holds.nd rfl (by first | exact Or.inl rfl | exact Or.inr rfl) (pe_cmpR (opA_eq hu64) (pe_fe (E := (WE fun cls d _ H => E cls d H)) F__law_reading (hr.mono (by decide)) (by rfl) (fun σ => passAt (takes_of rfl rfl rfl rfl) σ) (pa_cons (pe_fe (E := (WE fun cls d _ H => E cls d H)) F__law_swapped (hr.mono (by decide)) (by rfl) (fun σ => passAt (takes_of rfl rfl rfl rfl) σ) (pa_cons (pv 1) (pa_cons (pv 10) (pa_nil)))) (pa_nil))) (pv 3) (nomark _)))
      (pss_cons (ps_if (pt_truth (pv 11) (by intro _; rfl)) (pss_one (ps_expr (pe_bm PySem.F.plainAttrs_list PySem.F.slot_list_append PySem.F.type_list_append mt_append (pv 6) (pa_cons (pv 10) (pa_nil))))) (pss_nil))
      (pss_cons (ps_if (pt_not (pt_truth (pe_fe (E := (WE fun cls d _ H => E cls d H)) F__law_swap_holds (hr.mono (by decide)) (by rfl) (fun σ => passAt (takes_of rfl rfl rfl rfl) σ) (pa_cons (pv 0) (pa_cons (pv 1) (pa_cons (pv 10) (pa_cons (pv 11) (pa_cons (pv 3) (pa_nil))))))) (by intro _; rfl))) (pss_one (ps_ret (pe_bl))) (pss_nil))
      (pss_one (ps_if (PW.pt (pw_and (PW.pt (pw_or (pt_cmpR opA_lt (pv 5) (pe_int) (nomark _)) (pw_or1 (pt_cmpR (opA_eq hu64) (pv 10) (pv 2) (nomark _))))) (pw_and1 (pt_not (pt_truth (pe_fe (E := (WE fun cls d _ H => E cls d H)) F__law_deep_holds (hr.mono (by decide)) (by rfl) (fun σ => passAt (takes_of rfl rfl rfl rfl) σ) (pa_cons (pv 0) (pa_cons (pv 1) (pa_cons (pv 10) (pa_cons (pv 11) (pa_cons (pv 4) (pa_nil))))))) (by intro _; rfl)))))) (pss_one (ps_ret (pe_bl))) (pss_nil))))))))))
      (pss_cons (ps_set (i := 8) sc__law_state_holds.nd rfl (by first | exact Or.inl rfl | exact Or.inr rfl) (pe_fe (E := (WE fun cls d _ H => E cls d H)) F_silent_swaps (hr.mono (by decide)) (by rfl) (fun σ => passAt (takes_of rfl rfl rfl rfl) σ) (pa_cons (pv 0) (pa_nil))))
      (pss_cons (ps_if (pt_not (pt_truth (pe_fe (E := (WE fun cls d _ H => E cls d H)) F__law_is_tuples_own (hr.mono (by decide)) (by rfl) (fun σ => passAt (takes_of rfl rfl rfl rfl) σ) (pa_cons (pv 8) (pa_cons (pv 6) (pa_nil)))) (by intro _; rfl))) (pss_one (ps_ret (pe_bl))) (pss_nil))
      (pss_cons (ps_expr (pe_bm PySem.F.plainAttrs_list PySem.F.slot_list_append PySem.F.type_list_append mt_append (pv 8) (pa_cons (pe_tup (pa_cons (pe_int) (pa_cons (pe_int) (pa_nil)))) (pa_nil))))
      (pss_cons (ps_expr (pe_bm0 PySem.F.plainAttrs_list PySem.F.slot_list_reverse PySem.F.type_list_reverse mt_reverse (pv 8)))
      (pss_one (ps_ret (pe_and (pe_fe (E := (WE fun cls d _ H => E cls d H)) F__law_is_tuples_own (hr.mono (by decide)) (by rfl) (fun σ => passAt (takes_of rfl rfl rfl rfl) σ) (pa_cons (pe_fe (E := (WE fun cls d _ H => E cls d H)) F_silent_swaps (hr.mono (by decide)) (by rfl) (fun σ => passAt (takes_of rfl rfl rfl rfl) σ) (pa_cons (pv 0) (pa_nil))) (pa_cons (pv 6) (pa_nil)))) (pe_one (pe_fe (E := (WE fun cls d _ H => E cls d H)) F__law_is_state (hr.mono (by decide)) (by rfl) (fun σ => passAt (takes_of rfl rfl rfl rfl) σ) (pa_cons (pv 0) (pa_cons (pv 1) (pa_nil)))))))))))))))))
theorem ok_law (T : TX P K mg) (F_State___init__ : FM P w K mg base 3 (He.ga K "State") "__init__" ["self", "first", "second", "third"] [] (toSp K (sp_State___init__ K))) (F__law_box : FE P w K mg base 1 "_law_box" ["_law_script"] [] (toSp K (sp__law_box K))) (F__law_is_state : FE P w K mg base 3 "_law_is_state" ["_law_actual", "_law_due"] [] (toSp K (sp__law_is_state_v2 K))) (F__law_lacking : FE P w K mg base 2 "_law_lacking" ["_law_box_here", "_law_size"] [] (toSp K (sp__law_lacking K))) (F__law_lists : FE P w K mg base 4 "_law_lists" ["_law_box_here"] [] (toSp K (sp__law_lists K))) (F__law_refuses : FE P w K mg base 10 "_law_refuses" ["_law_state", "_law_lacking_here"] [] (toSp K (sp__law_refuses_v2 K))) (F__law_state_holds : FE P w K mg base 11 "_law_state_holds" ["_law_state", "_law_lists_here", "_law_drawn"] [] (toSp K (sp__law_state_holds K))) (F__law_take : FE P w K mg base 1 "_law_take" ["_law_box_here", "_law_size"] [] (toSp K (sp__law_take K)))
    (len : ∀ ds O k x, sp_law_v5 K ds O k x → ds.length = 1)
    (walk : ∀ W ds O k x, sp_law_v5 K ds O k x → (∀ p ∈ O, p.loc = false) → wpS K W (fun e _ O' => x e O') (t_law_v5 K W) (startD N_law_v5.length ds) O { nx := fun _ O' => k .non O', rt := k }) {fd : FuncData} (F : FunD K "law" "law" (defArgs s_law) (defBody s_law) (defScope s_law) [] [] (He.ga K "law") fd) : FnOk P w K mg base (L2.CX P w) 12 (He.ga K "law") fd ["_law_script"] (toSp K (sp_law_v5 K)) := by
  refine fn_ofL (ts := t_law_v5 K) F sc_law len (fun cdv A outer s H E hr => ?_) walk
  have hu := hu_of hr
  have hu64 : (A.deeper (envOfC "law" (defScope s_law) s.heap.objs.size (He.ga K "law") cdv)).units + 64 < cLine := by have := hr.un; omega
  have hu1 : (A.deeper (envOfC "law" (defScope s_law) s.heap.objs.size (He.ga K "law") cdv)).units < cLine := by have := hr.un; omega
  unfold t_law_v5
  exact pss_cons (ps_set (i := 1) sc_law.nd rfl (by first | exact Or.inl rfl | exact Or.inr rfl) (pe_fe (E := (WE fun cls d _ H => E cls d H)) F__law_box (hr.mono (by decide)) (by rfl) (fun σ => passAt (takes_of rfl rfl rfl rfl) σ) (pa_cons (pv 0) (pa_nil))))
      (pss_cons (ps_set (i := 2) sc_law.nd rfl (by first | exact Or.inl rfl | exact Or.inr rfl) (pe_fe (E := (WE fun cls d _ H => E cls d H)) F__law_lists (hr.mono (by decide)) (by rfl) (fun σ => passAt (takes_of rfl rfl rfl rfl) σ) (pa_cons (pv 1) (pa_nil))))
      (pss_cons (ps_set (i := 3) sc_law.nd rfl (by first | exact Or.inl rfl | exact Or.inr rfl) (pe_callB callA_len (by rfl) T.n_len (by decide +kernel) (pa_cons (pe_ix ix_lt (pv 2) (pe_int) (fun _ _ => rfl)) (pa_nil))))
      (pss_cons (ps_set (i := 4) sc_law.nd rfl (by first | exact Or.inl rfl | exact Or.inr rfl) (pe_tup (pa_cons (pe_fe (E := (WE fun cls d _ H => E cls d H)) F__law_take (hr.mono (by decide)) (by rfl) (fun σ => passAt (takes_of rfl rfl rfl rfl) σ) (pa_cons (pv 1) (pa_cons (pe_int) (pa_nil)))) (pa_cons (pe_fe (E := (WE fun cls d _ H => E cls d H)) F__law_take (hr.mono (by decide)) (by rfl) (fun σ => passAt (takes_of rfl rfl rfl rfl) σ) (pa_cons (pv 1) (pa_cons (pe_callB (callA_max2 rfl) (by rfl) T.n_max (by decide +kernel) (pa_cons (pe_int) (pa_cons (pe_op opA_sub (pv 3) (pe_int)) (pa_nil)))) (pa_nil)))) (pa_nil)))))
      (pss_cons (ps_set (i := 5) sc_law.nd rfl (by first | exact Or.inl rfl | exact Or.inr rfl) (pe_fe (E := (WE fun cls d _ H => E cls d H)) F__law_lacking (hr.mono (by decide)) (by rfl) (fun σ => passAt (takes_of rfl rfl rfl rfl) σ) (pa_cons (pv 1) (pa_cons (pv 3) (pa_nil)))))
      (pss_cons (ps_setLc (i := 6) (own := [("_law_order_here", 10)]) (g := gName 10) (tt := tYes) rfl sc_law.nd rfl rfl (sw_true rfl rfl rfl (by decide +kernel)) (pi_list (pv 2)) (blkOk_by (N := N_law) (sc := defScope s_law) (by decide +kernel)) (fun _ _ _ _ _ => pg_name (i := 10) sc_law.nd rfl (by first | exact Or.inl rfl | exact Or.inr rfl)) (fun _ _ _ _ _ => pts_nil) (fun _ _ _ _ _ => pe_callTy callA_list (by rfl) T.n_list (by decide +kernel) (pa_cons (pv 10) (pa_nil))))
      (pss_cons (ps_set (i := 7) sc_law.nd rfl (by first | exact Or.inl rfl | exact Or.inr rfl) (pe_makeA (E := (WE fun cls d _ H => E cls d H)) T.mk_State F_State___init__ (hr.mono (by decide)) (by rfl) T.g_State (fun σ => passAt (takes_of rfl rfl rfl rfl) σ) (pa_cons (pe_ix ix_lt (pv 6) (pe_int) (fun _ _ => rfl)) (pa_cons (pe_ix ix_lt (pv 6) (pe_int) (fun _ _ => rfl)) (pa_cons (pe_ix ix_lt (pv 6) (pe_int) (fun _ _ => rfl)) (pa_nil))))))
      (pss_cons (ps_if (pt_cmpR (opA_ne hu64) (pv 6) (pv 2) (nomark _)) (pss_one (ps_ret (pe_bl))) (pss_nil))
      (pss_cons (ps_expr (pe_bm0 PySem.F.plainAttrs_list PySem.F.slot_list_reverse PySem.F.type_list_reverse mt_reverse (pe_ix ix_lt (pv 6) (pe_int) (fun _ _ => rfl))))
      (pss_cons (ps_expr (pe_bm PySem.F.plainAttrs_list PySem.F.slot_list_append PySem.F.type_list_append mt_append (pe_ix ix_lt (pv 6) (pe_int) (fun _ _ => rfl)) (pa_cons (pe_int) (pa_nil))))
      (pss_cons (ps_set (i := 8) sc_law.nd rfl (by first | exact Or.inl rfl | exact Or.inr rfl) (pe_lst (pa_cons (pe_ix ix_lt (pv 2) (pe_int) (fun _ _ => rfl)) (pa_cons (pe_ix ix_lt (pv 2) (pe_int) (fun _ _ => rfl)) (pa_cons (pe_ix ix_lt (pv 2) (pe_int) (fun _ _ => rfl)) (pa_nil))))))
      (pss_cons (ps_set (i := 9) sc_law.nd rfl (by first | exact Or.inl rfl | exact Or.inr rfl) (pe_makeA (E := (WE fun cls d _ H => E cls d H)) T.mk_State F_State___init__ (hr.mono (by decide)) (by rfl) T.g_State (fun σ => passAt (takes_of rfl rfl rfl rfl) σ) (pa_cons (pe_callTy callA_list (by rfl) T.n_list (by decide +kernel) (pa_cons (pe_ix ix_lt (pv 8) (pe_int) (fun _ _ => rfl)) (pa_nil))) (pa_cons (pe_callTy callA_list (by rfl) T.n_list (by decide +kernel) (pa_cons (pe_ix ix_lt (pv 8) (pe_int) (fun _ _ => rfl)) (pa_nil))) (pa_cons (pe_callTy callA_list (by rfl) T.n_list (by decide +kernel) (pa_cons (pe_ix ix_lt (pv 8) (pe_int) (fun _ _ => rfl)) (pa_nil))) (pa_nil))))))
      (pss_cons (ps_if (PW.pt (pw_or (pt_not (pt_truth (pe_fe (E := (WE fun cls d _ H => E cls d H)) F__law_state_holds (hr.mono (by decide)) (by rfl) (fun σ => passAt (takes_of rfl rfl rfl rfl) σ) (pa_cons (pv 7) (pa_cons (pv 2) (pa_cons (pv 4) (pa_nil))))) (by intro _; rfl))) (pw_or1 (pt_not (pt_truth (pe_fe (E := (WE fun cls d _ H => E cls d H)) F__law_state_holds (hr.mono (by decide)) (by rfl) (fun σ => passAt (takes_of rfl rfl rfl rfl) σ) (pa_cons (pv 9) (pa_cons (pv 8) (pa_cons (pv 4) (pa_nil))))) (by intro _; rfl)))))) (pss_one (ps_ret (pe_bl))) (pss_nil))
      (pss_cons (ps_if (PW.pt (pw_or (pt_not (pt_truth (pe_fe (E := (WE fun cls d _ H => E cls d H)) F__law_refuses (hr.mono (by decide)) (by rfl) (fun σ => passAt (takes_of rfl rfl rfl rfl) σ) (pa_cons (pv 7) (pa_cons (pv 5) (pa_nil)))) (by intro _; rfl))) (pw_or1 (pt_not (pt_truth (pe_fe (E := (WE fun cls d _ H => E cls d H)) F__law_refuses (hr.mono (by decide)) (by rfl) (fun σ => passAt (takes_of rfl rfl rfl rfl) σ) (pa_cons (pv 9) (pa_cons (pv 5) (pa_nil)))) (by intro _; rfl)))))) (pss_one (ps_ret (pe_bl))) (pss_nil))
      (pss_one (ps_ret (pe_and (pe_fe (E := (WE fun cls d _ H => E cls d H)) F__law_is_state (hr.mono (by decide)) (by rfl) (fun σ => passAt (takes_of rfl rfl rfl rfl) σ) (pa_cons (pv 9) (pa_cons (pv 8) (pa_nil)))) (pe_one (pe_fe (E := (WE fun cls d _ H => E cls d H)) F__law_is_state (hr.mono (by decide)) (by rfl) (fun σ => passAt (takes_of rfl rfl rfl rfl) σ) (pa_cons (pv 7) (pa_cons (pv 2) (pa_nil)))))))))))))))))))))
end
end K07
namespace K07
open PySem PySem.Spec L2 PyD PyT PyE PyH PyI PyC PyProof.Rows Q
theorem okL {P : Program} {w : World} {K : PySem.W.Frag} {mg : Str → Option Value} {base : Heap} (T : TX P K mg) {fd : FuncData} (F : FunD K "law" "law" (defArgs s_law) (defBody s_law) (defScope s_law) [] [] (He.ga K "law") fd) :
    FnOk P w K mg base (L2.CX P w) 12 (He.ga K "law") fd ["_law_script"] (toSp K (sp_law_v5 K)) := by
  have F_first_wrong_place : FE P w K mg base 1 "first_wrong_place" ["order"] [] (toSp K (sp_first_wrong_place K)) := ok_first_wrong_place T (fun ds O k x h => by first | (obtain ⟨_, ⟨rfl, _⟩, _⟩ := h; rfl) | (obtain ⟨_, _, ⟨rfl, _⟩, _⟩ := h; rfl) | (obtain ⟨_, _, _, ⟨rfl, _⟩, _⟩ := h; rfl) | (obtain ⟨_, _, _, _, ⟨rfl, _⟩, _⟩ := h; rfl) | (obtain ⟨_, _, _, _, _, ⟨rfl, _⟩, _⟩ := h; rfl) | (obtain ⟨_, _, _, _, _, _, ⟨rfl, _⟩, _⟩ := h; rfl) | (obtain ⟨_, _, _, _, _, _, _, ⟨rfl, _⟩, _⟩ := h; rfl) | (obtain ⟨_, _, _, _, _, _, _, _, ⟨rfl, _⟩, _⟩ := h; rfl) | (obtain ⟨_, _, _, _, _, _, _, _, _, ⟨rfl, _⟩, _⟩ := h; rfl) | (obtain ⟨_, _, _, _, _, _, _, _, _, _, ⟨rfl, _⟩, _⟩ := h; rfl) | (obtain ⟨_, _, _, _, _, _, _, _, _, _, _, ⟨rfl, _⟩, _⟩ := h; rfl) | (obtain ⟨_, _, _, _, _, _, _, _, _, _, _, _, ⟨rfl, _⟩, _⟩ := h; rfl) | (obtain ⟨_, _, _, _, _, _, _, _, _, _, _, _, _, ⟨rfl, _⟩, _⟩ := h; rfl)) (fun W ds O k x h lo => Q.w_first_wrong_place h lo)
  have F__wrong_replica : FE P w K mg base 2 "_wrong_replica" ["orders"] [] (toSp K (sp__wrong_replica K)) := ok__wrong_replica T F_first_wrong_place (fun ds O k x h => by first | (obtain ⟨_, ⟨rfl, _⟩, _⟩ := h; rfl) | (obtain ⟨_, _, ⟨rfl, _⟩, _⟩ := h; rfl) | (obtain ⟨_, _, _, ⟨rfl, _⟩, _⟩ := h; rfl) | (obtain ⟨_, _, _, _, ⟨rfl, _⟩, _⟩ := h; rfl) | (obtain ⟨_, _, _, _, _, ⟨rfl, _⟩, _⟩ := h; rfl) | (obtain ⟨_, _, _, _, _, _, ⟨rfl, _⟩, _⟩ := h; rfl) | (obtain ⟨_, _, _, _, _, _, _, ⟨rfl, _⟩, _⟩ := h; rfl) | (obtain ⟨_, _, _, _, _, _, _, _, ⟨rfl, _⟩, _⟩ := h; rfl) | (obtain ⟨_, _, _, _, _, _, _, _, _, ⟨rfl, _⟩, _⟩ := h; rfl) | (obtain ⟨_, _, _, _, _, _, _, _, _, _, ⟨rfl, _⟩, _⟩ := h; rfl) | (obtain ⟨_, _, _, _, _, _, _, _, _, _, _, ⟨rfl, _⟩, _⟩ := h; rfl) | (obtain ⟨_, _, _, _, _, _, _, _, _, _, _, _, ⟨rfl, _⟩, _⟩ := h; rfl) | (obtain ⟨_, _, _, _, _, _, _, _, _, _, _, _, _, ⟨rfl, _⟩, _⟩ := h; rfl)) (fun W ds O k x h lo => Q.w__wrong_replica h lo)
  have F_index_of : FE P w K mg base 1 "index_of" ["order"] [] (toSp K (sp_index_of K)) := ok_index_of T (fun ds O k x h => by first | (obtain ⟨_, ⟨rfl, _⟩, _⟩ := h; rfl) | (obtain ⟨_, _, ⟨rfl, _⟩, _⟩ := h; rfl) | (obtain ⟨_, _, _, ⟨rfl, _⟩, _⟩ := h; rfl) | (obtain ⟨_, _, _, _, ⟨rfl, _⟩, _⟩ := h; rfl) | (obtain ⟨_, _, _, _, _, ⟨rfl, _⟩, _⟩ := h; rfl) | (obtain ⟨_, _, _, _, _, _, ⟨rfl, _⟩, _⟩ := h; rfl) | (obtain ⟨_, _, _, _, _, _, _, ⟨rfl, _⟩, _⟩ := h; rfl) | (obtain ⟨_, _, _, _, _, _, _, _, ⟨rfl, _⟩, _⟩ := h; rfl) | (obtain ⟨_, _, _, _, _, _, _, _, _, ⟨rfl, _⟩, _⟩ := h; rfl) | (obtain ⟨_, _, _, _, _, _, _, _, _, _, ⟨rfl, _⟩, _⟩ := h; rfl) | (obtain ⟨_, _, _, _, _, _, _, _, _, _, _, ⟨rfl, _⟩, _⟩ := h; rfl) | (obtain ⟨_, _, _, _, _, _, _, _, _, _, _, _, ⟨rfl, _⟩, _⟩ := h; rfl) | (obtain ⟨_, _, _, _, _, _, _, _, _, _, _, _, _, ⟨rfl, _⟩, _⟩ := h; rfl)) (fun W ds O k x h lo => Q.w_index_of h lo)
  have F_State___init__ : FM P w K mg base 3 (He.ga K "State") "__init__" ["self", "first", "second", "third"] [] (toSp K (sp_State___init__ K)) := ok_State___init__ T F__wrong_replica F_index_of (fun ds O k x h => by first | (obtain ⟨_, ⟨rfl, _⟩, _⟩ := h; rfl) | (obtain ⟨_, _, ⟨rfl, _⟩, _⟩ := h; rfl) | (obtain ⟨_, _, _, ⟨rfl, _⟩, _⟩ := h; rfl) | (obtain ⟨_, _, _, _, ⟨rfl, _⟩, _⟩ := h; rfl) | (obtain ⟨_, _, _, _, _, ⟨rfl, _⟩, _⟩ := h; rfl) | (obtain ⟨_, _, _, _, _, _, ⟨rfl, _⟩, _⟩ := h; rfl) | (obtain ⟨_, _, _, _, _, _, _, ⟨rfl, _⟩, _⟩ := h; rfl) | (obtain ⟨_, _, _, _, _, _, _, _, ⟨rfl, _⟩, _⟩ := h; rfl) | (obtain ⟨_, _, _, _, _, _, _, _, _, ⟨rfl, _⟩, _⟩ := h; rfl) | (obtain ⟨_, _, _, _, _, _, _, _, _, _, ⟨rfl, _⟩, _⟩ := h; rfl) | (obtain ⟨_, _, _, _, _, _, _, _, _, _, _, ⟨rfl, _⟩, _⟩ := h; rfl) | (obtain ⟨_, _, _, _, _, _, _, _, _, _, _, _, ⟨rfl, _⟩, _⟩ := h; rfl) | (obtain ⟨_, _, _, _, _, _, _, _, _, _, _, _, _, ⟨rfl, _⟩, _⟩ := h; rfl)) (fun W ds O k x h lo => Q.w_State___init__ ⟨T.C_State, T.na_State__lists, T.na_State__places⟩ h lo)
  have F__law_box : FE P w K mg base 1 "_law_box" ["_law_script"] [] (toSp K (sp__law_box K)) := ok__law_box T (fun ds O k x h => by first | (obtain ⟨_, ⟨rfl, _⟩, _⟩ := h; rfl) | (obtain ⟨_, _, ⟨rfl, _⟩, _⟩ := h; rfl) | (obtain ⟨_, _, _, ⟨rfl, _⟩, _⟩ := h; rfl) | (obtain ⟨_, _, _, _, ⟨rfl, _⟩, _⟩ := h; rfl) | (obtain ⟨_, _, _, _, _, ⟨rfl, _⟩, _⟩ := h; rfl) | (obtain ⟨_, _, _, _, _, _, ⟨rfl, _⟩, _⟩ := h; rfl) | (obtain ⟨_, _, _, _, _, _, _, ⟨rfl, _⟩, _⟩ := h; rfl) | (obtain ⟨_, _, _, _, _, _, _, _, ⟨rfl, _⟩, _⟩ := h; rfl) | (obtain ⟨_, _, _, _, _, _, _, _, _, ⟨rfl, _⟩, _⟩ := h; rfl) | (obtain ⟨_, _, _, _, _, _, _, _, _, _, ⟨rfl, _⟩, _⟩ := h; rfl) | (obtain ⟨_, _, _, _, _, _, _, _, _, _, _, ⟨rfl, _⟩, _⟩ := h; rfl) | (obtain ⟨_, _, _, _, _, _, _, _, _, _, _, _, ⟨rfl, _⟩, _⟩ := h; rfl) | (obtain ⟨_, _, _, _, _, _, _, _, _, _, _, _, _, ⟨rfl, _⟩, _⟩ := h; rfl)) (fun W ds O k x h lo => Q.w__law_box h lo)
  have F_State_lists : FM P w K mg base 1 (He.ga K "State") "lists" ["self"] [] (toSp K (sp_State_lists K)) := ok_State_lists T (fun ds O k x h => by first | (obtain ⟨_, ⟨rfl, _⟩, _⟩ := h; rfl) | (obtain ⟨_, _, ⟨rfl, _⟩, _⟩ := h; rfl) | (obtain ⟨_, _, _, ⟨rfl, _⟩, _⟩ := h; rfl) | (obtain ⟨_, _, _, _, ⟨rfl, _⟩, _⟩ := h; rfl) | (obtain ⟨_, _, _, _, _, ⟨rfl, _⟩, _⟩ := h; rfl) | (obtain ⟨_, _, _, _, _, _, ⟨rfl, _⟩, _⟩ := h; rfl) | (obtain ⟨_, _, _, _, _, _, _, ⟨rfl, _⟩, _⟩ := h; rfl) | (obtain ⟨_, _, _, _, _, _, _, _, ⟨rfl, _⟩, _⟩ := h; rfl) | (obtain ⟨_, _, _, _, _, _, _, _, _, ⟨rfl, _⟩, _⟩ := h; rfl) | (obtain ⟨_, _, _, _, _, _, _, _, _, _, ⟨rfl, _⟩, _⟩ := h; rfl) | (obtain ⟨_, _, _, _, _, _, _, _, _, _, _, ⟨rfl, _⟩, _⟩ := h; rfl) | (obtain ⟨_, _, _, _, _, _, _, _, _, _, _, _, ⟨rfl, _⟩, _⟩ := h; rfl) | (obtain ⟨_, _, _, _, _, _, _, _, _, _, _, _, _, ⟨rfl, _⟩, _⟩ := h; rfl)) (fun W ds O k x h lo => Q.w_State_lists ⟨T.C_State, T.na_State__lists⟩ h lo)
  have F__law_is_number : FE P w K mg base 1 "_law_is_number" ["_law_actual", "_law_due"] [] (toSp K (sp__law_is_number_v2 K)) := ok__law_is_number T (fun ds O k x h => by first | (obtain ⟨_, ⟨rfl, _⟩, _⟩ := h; rfl) | (obtain ⟨_, _, ⟨rfl, _⟩, _⟩ := h; rfl) | (obtain ⟨_, _, _, ⟨rfl, _⟩, _⟩ := h; rfl) | (obtain ⟨_, _, _, _, ⟨rfl, _⟩, _⟩ := h; rfl) | (obtain ⟨_, _, _, _, _, ⟨rfl, _⟩, _⟩ := h; rfl) | (obtain ⟨_, _, _, _, _, _, ⟨rfl, _⟩, _⟩ := h; rfl) | (obtain ⟨_, _, _, _, _, _, _, ⟨rfl, _⟩, _⟩ := h; rfl) | (obtain ⟨_, _, _, _, _, _, _, _, ⟨rfl, _⟩, _⟩ := h; rfl) | (obtain ⟨_, _, _, _, _, _, _, _, _, ⟨rfl, _⟩, _⟩ := h; rfl) | (obtain ⟨_, _, _, _, _, _, _, _, _, _, ⟨rfl, _⟩, _⟩ := h; rfl) | (obtain ⟨_, _, _, _, _, _, _, _, _, _, _, ⟨rfl, _⟩, _⟩ := h; rfl) | (obtain ⟨_, _, _, _, _, _, _, _, _, _, _, _, ⟨rfl, _⟩, _⟩ := h; rfl) | (obtain ⟨_, _, _, _, _, _, _, _, _, _, _, _, _, ⟨rfl, _⟩, _⟩ := h; rfl)) (fun W ds O k x h lo => Q.w__law_is_number_v2 h lo)
  have F__law_is_row : FE P w K mg base 2 "_law_is_row" ["_law_actual", "_law_due"] [] (toSp K (sp__law_is_row_v2 K)) := ok__law_is_row T F__law_is_number (fun ds O k x h => by first | (obtain ⟨_, ⟨rfl, _⟩, _⟩ := h; rfl) | (obtain ⟨_, _, ⟨rfl, _⟩, _⟩ := h; rfl) | (obtain ⟨_, _, _, ⟨rfl, _⟩, _⟩ := h; rfl) | (obtain ⟨_, _, _, _, ⟨rfl, _⟩, _⟩ := h; rfl) | (obtain ⟨_, _, _, _, _, ⟨rfl, _⟩, _⟩ := h; rfl) | (obtain ⟨_, _, _, _, _, _, ⟨rfl, _⟩, _⟩ := h; rfl) | (obtain ⟨_, _, _, _, _, _, _, ⟨rfl, _⟩, _⟩ := h; rfl) | (obtain ⟨_, _, _, _, _, _, _, _, ⟨rfl, _⟩, _⟩ := h; rfl) | (obtain ⟨_, _, _, _, _, _, _, _, _, ⟨rfl, _⟩, _⟩ := h; rfl) | (obtain ⟨_, _, _, _, _, _, _, _, _, _, ⟨rfl, _⟩, _⟩ := h; rfl) | (obtain ⟨_, _, _, _, _, _, _, _, _, _, _, ⟨rfl, _⟩, _⟩ := h; rfl) | (obtain ⟨_, _, _, _, _, _, _, _, _, _, _, _, ⟨rfl, _⟩, _⟩ := h; rfl) | (obtain ⟨_, _, _, _, _, _, _, _, _, _, _, _, _, ⟨rfl, _⟩, _⟩ := h; rfl)) (fun W ds O k x h lo => Q.w__law_is_row_v2 h lo)
  have F__law_is_state : FE P w K mg base 3 "_law_is_state" ["_law_actual", "_law_due"] [] (toSp K (sp__law_is_state_v2 K)) := ok__law_is_state T F_State_lists F__law_is_row (fun ds O k x h => by first | (obtain ⟨_, ⟨rfl, _⟩, _⟩ := h; rfl) | (obtain ⟨_, _, ⟨rfl, _⟩, _⟩ := h; rfl) | (obtain ⟨_, _, _, ⟨rfl, _⟩, _⟩ := h; rfl) | (obtain ⟨_, _, _, _, ⟨rfl, _⟩, _⟩ := h; rfl) | (obtain ⟨_, _, _, _, _, ⟨rfl, _⟩, _⟩ := h; rfl) | (obtain ⟨_, _, _, _, _, _, ⟨rfl, _⟩, _⟩ := h; rfl) | (obtain ⟨_, _, _, _, _, _, _, ⟨rfl, _⟩, _⟩ := h; rfl) | (obtain ⟨_, _, _, _, _, _, _, _, ⟨rfl, _⟩, _⟩ := h; rfl) | (obtain ⟨_, _, _, _, _, _, _, _, _, ⟨rfl, _⟩, _⟩ := h; rfl) | (obtain ⟨_, _, _, _, _, _, _, _, _, _, ⟨rfl, _⟩, _⟩ := h; rfl) | (obtain ⟨_, _, _, _, _, _, _, _, _, _, _, ⟨rfl, _⟩, _⟩ := h; rfl) | (obtain ⟨_, _, _, _, _, _, _, _, _, _, _, _, ⟨rfl, _⟩, _⟩ := h; rfl) | (obtain ⟨_, _, _, _, _, _, _, _, _, _, _, _, _, ⟨rfl, _⟩, _⟩ := h; rfl)) (fun W ds O k x h lo => Q.w__law_is_state_v2 h lo)
  have F__law_take : FE P w K mg base 1 "_law_take" ["_law_box_here", "_law_size"] [] (toSp K (sp__law_take K)) := ok__law_take T (fun ds O k x h => by first | (obtain ⟨_, ⟨rfl, _⟩, _⟩ := h; rfl) | (obtain ⟨_, _, ⟨rfl, _⟩, _⟩ := h; rfl) | (obtain ⟨_, _, _, ⟨rfl, _⟩, _⟩ := h; rfl) | (obtain ⟨_, _, _, _, ⟨rfl, _⟩, _⟩ := h; rfl) | (obtain ⟨_, _, _, _, _, ⟨rfl, _⟩, _⟩ := h; rfl) | (obtain ⟨_, _, _, _, _, _, ⟨rfl, _⟩, _⟩ := h; rfl) | (obtain ⟨_, _, _, _, _, _, _, ⟨rfl, _⟩, _⟩ := h; rfl) | (obtain ⟨_, _, _, _, _, _, _, _, ⟨rfl, _⟩, _⟩ := h; rfl) | (obtain ⟨_, _, _, _, _, _, _, _, _, ⟨rfl, _⟩, _⟩ := h; rfl) | (obtain ⟨_, _, _, _, _, _, _, _, _, _, ⟨rfl, _⟩, _⟩ := h; rfl) | (obtain ⟨_, _, _, _, _, _, _, _, _, _, _, ⟨rfl, _⟩, _⟩ := h; rfl) | (obtain ⟨_, _, _, _, _, _, _, _, _, _, _, _, ⟨rfl, _⟩, _⟩ := h; rfl) | (obtain ⟨_, _, _, _, _, _, _, _, _, _, _, _, _, ⟨rfl, _⟩, _⟩ := h; rfl)) (fun W ds O k x h lo => Q.w__law_take h lo)
  have F__law_lacking : FE P w K mg base 2 "_law_lacking" ["_law_box_here", "_law_size"] [] (toSp K (sp__law_lacking K)) := ok__law_lacking T F__law_take (fun ds O k x h => by first | (obtain ⟨_, ⟨rfl, _⟩, _⟩ := h; rfl) | (obtain ⟨_, _, ⟨rfl, _⟩, _⟩ := h; rfl) | (obtain ⟨_, _, _, ⟨rfl, _⟩, _⟩ := h; rfl) | (obtain ⟨_, _, _, _, ⟨rfl, _⟩, _⟩ := h; rfl) | (obtain ⟨_, _, _, _, _, ⟨rfl, _⟩, _⟩ := h; rfl) | (obtain ⟨_, _, _, _, _, _, ⟨rfl, _⟩, _⟩ := h; rfl) | (obtain ⟨_, _, _, _, _, _, _, ⟨rfl, _⟩, _⟩ := h; rfl) | (obtain ⟨_, _, _, _, _, _, _, _, ⟨rfl, _⟩, _⟩ := h; rfl) | (obtain ⟨_, _, _, _, _, _, _, _, _, ⟨rfl, _⟩, _⟩ := h; rfl) | (obtain ⟨_, _, _, _, _, _, _, _, _, _, ⟨rfl, _⟩, _⟩ := h; rfl) | (obtain ⟨_, _, _, _, _, _, _, _, _, _, _, ⟨rfl, _⟩, _⟩ := h; rfl) | (obtain ⟨_, _, _, _, _, _, _, _, _, _, _, _, ⟨rfl, _⟩, _⟩ := h; rfl) | (obtain ⟨_, _, _, _, _, _, _, _, _, _, _, _, _, ⟨rfl, _⟩, _⟩ := h; rfl)) (fun W ds O k x h lo => Q.w__law_lacking h lo)
  have F__law_swapped : FE P w K mg base 1 "_law_swapped" ["_law_lists_here", "_law_swap"] [] (toSp K (sp__law_swapped_v2 K)) := ok__law_swapped T (fun ds O k x h => by first | (obtain ⟨_, ⟨rfl, _⟩, _⟩ := h; rfl) | (obtain ⟨_, _, ⟨rfl, _⟩, _⟩ := h; rfl) | (obtain ⟨_, _, _, ⟨rfl, _⟩, _⟩ := h; rfl) | (obtain ⟨_, _, _, _, ⟨rfl, _⟩, _⟩ := h; rfl) | (obtain ⟨_, _, _, _, _, ⟨rfl, _⟩, _⟩ := h; rfl) | (obtain ⟨_, _, _, _, _, _, ⟨rfl, _⟩, _⟩ := h; rfl) | (obtain ⟨_, _, _, _, _, _, _, ⟨rfl, _⟩, _⟩ := h; rfl) | (obtain ⟨_, _, _, _, _, _, _, _, ⟨rfl, _⟩, _⟩ := h; rfl) | (obtain ⟨_, _, _, _, _, _, _, _, _, ⟨rfl, _⟩, _⟩ := h; rfl) | (obtain ⟨_, _, _, _, _, _, _, _, _, _, ⟨rfl, _⟩, _⟩ := h; rfl) | (obtain ⟨_, _, _, _, _, _, _, _, _, _, _, ⟨rfl, _⟩, _⟩ := h; rfl) | (obtain ⟨_, _, _, _, _, _, _, _, _, _, _, _, ⟨rfl, _⟩, _⟩ := h; rfl) | (obtain ⟨_, _, _, _, _, _, _, _, _, _, _, _, _, ⟨rfl, _⟩, _⟩ := h; rfl)) (fun W ds O k x h lo => Q.w__law_swapped_v2 h lo)
  have F__law_after : FE P w K mg base 2 "_law_after" ["_law_lists_here", "_law_swaps"] [] (toSp K (sp__law_after K)) := ok__law_after T F__law_swapped (fun ds O k x h => by first | (obtain ⟨_, ⟨rfl, _⟩, _⟩ := h; rfl) | (obtain ⟨_, _, ⟨rfl, _⟩, _⟩ := h; rfl) | (obtain ⟨_, _, _, ⟨rfl, _⟩, _⟩ := h; rfl) | (obtain ⟨_, _, _, _, ⟨rfl, _⟩, _⟩ := h; rfl) | (obtain ⟨_, _, _, _, _, ⟨rfl, _⟩, _⟩ := h; rfl) | (obtain ⟨_, _, _, _, _, _, ⟨rfl, _⟩, _⟩ := h; rfl) | (obtain ⟨_, _, _, _, _, _, _, ⟨rfl, _⟩, _⟩ := h; rfl) | (obtain ⟨_, _, _, _, _, _, _, _, ⟨rfl, _⟩, _⟩ := h; rfl) | (obtain ⟨_, _, _, _, _, _, _, _, _, ⟨rfl, _⟩, _⟩ := h; rfl) | (obtain ⟨_, _, _, _, _, _, _, _, _, _, ⟨rfl, _⟩, _⟩ := h; rfl) | (obtain ⟨_, _, _, _, _, _, _, _, _, _, _, ⟨rfl, _⟩, _⟩ := h; rfl) | (obtain ⟨_, _, _, _, _, _, _, _, _, _, _, _, ⟨rfl, _⟩, _⟩ := h; rfl) | (obtain ⟨_, _, _, _, _, _, _, _, _, _, _, _, _, ⟨rfl, _⟩, _⟩ := h; rfl)) (fun W ds O k x h lo => Q.w__law_after h lo)
  have F__law_circle : FE P w K mg base 2 "_law_circle" ["_law_box_here", "_law_keys_here"] [] (toSp K (sp__law_circle K)) := ok__law_circle T F__law_take (fun ds O k x h => by first | (obtain ⟨_, ⟨rfl, _⟩, _⟩ := h; rfl) | (obtain ⟨_, _, ⟨rfl, _⟩, _⟩ := h; rfl) | (obtain ⟨_, _, _, ⟨rfl, _⟩, _⟩ := h; rfl) | (obtain ⟨_, _, _, _, ⟨rfl, _⟩, _⟩ := h; rfl) | (obtain ⟨_, _, _, _, _, ⟨rfl, _⟩, _⟩ := h; rfl) | (obtain ⟨_, _, _, _, _, _, ⟨rfl, _⟩, _⟩ := h; rfl) | (obtain ⟨_, _, _, _, _, _, _, ⟨rfl, _⟩, _⟩ := h; rfl) | (obtain ⟨_, _, _, _, _, _, _, _, ⟨rfl, _⟩, _⟩ := h; rfl) | (obtain ⟨_, _, _, _, _, _, _, _, _, ⟨rfl, _⟩, _⟩ := h; rfl) | (obtain ⟨_, _, _, _, _, _, _, _, _, _, ⟨rfl, _⟩, _⟩ := h; rfl) | (obtain ⟨_, _, _, _, _, _, _, _, _, _, _, ⟨rfl, _⟩, _⟩ := h; rfl) | (obtain ⟨_, _, _, _, _, _, _, _, _, _, _, _, ⟨rfl, _⟩, _⟩ := h; rfl) | (obtain ⟨_, _, _, _, _, _, _, _, _, _, _, _, _, ⟨rfl, _⟩, _⟩ := h; rfl)) (fun W ds O k x h lo => Q.w__law_circle h lo)
  have F__law_order : FE P w K mg base 2 "_law_order" ["_law_box_here", "_law_keys_here"] [] (toSp K (sp__law_order K)) := ok__law_order T F__law_take (fun ds O k x h => by first | (obtain ⟨_, ⟨rfl, _⟩, _⟩ := h; rfl) | (obtain ⟨_, _, ⟨rfl, _⟩, _⟩ := h; rfl) | (obtain ⟨_, _, _, ⟨rfl, _⟩, _⟩ := h; rfl) | (obtain ⟨_, _, _, _, ⟨rfl, _⟩, _⟩ := h; rfl) | (obtain ⟨_, _, _, _, _, ⟨rfl, _⟩, _⟩ := h; rfl) | (obtain ⟨_, _, _, _, _, _, ⟨rfl, _⟩, _⟩ := h; rfl) | (obtain ⟨_, _, _, _, _, _, _, ⟨rfl, _⟩, _⟩ := h; rfl) | (obtain ⟨_, _, _, _, _, _, _, _, ⟨rfl, _⟩, _⟩ := h; rfl) | (obtain ⟨_, _, _, _, _, _, _, _, _, ⟨rfl, _⟩, _⟩ := h; rfl) | (obtain ⟨_, _, _, _, _, _, _, _, _, _, ⟨rfl, _⟩, _⟩ := h; rfl) | (obtain ⟨_, _, _, _, _, _, _, _, _, _, _, ⟨rfl, _⟩, _⟩ := h; rfl) | (obtain ⟨_, _, _, _, _, _, _, _, _, _, _, _, ⟨rfl, _⟩, _⟩ := h; rfl) | (obtain ⟨_, _, _, _, _, _, _, _, _, _, _, _, _, ⟨rfl, _⟩, _⟩ := h; rfl)) (fun W ds O k x h lo => Q.w__law_order h lo)
  have F__law_keys : FE P w K mg base 3 "_law_keys" ["_law_box_here", "_law_count"] [] (toSp K (sp__law_keys K)) := ok__law_keys T F__law_order F__law_take (fun ds O k x h => by first | (obtain ⟨_, ⟨rfl, _⟩, _⟩ := h; rfl) | (obtain ⟨_, _, ⟨rfl, _⟩, _⟩ := h; rfl) | (obtain ⟨_, _, _, ⟨rfl, _⟩, _⟩ := h; rfl) | (obtain ⟨_, _, _, _, ⟨rfl, _⟩, _⟩ := h; rfl) | (obtain ⟨_, _, _, _, _, ⟨rfl, _⟩, _⟩ := h; rfl) | (obtain ⟨_, _, _, _, _, _, ⟨rfl, _⟩, _⟩ := h; rfl) | (obtain ⟨_, _, _, _, _, _, _, ⟨rfl, _⟩, _⟩ := h; rfl) | (obtain ⟨_, _, _, _, _, _, _, _, ⟨rfl, _⟩, _⟩ := h; rfl) | (obtain ⟨_, _, _, _, _, _, _, _, _, ⟨rfl, _⟩, _⟩ := h; rfl) | (obtain ⟨_, _, _, _, _, _, _, _, _, _, ⟨rfl, _⟩, _⟩ := h; rfl) | (obtain ⟨_, _, _, _, _, _, _, _, _, _, _, ⟨rfl, _⟩, _⟩ := h; rfl) | (obtain ⟨_, _, _, _, _, _, _, _, _, _, _, _, ⟨rfl, _⟩, _⟩ := h; rfl) | (obtain ⟨_, _, _, _, _, _, _, _, _, _, _, _, _, ⟨rfl, _⟩, _⟩ := h; rfl)) (fun W ds O k x h lo => Q.w__law_keys h lo)
  have F__law_quiet : FE P w K mg base 1 "_law_quiet" ["_law_lists_here", "_law_swap"] [] (toSp K (sp__law_quiet K)) := ok__law_quiet T (fun ds O k x h => by first | (obtain ⟨_, ⟨rfl, _⟩, _⟩ := h; rfl) | (obtain ⟨_, _, ⟨rfl, _⟩, _⟩ := h; rfl) | (obtain ⟨_, _, _, ⟨rfl, _⟩, _⟩ := h; rfl) | (obtain ⟨_, _, _, _, ⟨rfl, _⟩, _⟩ := h; rfl) | (obtain ⟨_, _, _, _, _, ⟨rfl, _⟩, _⟩ := h; rfl) | (obtain ⟨_, _, _, _, _, _, ⟨rfl, _⟩, _⟩ := h; rfl) | (obtain ⟨_, _, _, _, _, _, _, ⟨rfl, _⟩, _⟩ := h; rfl) | (obtain ⟨_, _, _, _, _, _, _, _, ⟨rfl, _⟩, _⟩ := h; rfl) | (obtain ⟨_, _, _, _, _, _, _, _, _, ⟨rfl, _⟩, _⟩ := h; rfl) | (obtain ⟨_, _, _, _, _, _, _, _, _, _, ⟨rfl, _⟩, _⟩ := h; rfl) | (obtain ⟨_, _, _, _, _, _, _, _, _, _, _, ⟨rfl, _⟩, _⟩ := h; rfl) | (obtain ⟨_, _, _, _, _, _, _, _, _, _, _, _, ⟨rfl, _⟩, _⟩ := h; rfl) | (obtain ⟨_, _, _, _, _, _, _, _, _, _, _, _, _, ⟨rfl, _⟩, _⟩ := h; rfl)) (fun W ds O k x h lo => Q.w__law_quiet h lo)
  have F__law_silent : FE P w K mg base 2 "_law_silent" ["_law_lists_here"] [] (toSp K (sp__law_silent_v2 K)) := ok__law_silent T F__law_quiet (fun ds O k x h => by first | (obtain ⟨_, ⟨rfl, _⟩, _⟩ := h; rfl) | (obtain ⟨_, _, ⟨rfl, _⟩, _⟩ := h; rfl) | (obtain ⟨_, _, _, ⟨rfl, _⟩, _⟩ := h; rfl) | (obtain ⟨_, _, _, _, ⟨rfl, _⟩, _⟩ := h; rfl) | (obtain ⟨_, _, _, _, _, ⟨rfl, _⟩, _⟩ := h; rfl) | (obtain ⟨_, _, _, _, _, _, ⟨rfl, _⟩, _⟩ := h; rfl) | (obtain ⟨_, _, _, _, _, _, _, ⟨rfl, _⟩, _⟩ := h; rfl) | (obtain ⟨_, _, _, _, _, _, _, _, ⟨rfl, _⟩, _⟩ := h; rfl) | (obtain ⟨_, _, _, _, _, _, _, _, _, ⟨rfl, _⟩, _⟩ := h; rfl) | (obtain ⟨_, _, _, _, _, _, _, _, _, _, ⟨rfl, _⟩, _⟩ := h; rfl) | (obtain ⟨_, _, _, _, _, _, _, _, _, _, _, ⟨rfl, _⟩, _⟩ := h; rfl) | (obtain ⟨_, _, _, _, _, _, _, _, _, _, _, _, ⟨rfl, _⟩, _⟩ := h; rfl) | (obtain ⟨_, _, _, _, _, _, _, _, _, _, _, _, _, ⟨rfl, _⟩, _⟩ := h; rfl)) (fun W ds O k x h lo => Q.w__law_silent_v2 h lo)
  have F__law_walk : FE P w K mg base 3 "_law_walk" ["_law_box_here", "_law_lists_here", "_law_steps"] [] (toSp K (sp__law_walk_v2 K)) := ok__law_walk T F__law_silent F__law_swapped F__law_take (fun ds O k x h => by first | (obtain ⟨_, ⟨rfl, _⟩, _⟩ := h; rfl) | (obtain ⟨_, _, ⟨rfl, _⟩, _⟩ := h; rfl) | (obtain ⟨_, _, _, ⟨rfl, _⟩, _⟩ := h; rfl) | (obtain ⟨_, _, _, _, ⟨rfl, _⟩, _⟩ := h; rfl) | (obtain ⟨_, _, _, _, _, ⟨rfl, _⟩, _⟩ := h; rfl) | (obtain ⟨_, _, _, _, _, _, ⟨rfl, _⟩, _⟩ := h; rfl) | (obtain ⟨_, _, _, _, _, _, _, ⟨rfl, _⟩, _⟩ := h; rfl) | (obtain ⟨_, _, _, _, _, _, _, _, ⟨rfl, _⟩, _⟩ := h; rfl) | (obtain ⟨_, _, _, _, _, _, _, _, _, ⟨rfl, _⟩, _⟩ := h; rfl) | (obtain ⟨_, _, _, _, _, _, _, _, _, _, ⟨rfl, _⟩, _⟩ := h; rfl) | (obtain ⟨_, _, _, _, _, _, _, _, _, _, _, ⟨rfl, _⟩, _⟩ := h; rfl) | (obtain ⟨_, _, _, _, _, _, _, _, _, _, _, _, ⟨rfl, _⟩, _⟩ := h; rfl) | (obtain ⟨_, _, _, _, _, _, _, _, _, _, _, _, _, ⟨rfl, _⟩, _⟩ := h; rfl)) (fun W ds O k x h lo => Q.w__law_walk_v2 h lo)
  have F__law_lists : FE P w K mg base 4 "_law_lists" ["_law_box_here"] [] (toSp K (sp__law_lists K)) := ok__law_lists T F__law_after F__law_circle F__law_keys F__law_order F__law_take F__law_walk (fun ds O k x h => by first | (obtain ⟨_, ⟨rfl, _⟩, _⟩ := h; rfl) | (obtain ⟨_, _, ⟨rfl, _⟩, _⟩ := h; rfl) | (obtain ⟨_, _, _, ⟨rfl, _⟩, _⟩ := h; rfl) | (obtain ⟨_, _, _, _, ⟨rfl, _⟩, _⟩ := h; rfl) | (obtain ⟨_, _, _, _, _, ⟨rfl, _⟩, _⟩ := h; rfl) | (obtain ⟨_, _, _, _, _, _, ⟨rfl, _⟩, _⟩ := h; rfl) | (obtain ⟨_, _, _, _, _, _, _, ⟨rfl, _⟩, _⟩ := h; rfl) | (obtain ⟨_, _, _, _, _, _, _, _, ⟨rfl, _⟩, _⟩ := h; rfl) | (obtain ⟨_, _, _, _, _, _, _, _, _, ⟨rfl, _⟩, _⟩ := h; rfl) | (obtain ⟨_, _, _, _, _, _, _, _, _, _, ⟨rfl, _⟩, _⟩ := h; rfl) | (obtain ⟨_, _, _, _, _, _, _, _, _, _, _, ⟨rfl, _⟩, _⟩ := h; rfl) | (obtain ⟨_, _, _, _, _, _, _, _, _, _, _, _, ⟨rfl, _⟩, _⟩ := h; rfl) | (obtain ⟨_, _, _, _, _, _, _, _, _, _, _, _, _, ⟨rfl, _⟩, _⟩ := h; rfl)) (fun W ds O k x h lo => Q.w__law_lists h lo)
  have F__law_refused : FE P w K mg base 2 "_law_refused" ["_law_answer", "_law_word"] [] (toSp K (sp__law_refused_v4 K)) := ok__law_refused T F__law_is_number (fun ds O k x h => by first | (obtain ⟨_, ⟨rfl, _⟩, _⟩ := h; rfl) | (obtain ⟨_, _, ⟨rfl, _⟩, _⟩ := h; rfl) | (obtain ⟨_, _, _, ⟨rfl, _⟩, _⟩ := h; rfl) | (obtain ⟨_, _, _, _, ⟨rfl, _⟩, _⟩ := h; rfl) | (obtain ⟨_, _, _, _, _, ⟨rfl, _⟩, _⟩ := h; rfl) | (obtain ⟨_, _, _, _, _, _, ⟨rfl, _⟩, _⟩ := h; rfl) | (obtain ⟨_, _, _, _, _, _, _, ⟨rfl, _⟩, _⟩ := h; rfl) | (obtain ⟨_, _, _, _, _, _, _, _, ⟨rfl, _⟩, _⟩ := h; rfl) | (obtain ⟨_, _, _, _, _, _, _, _, _, ⟨rfl, _⟩, _⟩ := h; rfl) | (obtain ⟨_, _, _, _, _, _, _, _, _, _, ⟨rfl, _⟩, _⟩ := h; rfl) | (obtain ⟨_, _, _, _, _, _, _, _, _, _, _, ⟨rfl, _⟩, _⟩ := h; rfl) | (obtain ⟨_, _, _, _, _, _, _, _, _, _, _, _, ⟨rfl, _⟩, _⟩ := h; rfl) | (obtain ⟨_, _, _, _, _, _, _, _, _, _, _, _, _, ⟨rfl, _⟩, _⟩ := h; rfl)) (fun W ds O k x h lo => Q.w__law_refused_v4 h lo)
  have F_check_replica : FE P w K mg base 2 "check_replica" ["replica"] [] (toSp K (sp_check_replica K)) := ok_check_replica T (fun ds O k x h => by first | (obtain ⟨_, ⟨rfl, _⟩, _⟩ := h; rfl) | (obtain ⟨_, _, ⟨rfl, _⟩, _⟩ := h; rfl) | (obtain ⟨_, _, _, ⟨rfl, _⟩, _⟩ := h; rfl) | (obtain ⟨_, _, _, _, ⟨rfl, _⟩, _⟩ := h; rfl) | (obtain ⟨_, _, _, _, _, ⟨rfl, _⟩, _⟩ := h; rfl) | (obtain ⟨_, _, _, _, _, _, ⟨rfl, _⟩, _⟩ := h; rfl) | (obtain ⟨_, _, _, _, _, _, _, ⟨rfl, _⟩, _⟩ := h; rfl) | (obtain ⟨_, _, _, _, _, _, _, _, ⟨rfl, _⟩, _⟩ := h; rfl) | (obtain ⟨_, _, _, _, _, _, _, _, _, ⟨rfl, _⟩, _⟩ := h; rfl) | (obtain ⟨_, _, _, _, _, _, _, _, _, _, ⟨rfl, _⟩, _⟩ := h; rfl) | (obtain ⟨_, _, _, _, _, _, _, _, _, _, _, ⟨rfl, _⟩, _⟩ := h; rfl) | (obtain ⟨_, _, _, _, _, _, _, _, _, _, _, _, ⟨rfl, _⟩, _⟩ := h; rfl) | (obtain ⟨_, _, _, _, _, _, _, _, _, _, _, _, _, ⟨rfl, _⟩, _⟩ := h; rfl)) (fun W ds O k x h lo => Q.w_check_replica h lo)
  have F_require_key : FE P w K mg base 2 "require_key" ["keys", "key"] [] (toSp K (sp_require_key K)) := ok_require_key T (fun ds O k x h => by first | (obtain ⟨_, ⟨rfl, _⟩, _⟩ := h; rfl) | (obtain ⟨_, _, ⟨rfl, _⟩, _⟩ := h; rfl) | (obtain ⟨_, _, _, ⟨rfl, _⟩, _⟩ := h; rfl) | (obtain ⟨_, _, _, _, ⟨rfl, _⟩, _⟩ := h; rfl) | (obtain ⟨_, _, _, _, _, ⟨rfl, _⟩, _⟩ := h; rfl) | (obtain ⟨_, _, _, _, _, _, ⟨rfl, _⟩, _⟩ := h; rfl) | (obtain ⟨_, _, _, _, _, _, _, ⟨rfl, _⟩, _⟩ := h; rfl) | (obtain ⟨_, _, _, _, _, _, _, _, ⟨rfl, _⟩, _⟩ := h; rfl) | (obtain ⟨_, _, _, _, _, _, _, _, _, ⟨rfl, _⟩, _⟩ := h; rfl) | (obtain ⟨_, _, _, _, _, _, _, _, _, _, ⟨rfl, _⟩, _⟩ := h; rfl) | (obtain ⟨_, _, _, _, _, _, _, _, _, _, _, ⟨rfl, _⟩, _⟩ := h; rfl) | (obtain ⟨_, _, _, _, _, _, _, _, _, _, _, _, ⟨rfl, _⟩, _⟩ := h; rfl) | (obtain ⟨_, _, _, _, _, _, _, _, _, _, _, _, _, ⟨rfl, _⟩, _⟩ := h; rfl)) (fun W ds O k x h lo => Q.w_require_key h lo)
  have F_State_says : FM P w K mg base 3 (He.ga K "State") "says" ["self", "replica", "x", "y"] [] (toSp K (sp_State_says K)) := ok_State_says T F_check_replica F_require_key (fun ds O k x h => by first | (obtain ⟨_, ⟨rfl, _⟩, _⟩ := h; rfl) | (obtain ⟨_, _, ⟨rfl, _⟩, _⟩ := h; rfl) | (obtain ⟨_, _, _, ⟨rfl, _⟩, _⟩ := h; rfl) | (obtain ⟨_, _, _, _, ⟨rfl, _⟩, _⟩ := h; rfl) | (obtain ⟨_, _, _, _, _, ⟨rfl, _⟩, _⟩ := h; rfl) | (obtain ⟨_, _, _, _, _, _, ⟨rfl, _⟩, _⟩ := h; rfl) | (obtain ⟨_, _, _, _, _, _, _, ⟨rfl, _⟩, _⟩ := h; rfl) | (obtain ⟨_, _, _, _, _, _, _, _, ⟨rfl, _⟩, _⟩ := h; rfl) | (obtain ⟨_, _, _, _, _, _, _, _, _, ⟨rfl, _⟩, _⟩ := h; rfl) | (obtain ⟨_, _, _, _, _, _, _, _, _, _, ⟨rfl, _⟩, _⟩ := h; rfl) | (obtain ⟨_, _, _, _, _, _, _, _, _, _, _, ⟨rfl, _⟩, _⟩ := h; rfl) | (obtain ⟨_, _, _, _, _, _, _, _, _, _, _, _, ⟨rfl, _⟩, _⟩ := h; rfl) | (obtain ⟨_, _, _, _, _, _, _, _, _, _, _, _, _, ⟨rfl, _⟩, _⟩ := h; rfl)) (fun W ds O k x h lo => Q.w_State_says ⟨T.C_State, T.na_State__places⟩ h lo)
  have F__other_replicas : FE P w K mg base 1 "_other_replicas" ["replica"] [] (toSp K (sp__other_replicas K)) := ok__other_replicas T (fun ds O k x h => by first | (obtain ⟨_, ⟨rfl, _⟩, _⟩ := h; rfl) | (obtain ⟨_, _, ⟨rfl, _⟩, _⟩ := h; rfl) | (obtain ⟨_, _, _, ⟨rfl, _⟩, _⟩ := h; rfl) | (obtain ⟨_, _, _, _, ⟨rfl, _⟩, _⟩ := h; rfl) | (obtain ⟨_, _, _, _, _, ⟨rfl, _⟩, _⟩ := h; rfl) | (obtain ⟨_, _, _, _, _, _, ⟨rfl, _⟩, _⟩ := h; rfl) | (obtain ⟨_, _, _, _, _, _, _, ⟨rfl, _⟩, _⟩ := h; rfl) | (obtain ⟨_, _, _, _, _, _, _, _, ⟨rfl, _⟩, _⟩ := h; rfl) | (obtain ⟨_, _, _, _, _, _, _, _, _, ⟨rfl, _⟩, _⟩ := h; rfl) | (obtain ⟨_, _, _, _, _, _, _, _, _, _, ⟨rfl, _⟩, _⟩ := h; rfl) | (obtain ⟨_, _, _, _, _, _, _, _, _, _, _, ⟨rfl, _⟩, _⟩ := h; rfl) | (obtain ⟨_, _, _, _, _, _, _, _, _, _, _, _, ⟨rfl, _⟩, _⟩ := h; rfl) | (obtain ⟨_, _, _, _, _, _, _, _, _, _, _, _, _, ⟨rfl, _⟩, _⟩ := h; rfl)) (fun W ds O k x h lo => Q.w__other_replicas ⟨T.cv_State_REPLICAS⟩ h lo)
  have F_State_list_of : FM P w K mg base 3 (He.ga K "State") "list_of" ["self", "replica"] [] (toSp K (sp_State_list_of K)) := ok_State_list_of T F_check_replica (fun ds O k x h => by first | (obtain ⟨_, ⟨rfl, _⟩, _⟩ := h; rfl) | (obtain ⟨_, _, ⟨rfl, _⟩, _⟩ := h; rfl) | (obtain ⟨_, _, _, ⟨rfl, _⟩, _⟩ := h; rfl) | (obtain ⟨_, _, _, _, ⟨rfl, _⟩, _⟩ := h; rfl) | (obtain ⟨_, _, _, _, _, ⟨rfl, _⟩, _⟩ := h; rfl) | (obtain ⟨_, _, _, _, _, _, ⟨rfl, _⟩, _⟩ := h; rfl) | (obtain ⟨_, _, _, _, _, _, _, ⟨rfl, _⟩, _⟩ := h; rfl) | (obtain ⟨_, _, _, _, _, _, _, _, ⟨rfl, _⟩, _⟩ := h; rfl) | (obtain ⟨_, _, _, _, _, _, _, _, _, ⟨rfl, _⟩, _⟩ := h; rfl) | (obtain ⟨_, _, _, _, _, _, _, _, _, _, ⟨rfl, _⟩, _⟩ := h; rfl) | (obtain ⟨_, _, _, _, _, _, _, _, _, _, _, ⟨rfl, _⟩, _⟩ := h; rfl) | (obtain ⟨_, _, _, _, _, _, _, _, _, _, _, _, ⟨rfl, _⟩, _⟩ := h; rfl) | (obtain ⟨_, _, _, _, _, _, _, _, _, _, _, _, _, ⟨rfl, _⟩, _⟩ := h; rfl)) (fun W ds O k x h lo => Q.w_State_list_of ⟨T.C_State, T.na_State__lists⟩ h lo)
  have F_State___len__ : FM P w K mg base 1 (He.ga K "State") "__len__" ["self"] [] (toSp K (sp_State___len__ K)) := ok_State___len__ T (fun ds O k x h => by first | (obtain ⟨_, ⟨rfl, _⟩, _⟩ := h; rfl) | (obtain ⟨_, _, ⟨rfl, _⟩, _⟩ := h; rfl) | (obtain ⟨_, _, _, ⟨rfl, _⟩, _⟩ := h; rfl) | (obtain ⟨_, _, _, _, ⟨rfl, _⟩, _⟩ := h; rfl) | (obtain ⟨_, _, _, _, _, ⟨rfl, _⟩, _⟩ := h; rfl) | (obtain ⟨_, _, _, _, _, _, ⟨rfl, _⟩, _⟩ := h; rfl) | (obtain ⟨_, _, _, _, _, _, _, ⟨rfl, _⟩, _⟩ := h; rfl) | (obtain ⟨_, _, _, _, _, _, _, _, ⟨rfl, _⟩, _⟩ := h; rfl) | (obtain ⟨_, _, _, _, _, _, _, _, _, ⟨rfl, _⟩, _⟩ := h; rfl) | (obtain ⟨_, _, _, _, _, _, _, _, _, _, ⟨rfl, _⟩, _⟩ := h; rfl) | (obtain ⟨_, _, _, _, _, _, _, _, _, _, _, ⟨rfl, _⟩, _⟩ := h; rfl) | (obtain ⟨_, _, _, _, _, _, _, _, _, _, _, _, ⟨rfl, _⟩, _⟩ := h; rfl) | (obtain ⟨_, _, _, _, _, _, _, _, _, _, _, _, _, ⟨rfl, _⟩, _⟩ := h; rfl)) (fun W ds O k x h lo => Q.w_State___len__ ⟨T.C_State, T.na_State__lists⟩ h lo)
  have F_is_swap : FE P w K mg base 3 "is_swap" ["state", "swap"] [] (toSp K (sp_is_swap K)) := ok_is_swap T F_State___len__ (fun ds O k x h => by first | (obtain ⟨_, ⟨rfl, _⟩, _⟩ := h; rfl) | (obtain ⟨_, _, ⟨rfl, _⟩, _⟩ := h; rfl) | (obtain ⟨_, _, _, ⟨rfl, _⟩, _⟩ := h; rfl) | (obtain ⟨_, _, _, _, ⟨rfl, _⟩, _⟩ := h; rfl) | (obtain ⟨_, _, _, _, _, ⟨rfl, _⟩, _⟩ := h; rfl) | (obtain ⟨_, _, _, _, _, _, ⟨rfl, _⟩, _⟩ := h; rfl) | (obtain ⟨_, _, _, _, _, _, _, ⟨rfl, _⟩, _⟩ := h; rfl) | (obtain ⟨_, _, _, _, _, _, _, _, ⟨rfl, _⟩, _⟩ := h; rfl) | (obtain ⟨_, _, _, _, _, _, _, _, _, ⟨rfl, _⟩, _⟩ := h; rfl) | (obtain ⟨_, _, _, _, _, _, _, _, _, _, ⟨rfl, _⟩, _⟩ := h; rfl) | (obtain ⟨_, _, _, _, _, _, _, _, _, _, _, ⟨rfl, _⟩, _⟩ := h; rfl) | (obtain ⟨_, _, _, _, _, _, _, _, _, _, _, _, ⟨rfl, _⟩, _⟩ := h; rfl) | (obtain ⟨_, _, _, _, _, _, _, _, _, _, _, _, _, ⟨rfl, _⟩, _⟩ := h; rfl)) (fun W ds O k x h lo => Q.w_is_swap ⟨T.cv_State_REPLICAS⟩ h lo)
  have F_swap_pair : FE P w K mg base 4 "swap_pair" ["state", "swap"] [] (toSp K (sp_swap_pair K)) := ok_swap_pair T F_State_list_of F_is_swap (fun ds O k x h => by first | (obtain ⟨_, ⟨rfl, _⟩, _⟩ := h; rfl) | (obtain ⟨_, _, ⟨rfl, _⟩, _⟩ := h; rfl) | (obtain ⟨_, _, _, ⟨rfl, _⟩, _⟩ := h; rfl) | (obtain ⟨_, _, _, _, ⟨rfl, _⟩, _⟩ := h; rfl) | (obtain ⟨_, _, _, _, _, ⟨rfl, _⟩, _⟩ := h; rfl) | (obtain ⟨_, _, _, _, _, _, ⟨rfl, _⟩, _⟩ := h; rfl) | (obtain ⟨_, _, _, _, _, _, _, ⟨rfl, _⟩, _⟩ := h; rfl) | (obtain ⟨_, _, _, _, _, _, _, _, ⟨rfl, _⟩, _⟩ := h; rfl) | (obtain ⟨_, _, _, _, _, _, _, _, _, ⟨rfl, _⟩, _⟩ := h; rfl) | (obtain ⟨_, _, _, _, _, _, _, _, _, _, ⟨rfl, _⟩, _⟩ := h; rfl) | (obtain ⟨_, _, _, _, _, _, _, _, _, _, _, ⟨rfl, _⟩, _⟩ := h; rfl) | (obtain ⟨_, _, _, _, _, _, _, _, _, _, _, _, ⟨rfl, _⟩, _⟩ := h; rfl) | (obtain ⟨_, _, _, _, _, _, _, _, _, _, _, _, _, ⟨rfl, _⟩, _⟩ := h; rfl)) (fun W ds O k x h lo => Q.w_swap_pair h lo)
  have F_is_silent : FE P w K mg base 5 "is_silent" ["state", "swap"] [] (toSp K (sp_is_silent K)) := ok_is_silent T F_State_says F__other_replicas F_swap_pair (fun ds O k x h => by first | (obtain ⟨_, ⟨rfl, _⟩, _⟩ := h; rfl) | (obtain ⟨_, _, ⟨rfl, _⟩, _⟩ := h; rfl) | (obtain ⟨_, _, _, ⟨rfl, _⟩, _⟩ := h; rfl) | (obtain ⟨_, _, _, _, ⟨rfl, _⟩, _⟩ := h; rfl) | (obtain ⟨_, _, _, _, _, ⟨rfl, _⟩, _⟩ := h; rfl) | (obtain ⟨_, _, _, _, _, _, ⟨rfl, _⟩, _⟩ := h; rfl) | (obtain ⟨_, _, _, _, _, _, _, ⟨rfl, _⟩, _⟩ := h; rfl) | (obtain ⟨_, _, _, _, _, _, _, _, ⟨rfl, _⟩, _⟩ := h; rfl) | (obtain ⟨_, _, _, _, _, _, _, _, _, ⟨rfl, _⟩, _⟩ := h; rfl) | (obtain ⟨_, _, _, _, _, _, _, _, _, _, ⟨rfl, _⟩, _⟩ := h; rfl) | (obtain ⟨_, _, _, _, _, _, _, _, _, _, _, ⟨rfl, _⟩, _⟩ := h; rfl) | (obtain ⟨_, _, _, _, _, _, _, _, _, _, _, _, ⟨rfl, _⟩, _⟩ := h; rfl) | (obtain ⟨_, _, _, _, _, _, _, _, _, _, _, _, _, ⟨rfl, _⟩, _⟩ := h; rfl)) (fun W ds O k x h lo => Q.w_is_silent h lo)
  have F_State_all_keys : FM P w K mg base 1 (He.ga K "State") "all_keys" ["self"] [] (toSp K (sp_State_all_keys K)) := ok_State_all_keys T (fun ds O k x h => by first | (obtain ⟨_, ⟨rfl, _⟩, _⟩ := h; rfl) | (obtain ⟨_, _, ⟨rfl, _⟩, _⟩ := h; rfl) | (obtain ⟨_, _, _, ⟨rfl, _⟩, _⟩ := h; rfl) | (obtain ⟨_, _, _, _, ⟨rfl, _⟩, _⟩ := h; rfl) | (obtain ⟨_, _, _, _, _, ⟨rfl, _⟩, _⟩ := h; rfl) | (obtain ⟨_, _, _, _, _, _, ⟨rfl, _⟩, _⟩ := h; rfl) | (obtain ⟨_, _, _, _, _, _, _, ⟨rfl, _⟩, _⟩ := h; rfl) | (obtain ⟨_, _, _, _, _, _, _, _, ⟨rfl, _⟩, _⟩ := h; rfl) | (obtain ⟨_, _, _, _, _, _, _, _, _, ⟨rfl, _⟩, _⟩ := h; rfl) | (obtain ⟨_, _, _, _, _, _, _, _, _, _, ⟨rfl, _⟩, _⟩ := h; rfl) | (obtain ⟨_, _, _, _, _, _, _, _, _, _, _, ⟨rfl, _⟩, _⟩ := h; rfl) | (obtain ⟨_, _, _, _, _, _, _, _, _, _, _, _, ⟨rfl, _⟩, _⟩ := h; rfl) | (obtain ⟨_, _, _, _, _, _, _, _, _, _, _, _, _, ⟨rfl, _⟩, _⟩ := h; rfl)) (fun W ds O k x h lo => Q.w_State_all_keys ⟨T.C_State, T.na_State__lists⟩ h lo)
  have F_State_with_list : FM P w K mg base 5 (He.ga K "State") "with_list" ["self", "replica", "order"] [] (toSp K (sp_State_with_list K)) := ok_State_with_list T F_State___init__ F_State_all_keys F_State_lists F_check_replica F_first_wrong_place (fun ds O k x h => by first | (obtain ⟨_, ⟨rfl, _⟩, _⟩ := h; rfl) | (obtain ⟨_, _, ⟨rfl, _⟩, _⟩ := h; rfl) | (obtain ⟨_, _, _, ⟨rfl, _⟩, _⟩ := h; rfl) | (obtain ⟨_, _, _, _, ⟨rfl, _⟩, _⟩ := h; rfl) | (obtain ⟨_, _, _, _, _, ⟨rfl, _⟩, _⟩ := h; rfl) | (obtain ⟨_, _, _, _, _, _, ⟨rfl, _⟩, _⟩ := h; rfl) | (obtain ⟨_, _, _, _, _, _, _, ⟨rfl, _⟩, _⟩ := h; rfl) | (obtain ⟨_, _, _, _, _, _, _, _, ⟨rfl, _⟩, _⟩ := h; rfl) | (obtain ⟨_, _, _, _, _, _, _, _, _, ⟨rfl, _⟩, _⟩ := h; rfl) | (obtain ⟨_, _, _, _, _, _, _, _, _, _, ⟨rfl, _⟩, _⟩ := h; rfl) | (obtain ⟨_, _, _, _, _, _, _, _, _, _, _, ⟨rfl, _⟩, _⟩ := h; rfl) | (obtain ⟨_, _, _, _, _, _, _, _, _, _, _, _, ⟨rfl, _⟩, _⟩ := h; rfl) | (obtain ⟨_, _, _, _, _, _, _, _, _, _, _, _, _, ⟨rfl, _⟩, _⟩ := h; rfl)) (fun W ds O k x h lo => Q.w_State_with_list h lo)
  have F_check_list : FE P w K mg base 2 "check_list" ["order"] [] (toSp K (sp_check_list K)) := ok_check_list T F_first_wrong_place (fun ds O k x h => by first | (obtain ⟨_, ⟨rfl, _⟩, _⟩ := h; rfl) | (obtain ⟨_, _, ⟨rfl, _⟩, _⟩ := h; rfl) | (obtain ⟨_, _, _, ⟨rfl, _⟩, _⟩ := h; rfl) | (obtain ⟨_, _, _, _, ⟨rfl, _⟩, _⟩ := h; rfl) | (obtain ⟨_, _, _, _, _, ⟨rfl, _⟩, _⟩ := h; rfl) | (obtain ⟨_, _, _, _, _, _, ⟨rfl, _⟩, _⟩ := h; rfl) | (obtain ⟨_, _, _, _, _, _, _, ⟨rfl, _⟩, _⟩ := h; rfl) | (obtain ⟨_, _, _, _, _, _, _, _, ⟨rfl, _⟩, _⟩ := h; rfl) | (obtain ⟨_, _, _, _, _, _, _, _, _, ⟨rfl, _⟩, _⟩ := h; rfl) | (obtain ⟨_, _, _, _, _, _, _, _, _, _, ⟨rfl, _⟩, _⟩ := h; rfl) | (obtain ⟨_, _, _, _, _, _, _, _, _, _, _, ⟨rfl, _⟩, _⟩ := h; rfl) | (obtain ⟨_, _, _, _, _, _, _, _, _, _, _, _, ⟨rfl, _⟩, _⟩ := h; rfl) | (obtain ⟨_, _, _, _, _, _, _, _, _, _, _, _, _, ⟨rfl, _⟩, _⟩ := h; rfl)) (fun W ds O k x h lo => Q.w_check_list h lo)
  have F_swap_at : FE P w K mg base 3 "swap_at" ["order", "index"] [] (toSp K (sp_swap_at K)) := ok_swap_at T F_check_list (fun ds O k x h => by first | (obtain ⟨_, ⟨rfl, _⟩, _⟩ := h; rfl) | (obtain ⟨_, _, ⟨rfl, _⟩, _⟩ := h; rfl) | (obtain ⟨_, _, _, ⟨rfl, _⟩, _⟩ := h; rfl) | (obtain ⟨_, _, _, _, ⟨rfl, _⟩, _⟩ := h; rfl) | (obtain ⟨_, _, _, _, _, ⟨rfl, _⟩, _⟩ := h; rfl) | (obtain ⟨_, _, _, _, _, _, ⟨rfl, _⟩, _⟩ := h; rfl) | (obtain ⟨_, _, _, _, _, _, _, ⟨rfl, _⟩, _⟩ := h; rfl) | (obtain ⟨_, _, _, _, _, _, _, _, ⟨rfl, _⟩, _⟩ := h; rfl) | (obtain ⟨_, _, _, _, _, _, _, _, _, ⟨rfl, _⟩, _⟩ := h; rfl) | (obtain ⟨_, _, _, _, _, _, _, _, _, _, ⟨rfl, _⟩, _⟩ := h; rfl) | (obtain ⟨_, _, _, _, _, _, _, _, _, _, _, ⟨rfl, _⟩, _⟩ := h; rfl) | (obtain ⟨_, _, _, _, _, _, _, _, _, _, _, _, ⟨rfl, _⟩, _⟩ := h; rfl) | (obtain ⟨_, _, _, _, _, _, _, _, _, _, _, _, _, ⟨rfl, _⟩, _⟩ := h; rfl)) (fun W ds O k x h lo => Q.w_swap_at h lo)
  have F_swapped_state : FE P w K mg base 6 "swapped_state" ["state", "swap"] [] (toSp K (sp_swapped_state K)) := ok_swapped_state T F_State_list_of F_State_with_list F_swap_at (fun ds O k x h => by first | (obtain ⟨_, ⟨rfl, _⟩, _⟩ := h; rfl) | (obtain ⟨_, _, ⟨rfl, _⟩, _⟩ := h; rfl) | (obtain ⟨_, _, _, ⟨rfl, _⟩, _⟩ := h; rfl) | (obtain ⟨_, _, _, _, ⟨rfl, _⟩, _⟩ := h; rfl) | (obtain ⟨_, _, _, _, _, ⟨rfl, _⟩, _⟩ := h; rfl) | (obtain ⟨_, _, _, _, _, _, ⟨rfl, _⟩, _⟩ := h; rfl) | (obtain ⟨_, _, _, _, _, _, _, ⟨rfl, _⟩, _⟩ := h; rfl) | (obtain ⟨_, _, _, _, _, _, _, _, ⟨rfl, _⟩, _⟩ := h; rfl) | (obtain ⟨_, _, _, _, _, _, _, _, _, ⟨rfl, _⟩, _⟩ := h; rfl) | (obtain ⟨_, _, _, _, _, _, _, _, _, _, ⟨rfl, _⟩, _⟩ := h; rfl) | (obtain ⟨_, _, _, _, _, _, _, _, _, _, _, ⟨rfl, _⟩, _⟩ := h; rfl) | (obtain ⟨_, _, _, _, _, _, _, _, _, _, _, _, ⟨rfl, _⟩, _⟩ := h; rfl) | (obtain ⟨_, _, _, _, _, _, _, _, _, _, _, _, _, ⟨rfl, _⟩, _⟩ := h; rfl)) (fun W ds O k x h lo => Q.w_swapped_state h lo)
  have F_apply_swap : FE P w K mg base 7 "apply_swap" ["state", "swap"] [] (toSp K (sp_apply_swap K)) := ok_apply_swap T F_is_silent F_swapped_state (fun ds O k x h => by first | (obtain ⟨_, ⟨rfl, _⟩, _⟩ := h; rfl) | (obtain ⟨_, _, ⟨rfl, _⟩, _⟩ := h; rfl) | (obtain ⟨_, _, _, ⟨rfl, _⟩, _⟩ := h; rfl) | (obtain ⟨_, _, _, _, ⟨rfl, _⟩, _⟩ := h; rfl) | (obtain ⟨_, _, _, _, _, ⟨rfl, _⟩, _⟩ := h; rfl) | (obtain ⟨_, _, _, _, _, _, ⟨rfl, _⟩, _⟩ := h; rfl) | (obtain ⟨_, _, _, _, _, _, _, ⟨rfl, _⟩, _⟩ := h; rfl) | (obtain ⟨_, _, _, _, _, _, _, _, ⟨rfl, _⟩, _⟩ := h; rfl) | (obtain ⟨_, _, _, _, _, _, _, _, _, ⟨rfl, _⟩, _⟩ := h; rfl) | (obtain ⟨_, _, _, _, _, _, _, _, _, _, ⟨rfl, _⟩, _⟩ := h; rfl) | (obtain ⟨_, _, _, _, _, _, _, _, _, _, _, ⟨rfl, _⟩, _⟩ := h; rfl) | (obtain ⟨_, _, _, _, _, _, _, _, _, _, _, _, ⟨rfl, _⟩, _⟩ := h; rfl) | (obtain ⟨_, _, _, _, _, _, _, _, _, _, _, _, _, ⟨rfl, _⟩, _⟩ := h; rfl)) (fun W ds O k x h lo => Q.w_apply_swap h lo)
  have F_dissenter : FE P w K mg base 4 "dissenter" ["state", "x", "y"] [] (toSp K (sp_dissenter K)) := ok_dissenter T F_State_says (fun ds O k x h => by first | (obtain ⟨_, ⟨rfl, _⟩, _⟩ := h; rfl) | (obtain ⟨_, _, ⟨rfl, _⟩, _⟩ := h; rfl) | (obtain ⟨_, _, _, ⟨rfl, _⟩, _⟩ := h; rfl) | (obtain ⟨_, _, _, _, ⟨rfl, _⟩, _⟩ := h; rfl) | (obtain ⟨_, _, _, _, _, ⟨rfl, _⟩, _⟩ := h; rfl) | (obtain ⟨_, _, _, _, _, _, ⟨rfl, _⟩, _⟩ := h; rfl) | (obtain ⟨_, _, _, _, _, _, _, ⟨rfl, _⟩, _⟩ := h; rfl) | (obtain ⟨_, _, _, _, _, _, _, _, ⟨rfl, _⟩, _⟩ := h; rfl) | (obtain ⟨_, _, _, _, _, _, _, _, _, ⟨rfl, _⟩, _⟩ := h; rfl) | (obtain ⟨_, _, _, _, _, _, _, _, _, _, ⟨rfl, _⟩, _⟩ := h; rfl) | (obtain ⟨_, _, _, _, _, _, _, _, _, _, _, ⟨rfl, _⟩, _⟩ := h; rfl) | (obtain ⟨_, _, _, _, _, _, _, _, _, _, _, _, ⟨rfl, _⟩, _⟩ := h; rfl) | (obtain ⟨_, _, _, _, _, _, _, _, _, _, _, _, _, ⟨rfl, _⟩, _⟩ := h; rfl)) (fun W ds O k x h lo => Q.w_dissenter ⟨T.cv_State_REPLICAS⟩ h lo)
  have F_barred_by : FE P w K mg base 6 "barred_by" ["state", "swap"] [] (toSp K (sp_barred_by K)) := ok_barred_by T F_dissenter F_is_silent F_swap_pair (fun ds O k x h => by first | (obtain ⟨_, ⟨rfl, _⟩, _⟩ := h; rfl) | (obtain ⟨_, _, ⟨rfl, _⟩, _⟩ := h; rfl) | (obtain ⟨_, _, _, ⟨rfl, _⟩, _⟩ := h; rfl) | (obtain ⟨_, _, _, _, ⟨rfl, _⟩, _⟩ := h; rfl) | (obtain ⟨_, _, _, _, _, ⟨rfl, _⟩, _⟩ := h; rfl) | (obtain ⟨_, _, _, _, _, _, ⟨rfl, _⟩, _⟩ := h; rfl) | (obtain ⟨_, _, _, _, _, _, _, ⟨rfl, _⟩, _⟩ := h; rfl) | (obtain ⟨_, _, _, _, _, _, _, _, ⟨rfl, _⟩, _⟩ := h; rfl) | (obtain ⟨_, _, _, _, _, _, _, _, _, ⟨rfl, _⟩, _⟩ := h; rfl) | (obtain ⟨_, _, _, _, _, _, _, _, _, _, ⟨rfl, _⟩, _⟩ := h; rfl) | (obtain ⟨_, _, _, _, _, _, _, _, _, _, _, ⟨rfl, _⟩, _⟩ := h; rfl) | (obtain ⟨_, _, _, _, _, _, _, _, _, _, _, _, ⟨rfl, _⟩, _⟩ := h; rfl) | (obtain ⟨_, _, _, _, _, _, _, _, _, _, _, _, _, ⟨rfl, _⟩, _⟩ := h; rfl)) (fun W ds O k x h lo => Q.w_barred_by h lo)
  have F__law_call : FE P w K mg base 8 "_law_call" ["_law_state", "_law_swap", "_law_way"] [] (toSp K (sp__law_call_v3 K)) := ok__law_call T F_apply_swap F_barred_by F_is_silent F_swap_pair (fun ds O k x h => by first | (obtain ⟨_, ⟨rfl, _⟩, _⟩ := h; rfl) | (obtain ⟨_, _, ⟨rfl, _⟩, _⟩ := h; rfl) | (obtain ⟨_, _, _, ⟨rfl, _⟩, _⟩ := h; rfl) | (obtain ⟨_, _, _, _, ⟨rfl, _⟩, _⟩ := h; rfl) | (obtain ⟨_, _, _, _, _, ⟨rfl, _⟩, _⟩ := h; rfl) | (obtain ⟨_, _, _, _, _, _, ⟨rfl, _⟩, _⟩ := h; rfl) | (obtain ⟨_, _, _, _, _, _, _, ⟨rfl, _⟩, _⟩ := h; rfl) | (obtain ⟨_, _, _, _, _, _, _, _, ⟨rfl, _⟩, _⟩ := h; rfl) | (obtain ⟨_, _, _, _, _, _, _, _, _, ⟨rfl, _⟩, _⟩ := h; rfl) | (obtain ⟨_, _, _, _, _, _, _, _, _, _, ⟨rfl, _⟩, _⟩ := h; rfl) | (obtain ⟨_, _, _, _, _, _, _, _, _, _, _, ⟨rfl, _⟩, _⟩ := h; rfl) | (obtain ⟨_, _, _, _, _, _, _, _, _, _, _, _, ⟨rfl, _⟩, _⟩ := h; rfl) | (obtain ⟨_, _, _, _, _, _, _, _, _, _, _, _, _, ⟨rfl, _⟩, _⟩ := h; rfl)) (fun W ds O k x h lo => Q.w__law_call_v3 h lo)
  have F__law_tried : FE P w K mg base 9 "_law_tried" ["_law_state", "_law_swap", "_law_way"] [] (toSp K (sp__law_tried_v3 K)) := ok__law_tried T F__law_call (fun ds O k x h => by first | (obtain ⟨_, ⟨rfl, _⟩, _⟩ := h; rfl) | (obtain ⟨_, _, ⟨rfl, _⟩, _⟩ := h; rfl) | (obtain ⟨_, _, _, ⟨rfl, _⟩, _⟩ := h; rfl) | (obtain ⟨_, _, _, _, ⟨rfl, _⟩, _⟩ := h; rfl) | (obtain ⟨_, _, _, _, _, ⟨rfl, _⟩, _⟩ := h; rfl) | (obtain ⟨_, _, _, _, _, _, ⟨rfl, _⟩, _⟩ := h; rfl) | (obtain ⟨_, _, _, _, _, _, _, ⟨rfl, _⟩, _⟩ := h; rfl) | (obtain ⟨_, _, _, _, _, _, _, _, ⟨rfl, _⟩, _⟩ := h; rfl) | (obtain ⟨_, _, _, _, _, _, _, _, _, ⟨rfl, _⟩, _⟩ := h; rfl) | (obtain ⟨_, _, _, _, _, _, _, _, _, _, ⟨rfl, _⟩, _⟩ := h; rfl) | (obtain ⟨_, _, _, _, _, _, _, _, _, _, _, ⟨rfl, _⟩, _⟩ := h; rfl) | (obtain ⟨_, _, _, _, _, _, _, _, _, _, _, _, ⟨rfl, _⟩, _⟩ := h; rfl) | (obtain ⟨_, _, _, _, _, _, _, _, _, _, _, _, _, ⟨rfl, _⟩, _⟩ := h; rfl)) (fun W ds O k x h lo => Q.w__law_tried_v3 ⟨T.exm_AudibleSwap_AudibleSwap, T.exm_AudibleSwap_InvalidSwap, T.exm_InvalidList_AudibleSwap, T.exm_InvalidList_InvalidSwap, T.exm_InvalidState_AudibleSwap, T.exm_InvalidState_InvalidSwap, T.exm_InvalidSwap_AudibleSwap, T.exm_InvalidSwap_InvalidSwap, T.exm_UnknownKey_AudibleSwap, T.exm_UnknownKey_InvalidSwap, T.exm_UnknownReplica_AudibleSwap, T.exm_UnknownReplica_InvalidSwap, T.kit_AudibleSwap_AudibleSwap, T.kit_AudibleSwap_DriftError, T.kit_AudibleSwap_ValueError, T.kit_InvalidList_AudibleSwap, T.kit_InvalidList_DriftError, T.kit_InvalidList_ValueError, T.kit_InvalidState_AudibleSwap, T.kit_InvalidState_DriftError, T.kit_InvalidState_ValueError, T.kit_InvalidSwap_AudibleSwap, T.kit_InvalidSwap_DriftError, T.kit_InvalidSwap_ValueError, T.kit_UnknownKey_AudibleSwap, T.kit_UnknownKey_DriftError, T.kit_UnknownKey_ValueError, T.kit_UnknownReplica_AudibleSwap, T.kit_UnknownReplica_DriftError, T.kit_UnknownReplica_ValueError, T.x_AudibleSwap, T.x_InvalidList, T.x_InvalidState, T.x_InvalidSwap, T.x_UnknownKey, T.x_UnknownReplica⟩ h lo)
  have F__law_refuses : FE P w K mg base 10 "_law_refuses" ["_law_state", "_law_lacking_here"] [] (toSp K (sp__law_refuses_v2 K)) := ok__law_refuses T F__law_refused F__law_tried (fun ds O k x h => by first | (obtain ⟨_, ⟨rfl, _⟩, _⟩ := h; rfl) | (obtain ⟨_, _, ⟨rfl, _⟩, _⟩ := h; rfl) | (obtain ⟨_, _, _, ⟨rfl, _⟩, _⟩ := h; rfl) | (obtain ⟨_, _, _, _, ⟨rfl, _⟩, _⟩ := h; rfl) | (obtain ⟨_, _, _, _, _, ⟨rfl, _⟩, _⟩ := h; rfl) | (obtain ⟨_, _, _, _, _, _, ⟨rfl, _⟩, _⟩ := h; rfl) | (obtain ⟨_, _, _, _, _, _, _, ⟨rfl, _⟩, _⟩ := h; rfl) | (obtain ⟨_, _, _, _, _, _, _, _, ⟨rfl, _⟩, _⟩ := h; rfl) | (obtain ⟨_, _, _, _, _, _, _, _, _, ⟨rfl, _⟩, _⟩ := h; rfl) | (obtain ⟨_, _, _, _, _, _, _, _, _, _, ⟨rfl, _⟩, _⟩ := h; rfl) | (obtain ⟨_, _, _, _, _, _, _, _, _, _, _, ⟨rfl, _⟩, _⟩ := h; rfl) | (obtain ⟨_, _, _, _, _, _, _, _, _, _, _, _, ⟨rfl, _⟩, _⟩ := h; rfl) | (obtain ⟨_, _, _, _, _, _, _, _, _, _, _, _, _, ⟨rfl, _⟩, _⟩ := h; rfl)) (fun W ds O k x h lo => Q.w__law_refuses_v2 h lo)
  have F_Reading_pairs : FM P w K mg base 1 (He.ga K "Reading") "pairs" ["self"] [] (toSp K (sp_Reading_pairs K)) := ok_Reading_pairs T (fun ds O k x h => by first | (obtain ⟨_, ⟨rfl, _⟩, _⟩ := h; rfl) | (obtain ⟨_, _, ⟨rfl, _⟩, _⟩ := h; rfl) | (obtain ⟨_, _, _, ⟨rfl, _⟩, _⟩ := h; rfl) | (obtain ⟨_, _, _, _, ⟨rfl, _⟩, _⟩ := h; rfl) | (obtain ⟨_, _, _, _, _, ⟨rfl, _⟩, _⟩ := h; rfl) | (obtain ⟨_, _, _, _, _, _, ⟨rfl, _⟩, _⟩ := h; rfl) | (obtain ⟨_, _, _, _, _, _, _, ⟨rfl, _⟩, _⟩ := h; rfl) | (obtain ⟨_, _, _, _, _, _, _, _, ⟨rfl, _⟩, _⟩ := h; rfl) | (obtain ⟨_, _, _, _, _, _, _, _, _, ⟨rfl, _⟩, _⟩ := h; rfl) | (obtain ⟨_, _, _, _, _, _, _, _, _, _, ⟨rfl, _⟩, _⟩ := h; rfl) | (obtain ⟨_, _, _, _, _, _, _, _, _, _, _, ⟨rfl, _⟩, _⟩ := h; rfl) | (obtain ⟨_, _, _, _, _, _, _, _, _, _, _, _, ⟨rfl, _⟩, _⟩ := h; rfl) | (obtain ⟨_, _, _, _, _, _, _, _, _, _, _, _, _, ⟨rfl, _⟩, _⟩ := h; rfl)) (fun W ds O k x h lo => Q.w_Reading_pairs ⟨T.C_Reading, T.na_Reading__before⟩ h lo)
  have F__law_is_tuple : FE P w K mg base 3 "_law_is_tuple" ["_law_actual", "_law_due"] [] (toSp K (sp__law_is_tuple_v2 K)) := ok__law_is_tuple T F__law_is_row (fun ds O k x h => by first | (obtain ⟨_, ⟨rfl, _⟩, _⟩ := h; rfl) | (obtain ⟨_, _, ⟨rfl, _⟩, _⟩ := h; rfl) | (obtain ⟨_, _, _, ⟨rfl, _⟩, _⟩ := h; rfl) | (obtain ⟨_, _, _, _, ⟨rfl, _⟩, _⟩ := h; rfl) | (obtain ⟨_, _, _, _, _, ⟨rfl, _⟩, _⟩ := h; rfl) | (obtain ⟨_, _, _, _, _, _, ⟨rfl, _⟩, _⟩ := h; rfl) | (obtain ⟨_, _, _, _, _, _, _, ⟨rfl, _⟩, _⟩ := h; rfl) | (obtain ⟨_, _, _, _, _, _, _, _, ⟨rfl, _⟩, _⟩ := h; rfl) | (obtain ⟨_, _, _, _, _, _, _, _, _, ⟨rfl, _⟩, _⟩ := h; rfl) | (obtain ⟨_, _, _, _, _, _, _, _, _, _, ⟨rfl, _⟩, _⟩ := h; rfl) | (obtain ⟨_, _, _, _, _, _, _, _, _, _, _, ⟨rfl, _⟩, _⟩ := h; rfl) | (obtain ⟨_, _, _, _, _, _, _, _, _, _, _, _, ⟨rfl, _⟩, _⟩ := h; rfl) | (obtain ⟨_, _, _, _, _, _, _, _, _, _, _, _, _, ⟨rfl, _⟩, _⟩ := h; rfl)) (fun W ds O k x h lo => Q.w__law_is_tuple_v2 h lo)
  have F__law_is_tuples : FE P w K mg base 4 "_law_is_tuples" ["_law_actual", "_law_due"] [] (toSp K (sp__law_is_tuples_v2 K)) := ok__law_is_tuples T F__law_is_tuple (fun ds O k x h => by first | (obtain ⟨_, ⟨rfl, _⟩, _⟩ := h; rfl) | (obtain ⟨_, _, ⟨rfl, _⟩, _⟩ := h; rfl) | (obtain ⟨_, _, _, ⟨rfl, _⟩, _⟩ := h; rfl) | (obtain ⟨_, _, _, _, ⟨rfl, _⟩, _⟩ := h; rfl) | (obtain ⟨_, _, _, _, _, ⟨rfl, _⟩, _⟩ := h; rfl) | (obtain ⟨_, _, _, _, _, _, ⟨rfl, _⟩, _⟩ := h; rfl) | (obtain ⟨_, _, _, _, _, _, _, ⟨rfl, _⟩, _⟩ := h; rfl) | (obtain ⟨_, _, _, _, _, _, _, _, ⟨rfl, _⟩, _⟩ := h; rfl) | (obtain ⟨_, _, _, _, _, _, _, _, _, ⟨rfl, _⟩, _⟩ := h; rfl) | (obtain ⟨_, _, _, _, _, _, _, _, _, _, ⟨rfl, _⟩, _⟩ := h; rfl) | (obtain ⟨_, _, _, _, _, _, _, _, _, _, _, ⟨rfl, _⟩, _⟩ := h; rfl) | (obtain ⟨_, _, _, _, _, _, _, _, _, _, _, _, ⟨rfl, _⟩, _⟩ := h; rfl) | (obtain ⟨_, _, _, _, _, _, _, _, _, _, _, _, _, ⟨rfl, _⟩, _⟩ := h; rfl)) (fun W ds O k x h lo => Q.w__law_is_tuples_v2 h lo)
  have F__law_words : FE P w K mg base 1 "_law_words" ["_law_order_here"] [] (toSp K (sp__law_words K)) := ok__law_words T (fun ds O k x h => by first | (obtain ⟨_, ⟨rfl, _⟩, _⟩ := h; rfl) | (obtain ⟨_, _, ⟨rfl, _⟩, _⟩ := h; rfl) | (obtain ⟨_, _, _, ⟨rfl, _⟩, _⟩ := h; rfl) | (obtain ⟨_, _, _, _, ⟨rfl, _⟩, _⟩ := h; rfl) | (obtain ⟨_, _, _, _, _, ⟨rfl, _⟩, _⟩ := h; rfl) | (obtain ⟨_, _, _, _, _, _, ⟨rfl, _⟩, _⟩ := h; rfl) | (obtain ⟨_, _, _, _, _, _, _, ⟨rfl, _⟩, _⟩ := h; rfl) | (obtain ⟨_, _, _, _, _, _, _, _, ⟨rfl, _⟩, _⟩ := h; rfl) | (obtain ⟨_, _, _, _, _, _, _, _, _, ⟨rfl, _⟩, _⟩ := h; rfl) | (obtain ⟨_, _, _, _, _, _, _, _, _, _, ⟨rfl, _⟩, _⟩ := h; rfl) | (obtain ⟨_, _, _, _, _, _, _, _, _, _, _, ⟨rfl, _⟩, _⟩ := h; rfl) | (obtain ⟨_, _, _, _, _, _, _, _, _, _, _, _, ⟨rfl, _⟩, _⟩ := h; rfl) | (obtain ⟨_, _, _, _, _, _, _, _, _, _, _, _, _, ⟨rfl, _⟩, _⟩ := h; rfl)) (fun W ds O k x h lo => Q.w__law_words h lo)
  have F__law_reading : FE P w K mg base 2 "_law_reading" ["_law_lists_here"] [] (toSp K (sp__law_reading K)) := ok__law_reading T F__law_words (fun ds O k x h => by first | (obtain ⟨_, ⟨rfl, _⟩, _⟩ := h; rfl) | (obtain ⟨_, _, ⟨rfl, _⟩, _⟩ := h; rfl) | (obtain ⟨_, _, _, ⟨rfl, _⟩, _⟩ := h; rfl) | (obtain ⟨_, _, _, _, ⟨rfl, _⟩, _⟩ := h; rfl) | (obtain ⟨_, _, _, _, _, ⟨rfl, _⟩, _⟩ := h; rfl) | (obtain ⟨_, _, _, _, _, _, ⟨rfl, _⟩, _⟩ := h; rfl) | (obtain ⟨_, _, _, _, _, _, _, ⟨rfl, _⟩, _⟩ := h; rfl) | (obtain ⟨_, _, _, _, _, _, _, _, ⟨rfl, _⟩, _⟩ := h; rfl) | (obtain ⟨_, _, _, _, _, _, _, _, _, ⟨rfl, _⟩, _⟩ := h; rfl) | (obtain ⟨_, _, _, _, _, _, _, _, _, _, ⟨rfl, _⟩, _⟩ := h; rfl) | (obtain ⟨_, _, _, _, _, _, _, _, _, _, _, ⟨rfl, _⟩, _⟩ := h; rfl) | (obtain ⟨_, _, _, _, _, _, _, _, _, _, _, _, ⟨rfl, _⟩, _⟩ := h; rfl) | (obtain ⟨_, _, _, _, _, _, _, _, _, _, _, _, _, ⟨rfl, _⟩, _⟩ := h; rfl)) (fun W ds O k x h lo => Q.w__law_reading h lo)
  have F_Reading__in_a_cycle : FM P w K mg base 1 (He.ga K "Reading") "_in_a_cycle" ["self", "x", "y"] [] (toSp K (sp_Reading__in_a_cycle K)) := ok_Reading__in_a_cycle T (fun ds O k x h => by first | (obtain ⟨_, ⟨rfl, _⟩, _⟩ := h; rfl) | (obtain ⟨_, _, ⟨rfl, _⟩, _⟩ := h; rfl) | (obtain ⟨_, _, _, ⟨rfl, _⟩, _⟩ := h; rfl) | (obtain ⟨_, _, _, _, ⟨rfl, _⟩, _⟩ := h; rfl) | (obtain ⟨_, _, _, _, _, ⟨rfl, _⟩, _⟩ := h; rfl) | (obtain ⟨_, _, _, _, _, _, ⟨rfl, _⟩, _⟩ := h; rfl) | (obtain ⟨_, _, _, _, _, _, _, ⟨rfl, _⟩, _⟩ := h; rfl) | (obtain ⟨_, _, _, _, _, _, _, _, ⟨rfl, _⟩, _⟩ := h; rfl) | (obtain ⟨_, _, _, _, _, _, _, _, _, ⟨rfl, _⟩, _⟩ := h; rfl) | (obtain ⟨_, _, _, _, _, _, _, _, _, _, ⟨rfl, _⟩, _⟩ := h; rfl) | (obtain ⟨_, _, _, _, _, _, _, _, _, _, _, ⟨rfl, _⟩, _⟩ := h; rfl) | (obtain ⟨_, _, _, _, _, _, _, _, _, _, _, _, ⟨rfl, _⟩, _⟩ := h; rfl) | (obtain ⟨_, _, _, _, _, _, _, _, _, _, _, _, _, ⟨rfl, _⟩, _⟩ := h; rfl)) (fun W ds O k x h lo => Q.w_Reading__in_a_cycle ⟨T.C_Reading, T.na_Reading__before, T.na_Reading__keys⟩ h lo)
  have F_Reading_pinned : FM P w K mg base 2 (He.ga K "Reading") "pinned" ["self"] [] (toSp K (sp_Reading_pinned K)) := ok_Reading_pinned T F_Reading__in_a_cycle F_Reading_pairs (fun ds O k x h => by first | (obtain ⟨_, ⟨rfl, _⟩, _⟩ := h; rfl) | (obtain ⟨_, _, ⟨rfl, _⟩, _⟩ := h; rfl) | (obtain ⟨_, _, _, ⟨rfl, _⟩, _⟩ := h; rfl) | (obtain ⟨_, _, _, _, ⟨rfl, _⟩, _⟩ := h; rfl) | (obtain ⟨_, _, _, _, _, ⟨rfl, _⟩, _⟩ := h; rfl) | (obtain ⟨_, _, _, _, _, _, ⟨rfl, _⟩, _⟩ := h; rfl) | (obtain ⟨_, _, _, _, _, _, _, ⟨rfl, _⟩, _⟩ := h; rfl) | (obtain ⟨_, _, _, _, _, _, _, _, ⟨rfl, _⟩, _⟩ := h; rfl) | (obtain ⟨_, _, _, _, _, _, _, _, _, ⟨rfl, _⟩, _⟩ := h; rfl) | (obtain ⟨_, _, _, _, _, _, _, _, _, _, ⟨rfl, _⟩, _⟩ := h; rfl) | (obtain ⟨_, _, _, _, _, _, _, _, _, _, _, ⟨rfl, _⟩, _⟩ := h; rfl) | (obtain ⟨_, _, _, _, _, _, _, _, _, _, _, _, ⟨rfl, _⟩, _⟩ := h; rfl) | (obtain ⟨_, _, _, _, _, _, _, _, _, _, _, _, _, ⟨rfl, _⟩, _⟩ := h; rfl)) (fun W ds O k x h lo => Q.w_Reading_pinned h lo)
  have F__first_wrong_pair : FE P w K mg base 1 "_first_wrong_pair" ["keys", "pairs"] [] (toSp K (sp__first_wrong_pair K)) := ok__first_wrong_pair T (fun ds O k x h => by first | (obtain ⟨_, ⟨rfl, _⟩, _⟩ := h; rfl) | (obtain ⟨_, _, ⟨rfl, _⟩, _⟩ := h; rfl) | (obtain ⟨_, _, _, ⟨rfl, _⟩, _⟩ := h; rfl) | (obtain ⟨_, _, _, _, ⟨rfl, _⟩, _⟩ := h; rfl) | (obtain ⟨_, _, _, _, _, ⟨rfl, _⟩, _⟩ := h; rfl) | (obtain ⟨_, _, _, _, _, _, ⟨rfl, _⟩, _⟩ := h; rfl) | (obtain ⟨_, _, _, _, _, _, _, ⟨rfl, _⟩, _⟩ := h; rfl) | (obtain ⟨_, _, _, _, _, _, _, _, ⟨rfl, _⟩, _⟩ := h; rfl) | (obtain ⟨_, _, _, _, _, _, _, _, _, ⟨rfl, _⟩, _⟩ := h; rfl) | (obtain ⟨_, _, _, _, _, _, _, _, _, _, ⟨rfl, _⟩, _⟩ := h; rfl) | (obtain ⟨_, _, _, _, _, _, _, _, _, _, _, ⟨rfl, _⟩, _⟩ := h; rfl) | (obtain ⟨_, _, _, _, _, _, _, _, _, _, _, _, ⟨rfl, _⟩, _⟩ := h; rfl) | (obtain ⟨_, _, _, _, _, _, _, _, _, _, _, _, _, ⟨rfl, _⟩, _⟩ := h; rfl)) (fun W ds O k x h lo => Q.w__first_wrong_pair h lo)
  have F_Reading___init__ : FM P w K mg base 3 (He.ga K "Reading") "__init__" ["self", "all_keys", "pairs"] [] (toSp K (sp_Reading___init__ K)) := ok_Reading___init__ T F__first_wrong_pair F_check_list F_require_key (fun ds O k x h => by first | (obtain ⟨_, ⟨rfl, _⟩, _⟩ := h; rfl) | (obtain ⟨_, _, ⟨rfl, _⟩, _⟩ := h; rfl) | (obtain ⟨_, _, _, ⟨rfl, _⟩, _⟩ := h; rfl) | (obtain ⟨_, _, _, _, ⟨rfl, _⟩, _⟩ := h; rfl) | (obtain ⟨_, _, _, _, _, ⟨rfl, _⟩, _⟩ := h; rfl) | (obtain ⟨_, _, _, _, _, _, ⟨rfl, _⟩, _⟩ := h; rfl) | (obtain ⟨_, _, _, _, _, _, _, ⟨rfl, _⟩, _⟩ := h; rfl) | (obtain ⟨_, _, _, _, _, _, _, _, ⟨rfl, _⟩, _⟩ := h; rfl) | (obtain ⟨_, _, _, _, _, _, _, _, _, ⟨rfl, _⟩, _⟩ := h; rfl) | (obtain ⟨_, _, _, _, _, _, _, _, _, _, ⟨rfl, _⟩, _⟩ := h; rfl) | (obtain ⟨_, _, _, _, _, _, _, _, _, _, _, ⟨rfl, _⟩, _⟩ := h; rfl) | (obtain ⟨_, _, _, _, _, _, _, _, _, _, _, _, ⟨rfl, _⟩, _⟩ := h; rfl) | (obtain ⟨_, _, _, _, _, _, _, _, _, _, _, _, _, ⟨rfl, _⟩, _⟩ := h; rfl)) (fun W ds O k x h lo => Q.w_Reading___init__ ⟨T.C_Reading, T.na_Reading__before, T.na_Reading__keys⟩ h lo)
  have F_read : FE P w K mg base 5 "read" ["state"] [] (toSp K (sp_read K)) := ok_read T F_Reading___init__ F_State_all_keys F_State_lists F_index_of (fun ds O k x h => by first | (obtain ⟨_, ⟨rfl, _⟩, _⟩ := h; rfl) | (obtain ⟨_, _, ⟨rfl, _⟩, _⟩ := h; rfl) | (obtain ⟨_, _, _, ⟨rfl, _⟩, _⟩ := h; rfl) | (obtain ⟨_, _, _, _, ⟨rfl, _⟩, _⟩ := h; rfl) | (obtain ⟨_, _, _, _, _, ⟨rfl, _⟩, _⟩ := h; rfl) | (obtain ⟨_, _, _, _, _, _, ⟨rfl, _⟩, _⟩ := h; rfl) | (obtain ⟨_, _, _, _, _, _, _, ⟨rfl, _⟩, _⟩ := h; rfl) | (obtain ⟨_, _, _, _, _, _, _, _, ⟨rfl, _⟩, _⟩ := h; rfl) | (obtain ⟨_, _, _, _, _, _, _, _, _, ⟨rfl, _⟩, _⟩ := h; rfl) | (obtain ⟨_, _, _, _, _, _, _, _, _, _, ⟨rfl, _⟩, _⟩ := h; rfl) | (obtain ⟨_, _, _, _, _, _, _, _, _, _, _, ⟨rfl, _⟩, _⟩ := h; rfl) | (obtain ⟨_, _, _, _, _, _, _, _, _, _, _, _, ⟨rfl, _⟩, _⟩ := h; rfl) | (obtain ⟨_, _, _, _, _, _, _, _, _, _, _, _, _, ⟨rfl, _⟩, _⟩ := h; rfl)) (fun W ds O k x h lo => Q.w_read h lo)
  have F_dealing : FE P w K mg base 6 "dealing" ["state"] [] (toSp K (sp_dealing K)) := ok_dealing T F_Reading_pinned F_dissenter F_read (fun ds O k x h => by first | (obtain ⟨_, ⟨rfl, _⟩, _⟩ := h; rfl) | (obtain ⟨_, _, ⟨rfl, _⟩, _⟩ := h; rfl) | (obtain ⟨_, _, _, ⟨rfl, _⟩, _⟩ := h; rfl) | (obtain ⟨_, _, _, _, ⟨rfl, _⟩, _⟩ := h; rfl) | (obtain ⟨_, _, _, _, _, ⟨rfl, _⟩, _⟩ := h; rfl) | (obtain ⟨_, _, _, _, _, _, ⟨rfl, _⟩, _⟩ := h; rfl) | (obtain ⟨_, _, _, _, _, _, _, ⟨rfl, _⟩, _⟩ := h; rfl) | (obtain ⟨_, _, _, _, _, _, _, _, ⟨rfl, _⟩, _⟩ := h; rfl) | (obtain ⟨_, _, _, _, _, _, _, _, _, ⟨rfl, _⟩, _⟩ := h; rfl) | (obtain ⟨_, _, _, _, _, _, _, _, _, _, ⟨rfl, _⟩, _⟩ := h; rfl) | (obtain ⟨_, _, _, _, _, _, _, _, _, _, _, ⟨rfl, _⟩, _⟩ := h; rfl) | (obtain ⟨_, _, _, _, _, _, _, _, _, _, _, _, ⟨rfl, _⟩, _⟩ := h; rfl) | (obtain ⟨_, _, _, _, _, _, _, _, _, _, _, _, _, ⟨rfl, _⟩, _⟩ := h; rfl)) (fun W ds O k x h lo => Q.w_dealing h lo)
  have F__law_deep_holds : FE P w K mg base 7 "_law_deep_holds" ["_law_state", "_law_lists_here", "_law_swap", "_law_silent_here", "_law_shares_here"] [] (toSp K (sp__law_deep_holds K)) := ok__law_deep_holds T F_Reading_pairs F_State_with_list F__law_is_tuples F__law_reading F__law_swapped F_dealing F_read (fun ds O k x h => by first | (obtain ⟨_, ⟨rfl, _⟩, _⟩ := h; rfl) | (obtain ⟨_, _, ⟨rfl, _⟩, _⟩ := h; rfl) | (obtain ⟨_, _, _, ⟨rfl, _⟩, _⟩ := h; rfl) | (obtain ⟨_, _, _, _, ⟨rfl, _⟩, _⟩ := h; rfl) | (obtain ⟨_, _, _, _, _, ⟨rfl, _⟩, _⟩ := h; rfl) | (obtain ⟨_, _, _, _, _, _, ⟨rfl, _⟩, _⟩ := h; rfl) | (obtain ⟨_, _, _, _, _, _, _, ⟨rfl, _⟩, _⟩ := h; rfl) | (obtain ⟨_, _, _, _, _, _, _, _, ⟨rfl, _⟩, _⟩ := h; rfl) | (obtain ⟨_, _, _, _, _, _, _, _, _, ⟨rfl, _⟩, _⟩ := h; rfl) | (obtain ⟨_, _, _, _, _, _, _, _, _, _, ⟨rfl, _⟩, _⟩ := h; rfl) | (obtain ⟨_, _, _, _, _, _, _, _, _, _, _, ⟨rfl, _⟩, _⟩ := h; rfl) | (obtain ⟨_, _, _, _, _, _, _, _, _, _, _, _, ⟨rfl, _⟩, _⟩ := h; rfl) | (obtain ⟨_, _, _, _, _, _, _, _, _, _, _, _, _, ⟨rfl, _⟩, _⟩ := h; rfl)) (fun W ds O k x h lo => Q.w__law_deep_holds h lo)
  have F__law_is_tuples_own : FE P w K mg base 4 "_law_is_tuples" ["_law_actual", "_law_due"] [] (toSp K (sp__law_is_tuples_own K)) := ok__law_is_tuples_own T F__law_is_tuple (fun ds O k x h => by first | (obtain ⟨_, ⟨rfl, _⟩, _⟩ := h; rfl) | (obtain ⟨_, _, ⟨rfl, _⟩, _⟩ := h; rfl) | (obtain ⟨_, _, _, ⟨rfl, _⟩, _⟩ := h; rfl) | (obtain ⟨_, _, _, _, ⟨rfl, _⟩, _⟩ := h; rfl) | (obtain ⟨_, _, _, _, _, ⟨rfl, _⟩, _⟩ := h; rfl) | (obtain ⟨_, _, _, _, _, _, ⟨rfl, _⟩, _⟩ := h; rfl) | (obtain ⟨_, _, _, _, _, _, _, ⟨rfl, _⟩, _⟩ := h; rfl) | (obtain ⟨_, _, _, _, _, _, _, _, ⟨rfl, _⟩, _⟩ := h; rfl) | (obtain ⟨_, _, _, _, _, _, _, _, _, ⟨rfl, _⟩, _⟩ := h; rfl) | (obtain ⟨_, _, _, _, _, _, _, _, _, _, ⟨rfl, _⟩, _⟩ := h; rfl) | (obtain ⟨_, _, _, _, _, _, _, _, _, _, _, ⟨rfl, _⟩, _⟩ := h; rfl) | (obtain ⟨_, _, _, _, _, _, _, _, _, _, _, _, ⟨rfl, _⟩, _⟩ := h; rfl) | (obtain ⟨_, _, _, _, _, _, _, _, _, _, _, _, _, ⟨rfl, _⟩, _⟩ := h; rfl)) (fun W ds O k x h lo => Q.w__law_is_tuples_own h lo)
  have F__law_shares : FE P w K mg base 3 "_law_shares" ["_law_lists_here"] [] (toSp K (sp__law_shares K)) := ok__law_shares T F__law_reading F__law_words (fun ds O k x h => by first | (obtain ⟨_, ⟨rfl, _⟩, _⟩ := h; rfl) | (obtain ⟨_, _, ⟨rfl, _⟩, _⟩ := h; rfl) | (obtain ⟨_, _, _, ⟨rfl, _⟩, _⟩ := h; rfl) | (obtain ⟨_, _, _, _, ⟨rfl, _⟩, _⟩ := h; rfl) | (obtain ⟨_, _, _, _, _, ⟨rfl, _⟩, _⟩ := h; rfl) | (obtain ⟨_, _, _, _, _, _, ⟨rfl, _⟩, _⟩ := h; rfl) | (obtain ⟨_, _, _, _, _, _, _, ⟨rfl, _⟩, _⟩ := h; rfl) | (obtain ⟨_, _, _, _, _, _, _, _, ⟨rfl, _⟩, _⟩ := h; rfl) | (obtain ⟨_, _, _, _, _, _, _, _, _, ⟨rfl, _⟩, _⟩ := h; rfl) | (obtain ⟨_, _, _, _, _, _, _, _, _, _, ⟨rfl, _⟩, _⟩ := h; rfl) | (obtain ⟨_, _, _, _, _, _, _, _, _, _, _, ⟨rfl, _⟩, _⟩ := h; rfl) | (obtain ⟨_, _, _, _, _, _, _, _, _, _, _, _, ⟨rfl, _⟩, _⟩ := h; rfl) | (obtain ⟨_, _, _, _, _, _, _, _, _, _, _, _, _, ⟨rfl, _⟩, _⟩ := h; rfl)) (fun W ds O k x h lo => Q.w__law_shares h lo)
  have F_State_lists_own : FM P w K mg base 1 (He.ga K "State") "lists" ["self"] [] (toSp K (sp_State_lists_own K)) := ok_State_lists_own T (fun ds O k x h => by first | (obtain ⟨_, ⟨rfl, _⟩, _⟩ := h; rfl) | (obtain ⟨_, _, ⟨rfl, _⟩, _⟩ := h; rfl) | (obtain ⟨_, _, _, ⟨rfl, _⟩, _⟩ := h; rfl) | (obtain ⟨_, _, _, _, ⟨rfl, _⟩, _⟩ := h; rfl) | (obtain ⟨_, _, _, _, _, ⟨rfl, _⟩, _⟩ := h; rfl) | (obtain ⟨_, _, _, _, _, _, ⟨rfl, _⟩, _⟩ := h; rfl) | (obtain ⟨_, _, _, _, _, _, _, ⟨rfl, _⟩, _⟩ := h; rfl) | (obtain ⟨_, _, _, _, _, _, _, _, ⟨rfl, _⟩, _⟩ := h; rfl) | (obtain ⟨_, _, _, _, _, _, _, _, _, ⟨rfl, _⟩, _⟩ := h; rfl) | (obtain ⟨_, _, _, _, _, _, _, _, _, _, ⟨rfl, _⟩, _⟩ := h; rfl) | (obtain ⟨_, _, _, _, _, _, _, _, _, _, _, ⟨rfl, _⟩, _⟩ := h; rfl) | (obtain ⟨_, _, _, _, _, _, _, _, _, _, _, _, ⟨rfl, _⟩, _⟩ := h; rfl) | (obtain ⟨_, _, _, _, _, _, _, _, _, _, _, _, _, ⟨rfl, _⟩, _⟩ := h; rfl)) (fun W ds O k x h lo => Q.w_State_lists_own ⟨T.C_State, T.na_State__lists⟩ h lo)
  have F__law_is_truth : FE P w K mg base 1 "_law_is_truth" ["_law_actual", "_law_due"] [] (toSp K (sp__law_is_truth_v2 K)) := ok__law_is_truth T (fun ds O k x h => by first | (obtain ⟨_, ⟨rfl, _⟩, _⟩ := h; rfl) | (obtain ⟨_, _, ⟨rfl, _⟩, _⟩ := h; rfl) | (obtain ⟨_, _, _, ⟨rfl, _⟩, _⟩ := h; rfl) | (obtain ⟨_, _, _, _, ⟨rfl, _⟩, _⟩ := h; rfl) | (obtain ⟨_, _, _, _, _, ⟨rfl, _⟩, _⟩ := h; rfl) | (obtain ⟨_, _, _, _, _, _, ⟨rfl, _⟩, _⟩ := h; rfl) | (obtain ⟨_, _, _, _, _, _, _, ⟨rfl, _⟩, _⟩ := h; rfl) | (obtain ⟨_, _, _, _, _, _, _, _, ⟨rfl, _⟩, _⟩ := h; rfl) | (obtain ⟨_, _, _, _, _, _, _, _, _, ⟨rfl, _⟩, _⟩ := h; rfl) | (obtain ⟨_, _, _, _, _, _, _, _, _, _, ⟨rfl, _⟩, _⟩ := h; rfl) | (obtain ⟨_, _, _, _, _, _, _, _, _, _, _, ⟨rfl, _⟩, _⟩ := h; rfl) | (obtain ⟨_, _, _, _, _, _, _, _, _, _, _, _, ⟨rfl, _⟩, _⟩ := h; rfl) | (obtain ⟨_, _, _, _, _, _, _, _, _, _, _, _, _, ⟨rfl, _⟩, _⟩ := h; rfl)) (fun W ds O k x h lo => Q.w__law_is_truth_v2 h lo)
  have F__law_swap_holds : FE P w K mg base 10 "_law_swap_holds" ["_law_state", "_law_lists_here", "_law_swap", "_law_silent_here", "_law_said"] [] (toSp K (sp__law_swap_holds K)) := ok__law_swap_holds T F_State_lists_own F__law_is_number F__law_is_state F__law_is_truth F__law_is_tuple F__law_refused F__law_swapped F__law_tried F_barred_by F_is_silent F_swap_pair (fun ds O k x h => by first | (obtain ⟨_, ⟨rfl, _⟩, _⟩ := h; rfl) | (obtain ⟨_, _, ⟨rfl, _⟩, _⟩ := h; rfl) | (obtain ⟨_, _, _, ⟨rfl, _⟩, _⟩ := h; rfl) | (obtain ⟨_, _, _, _, ⟨rfl, _⟩, _⟩ := h; rfl) | (obtain ⟨_, _, _, _, _, ⟨rfl, _⟩, _⟩ := h; rfl) | (obtain ⟨_, _, _, _, _, _, ⟨rfl, _⟩, _⟩ := h; rfl) | (obtain ⟨_, _, _, _, _, _, _, ⟨rfl, _⟩, _⟩ := h; rfl) | (obtain ⟨_, _, _, _, _, _, _, _, ⟨rfl, _⟩, _⟩ := h; rfl) | (obtain ⟨_, _, _, _, _, _, _, _, _, ⟨rfl, _⟩, _⟩ := h; rfl) | (obtain ⟨_, _, _, _, _, _, _, _, _, _, ⟨rfl, _⟩, _⟩ := h; rfl) | (obtain ⟨_, _, _, _, _, _, _, _, _, _, _, ⟨rfl, _⟩, _⟩ := h; rfl) | (obtain ⟨_, _, _, _, _, _, _, _, _, _, _, _, ⟨rfl, _⟩, _⟩ := h; rfl) | (obtain ⟨_, _, _, _, _, _, _, _, _, _, _, _, _, ⟨rfl, _⟩, _⟩ := h; rfl)) (fun W ds O k x h lo => Q.w__law_swap_holds h lo)
  have F_silent_swaps : FE P w K mg base 6 "silent_swaps" ["state"] [] (toSp K (sp_silent_swaps K)) := ok_silent_swaps T F_State___len__ F_is_silent (fun ds O k x h => by first | (obtain ⟨_, ⟨rfl, _⟩, _⟩ := h; rfl) | (obtain ⟨_, _, ⟨rfl, _⟩, _⟩ := h; rfl) | (obtain ⟨_, _, _, ⟨rfl, _⟩, _⟩ := h; rfl) | (obtain ⟨_, _, _, _, ⟨rfl, _⟩, _⟩ := h; rfl) | (obtain ⟨_, _, _, _, _, ⟨rfl, _⟩, _⟩ := h; rfl) | (obtain ⟨_, _, _, _, _, _, ⟨rfl, _⟩, _⟩ := h; rfl) | (obtain ⟨_, _, _, _, _, _, _, ⟨rfl, _⟩, _⟩ := h; rfl) | (obtain ⟨_, _, _, _, _, _, _, _, ⟨rfl, _⟩, _⟩ := h; rfl) | (obtain ⟨_, _, _, _, _, _, _, _, _, ⟨rfl, _⟩, _⟩ := h; rfl) | (obtain ⟨_, _, _, _, _, _, _, _, _, _, ⟨rfl, _⟩, _⟩ := h; rfl) | (obtain ⟨_, _, _, _, _, _, _, _, _, _, _, ⟨rfl, _⟩, _⟩ := h; rfl) | (obtain ⟨_, _, _, _, _, _, _, _, _, _, _, _, ⟨rfl, _⟩, _⟩ := h; rfl) | (obtain ⟨_, _, _, _, _, _, _, _, _, _, _, _, _, ⟨rfl, _⟩, _⟩ := h; rfl)) (fun W ds O k x h lo => Q.w_silent_swaps ⟨T.cv_State_REPLICAS⟩ h lo)
  have F__law_state_holds : FE P w K mg base 11 "_law_state_holds" ["_law_state", "_law_lists_here", "_law_drawn"] [] (toSp K (sp__law_state_holds K)) := ok__law_state_holds T F_Reading_pairs F__law_deep_holds F__law_is_state F__law_is_tuples_own F__law_reading F__law_shares F__law_swap_holds F__law_swapped F_dealing F_read F_silent_swaps (fun ds O k x h => by first | (obtain ⟨_, ⟨rfl, _⟩, _⟩ := h; rfl) | (obtain ⟨_, _, ⟨rfl, _⟩, _⟩ := h; rfl) | (obtain ⟨_, _, _, ⟨rfl, _⟩, _⟩ := h; rfl) | (obtain ⟨_, _, _, _, ⟨rfl, _⟩, _⟩ := h; rfl) | (obtain ⟨_, _, _, _, _, ⟨rfl, _⟩, _⟩ := h; rfl) | (obtain ⟨_, _, _, _, _, _, ⟨rfl, _⟩, _⟩ := h; rfl) | (obtain ⟨_, _, _, _, _, _, _, ⟨rfl, _⟩, _⟩ := h; rfl) | (obtain ⟨_, _, _, _, _, _, _, _, ⟨rfl, _⟩, _⟩ := h; rfl) | (obtain ⟨_, _, _, _, _, _, _, _, _, ⟨rfl, _⟩, _⟩ := h; rfl) | (obtain ⟨_, _, _, _, _, _, _, _, _, _, ⟨rfl, _⟩, _⟩ := h; rfl) | (obtain ⟨_, _, _, _, _, _, _, _, _, _, _, ⟨rfl, _⟩, _⟩ := h; rfl) | (obtain ⟨_, _, _, _, _, _, _, _, _, _, _, _, ⟨rfl, _⟩, _⟩ := h; rfl) | (obtain ⟨_, _, _, _, _, _, _, _, _, _, _, _, _, ⟨rfl, _⟩, _⟩ := h; rfl)) (fun W ds O k x h lo => Q.w__law_state_holds h lo)
  exact ok_law T F_State___init__ F__law_box F__law_is_state F__law_lacking F__law_lists F__law_refuses F__law_state_holds F__law_take (fun ds O k x h => by first | (obtain ⟨_, ⟨rfl, _⟩, _⟩ := h; rfl) | (obtain ⟨_, _, ⟨rfl, _⟩, _⟩ := h; rfl) | (obtain ⟨_, _, _, ⟨rfl, _⟩, _⟩ := h; rfl) | (obtain ⟨_, _, _, _, ⟨rfl, _⟩, _⟩ := h; rfl) | (obtain ⟨_, _, _, _, _, ⟨rfl, _⟩, _⟩ := h; rfl) | (obtain ⟨_, _, _, _, _, _, ⟨rfl, _⟩, _⟩ := h; rfl) | (obtain ⟨_, _, _, _, _, _, _, ⟨rfl, _⟩, _⟩ := h; rfl) | (obtain ⟨_, _, _, _, _, _, _, _, ⟨rfl, _⟩, _⟩ := h; rfl) | (obtain ⟨_, _, _, _, _, _, _, _, _, ⟨rfl, _⟩, _⟩ := h; rfl) | (obtain ⟨_, _, _, _, _, _, _, _, _, _, ⟨rfl, _⟩, _⟩ := h; rfl) | (obtain ⟨_, _, _, _, _, _, _, _, _, _, _, ⟨rfl, _⟩, _⟩ := h; rfl) | (obtain ⟨_, _, _, _, _, _, _, _, _, _, _, _, ⟨rfl, _⟩, _⟩ := h; rfl) | (obtain ⟨_, _, _, _, _, _, _, _, _, _, _, _, _, ⟨rfl, _⟩, _⟩ := h; rfl)) (fun W ds O k x h lo => Q.w_law_v5 h lo) F
end K07
open PySem PySem.W PySem.Calls PyProof.Rows
theorem PySem.Challenge.cw_quorumdrift_k07_whole_silent_is_unnotice_holds : PySem.Challenge.rw_quorumdrift_k07_whole_silent_is_unnotice.Holds := by
  w_on; o_law
  refine HandSHeadRun.head_any (r := OpenLaw.row PySem.Challenge.rw_quorumdrift_k07_whole_silent_is_unnotice) (q := view (OpenLaw.row PySem.Challenge.rw_quorumdrift_k07_whole_silent_is_unnotice).prog [72]) (H := K07.hk) (ob := K07.ob) (M := 9000) (loose := K07.nms) (d := HandSHeadRun.topDef (OpenLaw.row PySem.Challenge.rw_quorumdrift_k07_whole_silent_is_unnotice).prog 72) (kwd := []) K07.ob_eq
    (by kernel_rfl) (fun s => by kernel_rfl) K07.run (by kernel_rfl) (by kernel_rfl) (by kernel_rfl) (by rfl) (by first | assumption | decide +kernel) (by decide +kernel) ⟨rfl, rfl, rfl, rfl, rfl, by decide +kernel⟩ ?hw ?hc
  case hw => w_witness2
  case hc =>
    refine PyH.walk_ofEB (l := PySem.Challenge.rw_quorumdrift_k07_whole_silent_is_unnotice) (n := 63) (k := 12) (x := "_law_script") (CX := fun w => L2.CX PySem.Challenge.rw_quorumdrift_k07_whole_silent_is_unnotice.prog w) rfl (by decide) (by kernel_rfl) ⟨rfl, by decide, by decide⟩ ?F (fun w => PyH.cx_no)
    intro w mg fa h Y G hmg0
    obtain ⟨K, KX, c⟩ := Y
    have hmg : mg ("law" : PySem.Str) = some (.ref fa) := by
      have e : (HandSHeadRun.topDef (OpenLaw.row PySem.Challenge.rw_quorumdrift_k07_whole_silent_is_unnotice).prog 72).name = ("law" : PySem.Str) := by kernel_rfl
      rw [← e]
      exact hmg0
    have T : K07.TX PySem.Challenge.rw_quorumdrift_k07_whole_silent_is_unnotice.prog K mg := K07.facts KX G c (by kernel_rfl) (by kernel_rfl)
    obtain ⟨fd, F⟩ := T.F_law
    have e := hmg.symm.trans T.g_law
    cases e
    have b := L2.FunD.bindsA (ps := ["_law_script"]) F fun _ _ _ _ _ _ us hl => match us, hl with | [_], _ => rfl
    exact ⟨K, fd, PyD.toSp K (Q.sp_law_v5 K), KX, fun s v => b s [v] rfl, fun H a ns hn hb _ hS => PyH.law_sp hS (Q.law_ok_K07 hn hb), fun base _ _ => K07.okL T F⟩
