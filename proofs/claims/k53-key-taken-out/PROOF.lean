import PyProof.Rows.All
import Wide.All
import OpenK.AllK
import Wide.FinOn
import HandS.ForMost
import HandS.Exc
import HandS.ExcOwn
import HandS.TryOnly
import HandS.TryMany
import HandS.WordsExc
import HandS.ExcField
import HandS.ExcIs
import HandS.DictComp
import HandS.SortInts
import HandS.SortRule
import HandS.IsInst
import HandS.Wide
import HandS.Flow
import HandS.More
import HandS.Deep
import HandS.EndBits
import HandS.CallSlots
import HandS.TupSets
import HandS.ExcSuper
import KE.KExcSuper
import KE.KSuper
import PyProof.FString
import KE.KIsAll
import KE.KTryMore
import KE.KStateDown
import HandS.Base
import HandS.Call
import HandS.Ends
import HandS.Words
import HandS.Defaults
import HandS.Head0
import HandS.Head1
import HandS.Head2
import HandS.HeadEnd
import HandS.HeadHook1
import HandS.HeadHook2
import HandS.OwnEq
import OpenK.KOps
import KE.KOpsOwn
import PyProof.DictCompW
import HandS.Comp
import HandS.SetBool
import HandS.ClsMeth
import HandS.NoneIn
import HandS.Style
import HandS.Codes
import PySem.Challenge.RW_quorumdrift_k53_whole_key_taken_out
set_option Elab.async false
set_option linter.all false
set_option maxRecDepth 100000
set_option maxHeartbeats 0
namespace PyD
open PySem PySem.Spec PyProof.Rows L2
/-- data, without addresses but for owned objects (mut) and fixed references (ref) -/
inductive D where
  | non | bl (b : Bool) | int (i : Int) | str (s : Str)
  | lst (xs : List D) | tup (xs : List D) | kl (xs : List D)
  | dK (kvs : List (Key × D)) | dT (kvs : List (List Key × D))
  | ins (C : Addr) (fs : List (Str × D))
  | mut (a : Addr) | ref (a : Addr) | ty (n : String)
  /-- a caught exception: its address, class, own dict, attributes -/
  | exc (a C : Addr) (d : Option Addr) (fs : List (Str × D))
abbrev L (ns : List Int) : D := .lst (ns.map D.int)
section
variable (K : PySem.W.Frag) (F : Hp)
mutual
inductive Rp : D → V → Prop where
  | non : Rp .non .non
  | bl (b : Bool) : Rp (.bl b) (.bl b)
  | int (i : Int) : Rp (.int i) (.int i)
  | str (s : Str) : Rp (.str s) (.str s)
  | ref (a : Addr) : Rp (.ref a) (.ref a)
  | mut (a : Addr) : Rp (.mut a) (.ref a)
  | ty (n : String) : Rp (.ty n) (.ty n)
  | lst {a : Addr} {vs : List V} {ds : List D} : F a = some (.lst vs) → Rps ds vs → Rp (.lst ds) (.ref a)
  | kl {a : Addr} {vs : List V} {ds : List D} : SqL K F a vs → Rps ds vs → Rp (.kl ds) (.ref a)
  | tup {a : Addr} {vs : List V} {ds : List D} : F a = some (.tup vs) → Rps ds vs → Rp (.tup ds) (.ref a)
  | dK {a : Addr} {kvs : List (Key × V)} {kds : List (Key × D)} : Rd F a (.dK kvs) → kds.map (·.1) = kvs.map (·.1) → Rps (kds.map (·.2)) (kvs.map (·.2)) → Rp (.dK kds) (.ref a)
  | dT {a : Addr} {kvs : List (List Key × V)} {kds : List (List Key × D)} : Rd F a (.dT kvs) → kds.map (·.1) = kvs.map (·.1) → Rps (kds.map (·.2)) (kvs.map (·.2)) → Rp (.dT kds) (.ref a)
  | ins {a C dx : Addr} {fs : List (Str × V)} {fds : List (Str × D)} : F a = some (.ins C dx fs) → fds.map (·.1) = fs.map (·.1) → Rps (fds.map (·.2)) (fs.map (·.2)) → Rp (.ins C fds) (.ref a)
  | exc0 (a C : Addr) : Rp (.exc a C none []) (.ref a)
  | exc1 {a C dd : Addr} {fs : List (Str × V)} {fds : List (Str × D)} : F dd = some (.xd fs) → fds.map (·.1) = fs.map (·.1) → Rps (fds.map (·.2)) (fs.map (·.2)) → Rp (.exc a C (some dd) fds) (.ref a)
inductive Rps : List D → List V → Prop where
  | nil : Rps [] []
  | cons {d : D} {ds : List D} {v : V} {vs : List V} : Rp d v → Rps ds vs → Rps (d :: ds) (v :: vs)
end
end
def Ex (H H' : Hp) : Prop := ∀ a o, H a = some o → H' a = some o
theorem Ex.refl (H : Hp) : Ex H H := fun _ _ h => h
theorem Ex.trans {H H1 H2 : Hp} (a : Ex H H1) (b : Ex H1 H2) : Ex H H2 := fun x o h => b x o (a x o h)
theorem Ex.new {H : Hp} {p : Addr} {o : HO} (h : H p = none) : Ex H (upd H p o) := fun a u e => by
  rw [upd_ne (ne_of_none e h)]
  exact e
theorem Ex.none {H H' : Hp} {p : Addr} (e : Ex H H') (h : H' p = none) : H p = none := by
  cases h1 : H p with
  | none => rfl
  | some o =>
    rw [e p o h1] at h
    cases h
theorem ex_d {H H' : Hp} {a : Addr} {u : HO} (e : Ex H H') (h : Rd H a u) : Rd H' a u := by
  rcases h with h | ⟨o, h⟩
  · exact .inl (e a _ h)
  · exact .inr ⟨o, e a _ h⟩
theorem ex_l {K : PySem.W.Frag} {H H' : Hp} {a : Addr} {xs : List V} (e : Ex H H') (h : SqL K H a xs) : SqL K H' a xs := by
  rcases h with (h | ⟨o, h⟩) | h
  · exact .inl (.inl (e a _ h))
  · exact .inl (.inr ⟨o, e a _ h⟩)
  · exact .inr h
theorem ex_t {K : PySem.W.Frag} {H H' : Hp} {a : Addr} {xs : List V} (e : Ex H H') (h : SqT K H a xs) : SqT K H' a xs := by
  rcases h with (h | ⟨o, h⟩) | h
  · exact .inl (.inl (e a _ h))
  · exact .inl (.inr ⟨o, e a _ h⟩)
  · exact .inr h
section
variable {K : PySem.W.Frag} {F F' H H' : Hp}
mutual
theorem Rp.mono (e : Ex F F') : ∀ {d : D} {v : V}, Rp K F d v → Rp K F' d v
  | _, _, .non => .non
  | _, _, .bl b => .bl b
  | _, _, .int i => .int i
  | _, _, .str s => .str s
  | _, _, .ref a => .ref a
  | _, _, .mut a => .mut a
  | _, _, .ty n => .ty n
  | _, _, .lst h r => .lst (e _ _ h) (Rps.mono e r)
  | _, _, .kl h r => .kl (ex_l e h) (Rps.mono e r)
  | _, _, .tup h r => .tup (e _ _ h) (Rps.mono e r)
  | _, _, .dK h k r => .dK (ex_d e h) k (Rps.mono e r)
  | _, _, .dT h k r => .dT (ex_d e h) k (Rps.mono e r)
  | _, _, .ins h k r => .ins (e _ _ h) k (Rps.mono e r)
  | _, _, .exc0 a C => .exc0 a C
  | _, _, .exc1 h k r => .exc1 (e _ _ h) k (Rps.mono e r)
theorem Rps.mono (e : Ex F F') : ∀ {ds : List D} {vs : List V}, Rps K F ds vs → Rps K F' ds vs
  | _, _, .nil => .nil
  | _, _, .cons h r => .cons (Rp.mono e h) (Rps.mono e r)
end
theorem Rps.length : ∀ {ds : List D} {vs : List V}, Rps K F ds vs → ds.length = vs.length
  | _, _, .nil => rfl
  | _, _, .cons _ r => by rw [List.length_cons, List.length_cons, Rps.length r]
theorem Rps.get : ∀ {ds : List D} {vs : List V} {i : Nat} {d : D}, Rps K F ds vs → ds[i]? = some d → ∃ v, vs[i]? = some v ∧ Rp K F d v
  | _, _, i, _, .nil, h => by simp at h
  | _, _, 0, _, .cons a _, h => by
    simp at h
    subst h
    exact ⟨_, rfl, a⟩
  | _, _, i + 1, _, .cons _ r, h => by
    obtain ⟨v, h1, h2⟩ := Rps.get (i := i) r (by simpa using h)
    exact ⟨v, by simpa using h1, h2⟩
theorem Rps.app : ∀ {ds es : List D} {vs ws : List V}, Rps K F ds vs → Rps K F es ws → Rps K F (ds ++ es) (vs ++ ws)
  | _, _, _, _, .nil, s => s
  | _, _, _, _, .cons a r, s => .cons a (Rps.app r s)
theorem Rps.one {d : D} {v : V} (h : Rp K F d v) : Rps K F [d] [v] := .cons h .nil
theorem Rps.set : ∀ {ds : List D} {vs : List V} {d : D} {v : V} (i : Nat), Rps K F ds vs → Rp K F d v → Rps K F (ds.set i d) (vs.set i v)
  | _, _, _, _, _, .nil, _ => .nil
  | _, _, _, _, 0, .cons _ r, h => .cons h r
  | _, _, _, _, i + 1, .cons a r, h => .cons a (Rps.set i r h)
theorem Rps.take : ∀ {ds : List D} {vs : List V} (n : Nat), Rps K F ds vs → Rps K F (ds.take n) (vs.take n)
  | _, _, 0, _ => .nil
  | _, _, _ + 1, .nil => .nil
  | _, _, n + 1, .cons a r => .cons a (Rps.take n r)
theorem Rps.drop : ∀ {ds : List D} {vs : List V} (n : Nat), Rps K F ds vs → Rps K F (ds.drop n) (vs.drop n)
  | _, _, 0, r => r
  | _, _, _ + 1, .nil => .nil
  | _, _, n + 1, .cons _ r => Rps.drop n r
theorem Rps.erase : ∀ {ds : List D} {vs : List V} (i : Nat), Rps K F ds vs → Rps K F (ds.eraseIdx i) (vs.eraseIdx i)
  | _, _, _, .nil => .nil
  | _, _, 0, .cons _ r => r
  | _, _, i + 1, .cons a r => .cons a (Rps.erase i r)
theorem Rps.ints : ∀ {ns : List Int} {vs : List V}, Rps K F (ns.map D.int) vs → vs = ns.map V.int
  | [], _, .nil => rfl
  | n :: ns, _, .cons h r => by
    cases h
    rw [Rps.ints r] <;> rfl
theorem Rps.of_ints : ∀ (ns : List Int), Rps K F (ns.map D.int) (ns.map V.int)
  | [] => .nil
  | n :: ns => .cons (.int n) (Rps.of_ints ns)
end
/-- an owned object: its address, made here or handed in, what it holds -/
structure Ob where
  a : Addr
  loc : Bool
  d : D
def Mu (K : PySem.W.Frag) (F H : Hp) (a : Addr) : D → Prop
  | .lst xs => ∃ vs, H a = some (.lst vs) ∧ Rps K F xs vs
  | .dK kds => ∃ kvs, H a = some (.dK kvs) ∧ kds.map (·.1) = kvs.map (·.1) ∧ Rps K F (kds.map (·.2)) (kvs.map (·.2))
  | .dT kds => ∃ kvs, H a = some (.dT kvs) ∧ kds.map (·.1) = kvs.map (·.1) ∧ Rps K F (kds.map (·.2)) (kvs.map (·.2))
  | .ins C fds => ∃ dx fs, H a = some (.ins C dx fs) ∧ fds.map (·.1) = fs.map (·.1) ∧ Rps K F (fds.map (·.2)) (fs.map (·.2))
  | _ => False
theorem Mu.mono {K : PySem.W.Frag} {F F' H H' : Hp} {a : Addr} {d : D} (h : Mu K F H a d) (e : Ex F F') (k : ∀ o, H a = some o → H' a = some o) : Mu K F' H' a d := by
  cases d <;> first
    | exact h.elim
    | (obtain ⟨vs, h1, h2⟩ := h; exact ⟨vs, k _ h1, h2.mono e⟩)
    | (obtain ⟨vs, h1, h2, h3⟩ := h; exact ⟨vs, k _ h1, h2, h3.mono e⟩)
    | (obtain ⟨dx, vs, h1, h2, h3⟩ := h; exact ⟨dx, vs, k _ h1, h2, h3.mono e⟩)
theorem Mu.some {K : PySem.W.Frag} {F H : Hp} {a : Addr} {d : D} (h : Mu K F H a d) : ∃ o, H a = some o := by
  cases d <;> first
    | exact h.elim
    | (obtain ⟨vs, h1, h2⟩ := h; exact ⟨_, h1⟩)
    | (obtain ⟨vs, h1, h2, h3⟩ := h; exact ⟨_, h1⟩)
    | (obtain ⟨dx, vs, h1, h2, h3⟩ := h; exact ⟨_, h1⟩)
theorem Mu.notup {K : PySem.W.Frag} {F H : Hp} {a : Addr} {d : D} (h : Mu K F H a d) : ∀ vs, H a ≠ Option.some (.tup vs) := fun ws e => by
  cases d <;> first
    | exact h.elim
    | (obtain ⟨vs, h1, h2⟩ := h; rw [h1] at e; cases e)
    | (obtain ⟨dx, vs, h1, h2, h3⟩ := h; rw [h1] at e; cases e)
/-- where a def (or a part of one) was entered -/
structure En0 where
  F : Hp
  H : Hp
  M : List Addr
structure S0 (K : PySem.W.Frag) (Z : En0) (F H : Hp) (O : List Ob) : Prop where
  ex : Ex F H
  frame : ∀ a o, a ∉ Z.M → Z.H a = some o → H a = some o
  fz : ∀ a, Z.H a ≠ none → F a = Z.F a ∨ (Z.F a = none ∧ ∃ vs, F a = some (.tup vs))
  alive : ∀ a ∈ Z.M, H a ≠ none
  own : ∀ p ∈ O, F p.a = none ∧ Mu K F H p.a p.d ∧ (p.loc = true → Z.H p.a = none) ∧ (p.loc = false → p.a ∈ Z.M)
  nd : (O.map Ob.a).Nodup
section
variable {K : PySem.W.Frag} {Z : En0} {F F' H H' : Hp} {O : List Ob}
theorem S0.fresh (S : S0 K Z F H O) {p : Addr} (h : H p = none) : Z.H p = none := by
  cases e : Z.H p with
  | none => rfl
  | some o =>
    by_cases hm : p ∈ Z.M
    · exact absurd h (S.alive p hm)
    · rw [S.frame p o hm e] at h
      cases h
theorem S0.notM (S : S0 K Z F H O) {p : Addr} (h : H p = none) : p ∉ Z.M := fun hm => S.alive p hm h
theorem S0.freshO (S : S0 K Z F H O) {p : Addr} (h : H p = none) : ∀ q ∈ O, q.a ≠ p := fun q hq e => by
  obtain ⟨o, ho⟩ := (S.own q hq).2.1.some
  rw [e, h] at ho
  cases ho
/-- a new object that stays as it is -/
theorem S0.frz (S : S0 K Z F H O) {p : Addr} (o : HO) (h : H p = none) : S0 K Z (upd F p o) (upd H p o) O where
  ex := fun a u e => by
    by_cases hp : a = p
    · subst hp
      rw [upd_same] at e
      rw [upd_same]
      exact e
    · rw [upd_ne hp] at e ⊢
      exact S.ex a u e
  frame := fun a u hm e => by
    have q := S.frame a u hm e
    rw [upd_ne (ne_of_none q h)]
    exact q
  fz := fun a e => by
    have hp : a ≠ p := fun z => by
      subst z
      exact e (S.fresh h)
    rw [upd_ne hp]
    exact S.fz a e
  alive := fun a hm => by
    have hp : a ≠ p := fun z => S.notM h (by rw [← z]; exact hm)
    rw [upd_ne hp]
    exact S.alive a hm
  own := fun q hq => by
    obtain ⟨h1, h2, h3⟩ := S.own q hq
    have hp := S.freshO h q hq
    refine ⟨by rw [upd_ne hp]; exact h1, h2.mono (Ex.new (S.ex.none h)) fun o e => ?_, h3⟩
    rw [upd_ne hp]
    exact e
  nd := S.nd
/-- an object that is not told of -/
theorem S0.junk (S : S0 K Z F H O) {p : Addr} (o : HO) (h : H p = none) : S0 K Z F (upd H p o) O where
  ex := S.ex.trans (Ex.new h)
  frame := fun a u hm e => by
    have q := S.frame a u hm e
    rw [upd_ne (ne_of_none q h)]
    exact q
  fz := S.fz
  alive := fun a hm => by
    have hp : a ≠ p := fun z => S.notM h (by rw [← z]; exact hm)
    rw [upd_ne hp]
    exact S.alive a hm
  own := fun q hq => by
    obtain ⟨h1, h2, h3⟩ := S.own q hq
    have hp := S.freshO h q hq
    refine ⟨h1, h2.mono (Ex.refl _) fun o e => ?_, h3⟩
    rw [upd_ne hp]
    exact e
  nd := S.nd
/-- a new object that is owned -/
theorem S0.new (S : S0 K Z F H O) {p : Addr} (o : HO) (d : D) (h : H p = none) (hm : Mu K F (upd H p o) p d) : S0 K Z F (upd H p o) (⟨p, true, d⟩ :: O) where
  ex := S.ex.trans (Ex.new h)
  frame := (S.junk o h).frame
  fz := S.fz
  alive := (S.junk o h).alive
  own := fun q hq => by
    rcases List.mem_cons.mp hq with rfl | hq
    · exact ⟨S.ex.none h, hm, fun _ => S.fresh h, fun e => by cases e⟩
    · exact (S.junk o h).own q hq
  nd := by
    rw [List.map_cons, List.nodup_cons]
    refine ⟨fun hq => ?_, S.nd⟩
    obtain ⟨q, h1, h2⟩ := List.mem_map.mp hq
    exact S.freshO h q h1 h2
theorem nd_idx {O : List Ob} (nd : (O.map Ob.a).Nodup) {j : Nat} {a : Addr} {b : Bool} {d : D} (hj : O[j]? = some ⟨a, b, d⟩) {q : Ob} (hq : q ∈ O) (e : q.a = a) : q = ⟨a, b, d⟩ := by
  obtain ⟨i, hi, rfl⟩ := List.getElem_of_mem hq
  have h1 : (O.map Ob.a)[i]? = some a := by
    rw [List.getElem?_map, List.getElem?_eq_getElem hi]
    exact congrArg some e
  have h2 : (O.map Ob.a)[j]? = some a := by
    rw [List.getElem?_map, hj]
    rfl
  have e2 := nd_ix nd h1 h2
  subst e2
  rw [List.getElem?_eq_getElem hi] at hj
  exact Option.some.inj hj
theorem map_a_set {O : List Ob} {j : Nat} {a : Addr} {b b' : Bool} {d d' : D} (hj : O[j]? = some ⟨a, b, d⟩) : (O.set j ⟨a, b', d'⟩).map Ob.a = O.map Ob.a := by
  rw [List.map_set]
  apply List.ext_getElem?
  intro i
  by_cases h : j = i
  · subst h
    have hl : j < (O.map Ob.a).length := by
      rw [List.length_map]
      exact (List.getElem?_eq_some_iff.mp hj).1
    rw [List.getElem?_set_self hl, List.getElem?_map, hj]
    rfl
  · rw [List.getElem?_set_ne h]
/-- an owned object is written -/
theorem S0.write (S : S0 K Z F H O) {j : Nat} {a : Addr} {b : Bool} {d d' : D} {o : HO} (hj : O[j]? = some ⟨a, b, d⟩) (hm : Mu K F (upd H a o) a d') : S0 K Z F (upd H a o) (O.set j ⟨a, b, d'⟩) := by
  obtain ⟨h1, h2, h3, h4⟩ := S.own _ (List.mem_of_getElem? hj)
  refine ⟨fun x u e => ?_, fun x u hx e => ?_, S.fz, fun x hx => ?_, fun q hq => ?_, ?_⟩
  · have hx : x ≠ a := fun z => by
      subst z
      rw [h1] at e
      cases e
    rw [upd_ne hx]
    exact S.ex x u e
  · have hxa : x ≠ a := fun z => by
      subst z
      cases b with
      | true => rw [h3 rfl] at e; cases e
      | false => exact hx (h4 rfl)
    rw [upd_ne hxa]
    exact S.frame x u hx e
  · by_cases z : x = a
    · subst z
      rw [upd_same]
      intro q
      cases q
    · rw [upd_ne z]
      exact S.alive x hx
  · rcases List.mem_or_eq_of_mem_set hq with hq | rfl
    · by_cases z : q.a = a
      · have e := nd_idx S.nd hj hq z
        subst e
        have hi : (O.set j ⟨a, b, d'⟩)[j]? = some ⟨a, b, d'⟩ := List.getElem?_set_self (List.getElem?_eq_some_iff.mp hj).1
        have nd2 : ((O.set j ⟨a, b, d'⟩).map Ob.a).Nodup := by rw [map_a_set hj]; exact S.nd
        have e2 := nd_idx nd2 hi (by assumption) rfl
        have e3 : d = d' := congrArg Ob.d e2
        subst e3
        exact ⟨h1, hm, h3, h4⟩
      · obtain ⟨k1, k2, k3⟩ := S.own q hq
        refine ⟨k1, k2.mono (Ex.refl _) fun u e => ?_, k3⟩
        rw [upd_ne z]
        exact e
    · exact ⟨h1, hm, h3, h4⟩
  · rw [map_a_set hj]
    exact S.nd
/-- some of what is owned is let go -/
theorem S0.sub (S : S0 K Z F H O) {O' : List Ob} (h : O'.Sublist O) : S0 K Z F H O' :=
  ⟨S.ex, S.frame, S.fz, S.alive, fun q hq => S.own q (h.subset hq), S.nd.sublist (h.map _)⟩
/-- a tuple that is there can be told -/
theorem S0.tup (S : S0 K Z F H O) {q : Addr} {vs : List V} {ds : List D} (h : H q = some (.tup vs)) (r : Rps K F ds vs) : ∃ F', S0 K Z F' H O ∧ Ex F F' ∧ Rp K F' (.tup ds) (.ref q) := by
  cases e : F q with
  | some o =>
    have e2 := S.ex q o e
    rw [h] at e2
    cases e2
    exact ⟨F, S, Ex.refl F, .tup e r⟩
  | none =>
    refine ⟨upd F q (.tup vs), ⟨fun a u ea => ?_, S.frame, fun a ha => ?_, S.alive, fun p hp => ?_, S.nd⟩, Ex.new e, .tup upd_same (r.mono (Ex.new e))⟩
    · by_cases z : a = q
      · subst z
        rw [upd_same] at ea
        rw [h]
        exact ea
      · rw [upd_ne z] at ea
        exact S.ex a u ea
    · by_cases z : a = q
      · subst z
        rcases S.fz a ha with k | ⟨k, ws, k2⟩
        · exact .inr ⟨by rw [← k]; exact e, vs, upd_same⟩
        · rw [k2] at e
          cases e
      · rw [upd_ne z]
        exact S.fz a ha
    · obtain ⟨k1, k2, k3⟩ := S.own p hp
      have z : p.a ≠ q := fun z => k2.notup vs (by rw [z]; exact h)
      exact ⟨by rw [upd_ne z]; exact k1, k2.mono (Ex.new e) fun _ e => e, k3⟩
/-- what was owned (and made here) stays as it is from now on -/
theorem S0.freeze (S : S0 K Z F H O) {j : Nat} {a : Addr} {d : D} (hj : O[j]? = some ⟨a, true, d⟩) : ∃ F', Ex F F' ∧ S0 K Z F' H (O.eraseIdx j) ∧ Rp K F' d (.ref a) := by
  obtain ⟨h1, h2, h3, _⟩ := S.own _ (List.mem_of_getElem? hj)
  obtain ⟨o, ho⟩ := h2.some
  refine ⟨upd F a o, Ex.new h1, ⟨fun x u e => ?_, S.frame, fun x hx => ?_, S.alive, fun q hq => ?_, S.nd.sublist ((List.eraseIdx_sublist _ _).map _)⟩, ?_⟩
  · by_cases z : x = a
    · subst z
      rw [upd_same] at e
      rw [ho]
      exact e
    · rw [upd_ne z] at e
      exact S.ex x u e
  · have z : x ≠ a := fun z => by
      subst z
      exact hx (h3 rfl)
    rw [upd_ne z]
    exact S.fz x hx
  · obtain ⟨k1, k2, k3⟩ := S.own q ((List.eraseIdx_sublist _ _).subset hq)
    have z : q.a ≠ a := fun z => by
      have e := nd_idx S.nd hj ((List.eraseIdx_sublist _ _).subset hq) z
      subst e
      obtain ⟨i, hi, e⟩ := List.getElem_of_mem hq
      have hjl := (List.getElem?_eq_some_iff.mp hj).1
      have e2 : (O.eraseIdx j)[i]? = some ⟨a, true, d⟩ := by rw [List.getElem?_eq_getElem hi, e]
      rw [List.getElem?_eraseIdx] at e2
      have key : ∀ m : Nat, O[m]? = some ⟨a, true, d⟩ → m = j := fun m hm => nd_ix (l := O.map Ob.a) S.nd (by rw [List.getElem?_map, hm]; rfl) (by rw [List.getElem?_map, hj]; rfl)
      by_cases hij : i < j
      · rw [if_pos hij] at e2
        have := key i e2
        omega
      · rw [if_neg hij] at e2
        have := key (i + 1) e2
        omega
    refine ⟨by rw [upd_ne z]; exact k1, k2.mono (Ex.new h1) fun _ e => e, k3⟩
  · have ea : (upd F a o) a = some o := upd_same
    cases d with
    | lst xs =>
      obtain ⟨vs, e1, e2⟩ := h2
      rw [ho] at e1
      cases e1
      exact .lst ea (e2.mono (Ex.new h1))
    | dK kds =>
      obtain ⟨vs, e1, e2, e3⟩ := h2
      rw [ho] at e1
      cases e1
      exact .dK (.inl ea) e2 (e3.mono (Ex.new h1))
    | dT kds =>
      obtain ⟨vs, e1, e2, e3⟩ := h2
      rw [ho] at e1
      cases e1
      exact .dT (.inl ea) e2 (e3.mono (Ex.new h1))
    | ins C fds =>
      obtain ⟨dx, vs, e1, e2, e3⟩ := h2
      rw [ho] at e1
      cases e1
      exact .ins ea e2 (e3.mono (Ex.new h1))
    | _ => exact h2.elim
end
end PyD
namespace PyD
open PySem PySem.Spec L2
abbrev Gm := List (Option D)
abbrev Ow := List Ob
structure Slots (K : PySem.W.Frag) (F : Hp) (G : Gm) (σ : L2.St) : Prop where
  len : G.length = σ.length
  at_ : ∀ (i : Nat) (d : D), G[i]? = some (some d) → ∃ v : V, σ[i]? = some (some v) ∧ Rp K F d v
section
variable {K : PySem.W.Frag} {F F' : Hp} {G G' : Gm} {σ : L2.St}
theorem Slots.mono (s : Slots K F G σ) (e : Ex F F') : Slots K F' G σ := ⟨s.len, fun i d h => let ⟨v, a, b⟩ := s.at_ i d h; ⟨v, a, b.mono e⟩⟩
theorem Slots.set (s : Slots K F G σ) {i : Nat} {d : D} {v : V} (h : Rp K F d v) : Slots K F (G.set i (some d)) (σ.set i (some v)) := by
  refine ⟨by rw [List.length_set, List.length_set]; exact s.len, fun j e hj => ?_⟩
  by_cases hij : i = j
  · subst hij
    have hl : i < (G.set i (some d)).length := (List.getElem?_eq_some_iff.mp hj).1
    rw [List.length_set] at hl
    rw [List.getElem?_set_self hl] at hj
    cases hj
    rw [List.getElem?_set_self (by rw [← s.len]; exact hl)]
    exact ⟨v, rfl, h⟩
  · rw [List.getElem?_set_ne hij] at hj ⊢
    exact s.at_ j e hj
theorem Slots.unset (s : Slots K F G σ) {i : Nat} {v : Option V} : Slots K F (G.set i none) (σ.set i v) := by
  refine ⟨by rw [List.length_set, List.length_set]; exact s.len, fun j e hj => ?_⟩
  by_cases hij : i = j
  · subst hij
    have hl : i < (G.set i none).length := (List.getElem?_eq_some_iff.mp hj).1
    rw [List.length_set] at hl
    rw [List.getElem?_set_self hl] at hj
    cases hj
  · rw [List.getElem?_set_ne hij] at hj ⊢
    exact s.at_ j e hj
/-- a slot told otherwise (what it holds stays) -/
theorem Slots.re (s : Slots K F G σ) {i : Nat} {d d' : D} (h : G[i]? = some (some d)) (k : ∀ v, Rp K F d v → Rp K F d' v) : Slots K F (G.set i (some d')) σ := by
  refine ⟨by rw [List.length_set]; exact s.len, fun j e hj => ?_⟩
  by_cases hij : i = j
  · subst hij
    have hl : i < (G.set i (some d')).length := (List.getElem?_eq_some_iff.mp hj).1
    rw [List.length_set] at hl
    rw [List.getElem?_set_self hl] at hj
    cases hj
    obtain ⟨v, h1, h2⟩ := s.at_ i d h
    exact ⟨v, h1, k v h2⟩
  · rw [List.getElem?_set_ne hij] at hj
    exact s.at_ j e hj
end
/-- an exception: its class, its attributes -/
structure Xc where
  cls : Addr
  fs : List (Str × D)
def XR (K : PySem.W.Frag) (F : Hp) (x : Xc) (d : Option Addr) : Prop := ∀ a, Rp K F (.exc a x.cls d x.fs) (.ref a)
abbrev Ek := Xc → Gm → Ow → Prop
def XOk (K : PySem.W.Frag) (Z : En0) (F0 : Hp) (ex : Ek) (W : WX) : Prop := ∀ x d F H σ G O, Ex F0 F → S0 K Z F H O → Slots K F G σ → XR K F x d → ex x G O → W (.ref x.cls) d σ H
theorem XOk.mono {K : PySem.W.Frag} {Z : En0} {F F1 : Hp} {ex : Ek} {W : WX} (X : XOk K Z F ex W) (e : Ex F F1) : XOk K Z F1 ex W := fun x d F' H σ G O a => X x d F' H σ G O (e.trans a)
def wpE (K : PySem.W.Frag) (W : WX) (ex : Ek) (te : TE) (G : Gm) (O : Ow) (P : D → Ow → Prop) : Prop :=
  ∀ Z F H σ, XOk K Z F ex W → S0 K Z F H O → Slots K F G σ → ∀ Q : VK, (∀ d v F' H' O', S0 K Z F' H' O' → Ex F F' → Rp K F' d v → P d O' → Q v H') → te σ H Q
def wpT (K : PySem.W.Frag) (W : WX) (ex : Ek) (te : TT) (G : Gm) (O : Ow) (P : Bool → Ow → Prop) : Prop :=
  ∀ Z F H σ, XOk K Z F ex W → S0 K Z F H O → Slots K F G σ → ∀ Q : Bool → Hp → Prop, (∀ b F' H' O', S0 K Z F' H' O' → Ex F F' → P b O' → Q b H') → te σ H Q
def wpA (K : PySem.W.Frag) (W : WX) (ex : Ek) (te : TA) (G : Gm) (O : Ow) (P : List D → Ow → Prop) : Prop :=
  ∀ Z F H σ, XOk K Z F ex W → S0 K Z F H O → Slots K F G σ → ∀ Q : List V → Hp → Prop, (∀ d v F' H' O', S0 K Z F' H' O' → Ex F F' → Rps K F' d v → P d O' → Q v H') → te σ H Q
def wpO (K : PySem.W.Frag) (W : WX) (ex : Ek) (te : TO) (G : Gm) (O : Ow) (P : Option Int → Ow → Prop) : Prop :=
  ∀ Z F H σ, XOk K Z F ex W → S0 K Z F H O → Slots K F G σ → ∀ Q : Option Int → Hp → Prop, (∀ b F' H' O', S0 K Z F' H' O' → Ex F F' → P b O' → Q b H') → te σ H Q
/-- operations on values -/
def wpR (K : PySem.W.Frag) (r : R2) (x y : D) (O : Ow) (P : D → Ow → Prop) : Prop :=
  ∀ Z F H vx vy, S0 K Z F H O → Rp K F x vx → Rp K F y vy → ∀ Q : VK, (∀ d v F' H' O', S0 K Z F' H' O' → Ex F F' → Rp K F' d v → P d O' → Q v H') → r vx vy H Q
def wpU (K : PySem.W.Frag) (r : V → Hp → VK → Prop) (x : D) (O : Ow) (P : D → Ow → Prop) : Prop :=
  ∀ Z F H vx, S0 K Z F H O → Rp K F x vx → ∀ Q : VK, (∀ d v F' H' O', S0 K Z F' H' O' → Ex F F' → Rp K F' d v → P d O' → Q v H') → r vx H Q
def wpC (K : PySem.W.Frag) (r : List V → Hp → VK → Prop) (xs : List D) (O : Ow) (P : D → Ow → Prop) : Prop :=
  ∀ Z F H vs, S0 K Z F H O → Rps K F xs vs → ∀ Q : VK, (∀ d v F' H' O', S0 K Z F' H' O' → Ex F F' → Rp K F' d v → P d O' → Q v H') → r vs H Q
def wpM (K : PySem.W.Frag) (r : V → List V → Hp → VK → Prop) (x : D) (xs : List D) (O : Ow) (P : D → Ow → Prop) : Prop :=
  ∀ Z F H vx vs, S0 K Z F H O → Rp K F x vx → Rps K F xs vs → ∀ Q : VK, (∀ d v F' H' O', S0 K Z F' H' O' → Ex F F' → Rp K F' d v → P d O' → Q v H') → r vx vs H Q
structure EnD where
  nx : Gm → Ow → Prop
  rt : D → Ow → Prop
  bk : Gm → Ow → Prop := fun _ _ => False
  ct : Gm → Ow → Prop := fun _ _ => False
structure EnOk (K : PySem.W.Frag) (Z : En0) (F : Hp) (E : EnD) (D0 : Ends) : Prop where
  nx : ∀ F' H σ G O, Ex F F' → S0 K Z F' H O → Slots K F' G σ → E.nx G O → D0.nx σ H
  rt : ∀ F' H d v O, Ex F F' → S0 K Z F' H O → Rp K F' d v → E.rt d O → D0.rt v H
  bk : ∀ F' H σ G O, Ex F F' → S0 K Z F' H O → Slots K F' G σ → E.bk G O → D0.bk σ H
  ct : ∀ F' H σ G O, Ex F F' → S0 K Z F' H O → Slots K F' G σ → E.ct G O → D0.ct σ H
theorem EnOk.mono {K : PySem.W.Frag} {Z : En0} {F F1 : Hp} {E : EnD} {D0 : Ends} (q : EnOk K Z F E D0) (e : Ex F F1) : EnOk K Z F1 E D0 :=
  ⟨fun F' H σ G O a => q.nx F' H σ G O (e.trans a), fun F' H d v O a => q.rt F' H d v O (e.trans a), fun F' H σ G O a => q.bk F' H σ G O (e.trans a), fun F' H σ G O a => q.ct F' H σ G O (e.trans a)⟩
def wpS (K : PySem.W.Frag) (W : WX) (ex : Ek) (ts : TS) (G : Gm) (O : Ow) (E : EnD) : Prop :=
  ∀ Z F H σ, XOk K Z F ex W → S0 K Z F H O → Slots K F G σ → ∀ D0 : Ends, EnOk K Z F E D0 → ts D0 σ H
section
variable {K : PySem.W.Frag} {W : WX} {ex : Ek} {G : Gm} {O : Ow} {P : D → Ow → Prop} {PT : Bool → Ow → Prop} {PA : List D → Ow → Prop} {E : EnD} {ta tb te tc : TE} {tt uu : TT} {t u : TS} {aa ab : TA}
theorem wpE_var {i : Nat} {d : D} (h : G[i]? = some (some d)) (p : P d O) : wpE K W ex (tVar i) G O P := fun Z F H σ _ S s Q q => by
  obtain ⟨v, h1, h2⟩ := s.at_ i d h
  exact ⟨v, h1, q d v F H O S (Ex.refl F) h2 p⟩
theorem wpE_c {d : D} {v : V} (h : ∀ F, Rp K F d v) (p : P d O) : wpE K W ex (tC v) G O P := fun Z F H σ _ S s Q q => q d v F H O S (Ex.refl F) (h F) p
theorem wpE_int {i : Int} (p : P (.int i) O) : wpE K W ex (tC (.int i)) G O P := wpE_c (fun _ => .int i) p
theorem wpE_bl {i : Bool} (p : P (.bl i) O) : wpE K W ex (tC (.bl i)) G O P := wpE_c (fun _ => .bl i) p
theorem wpE_str {i : Str} (p : P (.str i) O) : wpE K W ex (tC (.str i)) G O P := wpE_c (fun _ => .str i) p
theorem wpE_non (p : P .non O) : wpE K W ex (tC .non) G O P := wpE_c (fun _ => .non) p
theorem wpE_ref {a : Addr} (p : P (.ref a) O) : wpE K W ex (tC (.ref a)) G O P := wpE_c (fun _ => .ref a) p
theorem wpE_ty {a : String} (p : P (.ty a) O) : wpE K W ex (tC (.ty a)) G O P := wpE_c (fun _ => .ty a) p
theorem wpE_mono {P' : D → Ow → Prop} (h : wpE K W ex te G O P) (k : ∀ d O', P d O' → P' d O') : wpE K W ex te G O P' := fun Z F H σ X S s Q q => h Z F H σ X S s Q fun d v F' H' O' S' e r p => q d v F' H' O' S' e r (k _ _ p)
theorem wpE_op {r : R2} (h : wpE K W ex ta G O fun x O1 => wpE K W ex tb G O1 fun y O2 => wpR K r x y O2 P) : wpE K W ex (tOp r ta tb) G O P := fun Z F H σ X S s Q q =>
  h Z F H σ X S s _ fun x vx F1 H1 O1 S1 e1 r1 p1 => p1 Z F1 H1 σ (X.mono e1) S1 (s.mono e1) _ fun y vy F2 H2 O2 S2 e2 r2 p2 =>
    p2 Z F2 H2 vx vy S2 (r1.mono e2) r2 Q fun d v F3 H3 O3 S3 e3 r3 p3 => q d v F3 H3 O3 S3 (e1.trans (e2.trans e3)) r3 p3
theorem wpE_un {r : V → Hp → VK → Prop} (h : wpE K W ex ta G O fun x O1 => wpU K r x O1 P) : wpE K W ex (tUn r ta) G O P := fun Z F H σ X S s Q q =>
  h Z F H σ X S s _ fun x vx F1 H1 O1 S1 e1 r1 p1 => p1 Z F1 H1 vx S1 r1 Q fun d v F3 H3 O3 S3 e3 r3 p3 => q d v F3 H3 O3 S3 (e1.trans e3) r3 p3
theorem wpE_cb {r : List V → Hp → VK → Prop} (h : wpA K W ex aa G O fun xs O1 => wpC K r xs O1 P) : wpE K W ex (tCB r aa) G O P := fun Z F H σ X S s Q q =>
  h Z F H σ X S s _ fun x vx F1 H1 O1 S1 e1 r1 p1 => p1 Z F1 H1 vx S1 r1 Q fun d v F3 H3 O3 S3 e3 r3 p3 => q d v F3 H3 O3 S3 (e1.trans e3) r3 p3
theorem wpA_nil (p : PA [] O) : wpA K W ex tNil G O PA := fun Z F H σ _ S s Q q => q [] [] F H O S (Ex.refl F) .nil p
theorem wpA_cons (h : wpE K W ex ta G O fun x O1 => wpA K W ex aa G O1 fun xs O2 => PA (x :: xs) O2) : wpA K W ex (tCons ta aa) G O PA := fun Z F H σ X S s Q q =>
  h Z F H σ X S s _ fun x vx F1 H1 O1 S1 e1 r1 p1 => p1 Z F1 H1 σ (X.mono e1) S1 (s.mono e1) _ fun y vy F2 H2 O2 S2 e2 r2 p2 => q _ _ F2 H2 O2 S2 (e1.trans e2) (.cons (r1.mono e2) r2) p2
theorem wpO_none {PO : Option Int → Ow → Prop} (p : PO none O) : wpO K W ex tNoPart G O PO := fun Z F H σ _ S s Q q => q none F H O S (Ex.refl F) p
theorem wpO_some {PO : Option Int → Ow → Prop} (h : wpE K W ex ta G O fun d O1 => ∃ i, d = .int i ∧ PO (some i) O1) : wpO K W ex (tPart ta) G O PO := fun Z F H σ X S s Q q =>
  h Z F H σ X S s _ fun d v F1 H1 O1 S1 e1 r1 ⟨i, hd, p⟩ => by
    subst hd
    cases r1
    exact ⟨i, rfl, q _ F1 H1 O1 S1 e1 p⟩
theorem wpT_test (h : wpE K W ex te G O fun d O1 => ∃ b, d = .bl b ∧ PT b O1) : wpT K W ex (tTest te) G O PT := fun Z F H σ X S s Q q =>
  h Z F H σ X S s _ fun d v F1 H1 O1 S1 e1 r1 ⟨b, hd, p⟩ => by
    subst hd
    cases r1
    exact ⟨b, rfl, q b F1 H1 O1 S1 e1 p⟩
theorem wpT_B (h : wpE K W ex te G O fun d O1 => ∃ b, d = .bl b ∧ PT b O1) : wpT K W ex (tB te) G O PT := wpT_test h
theorem wpT_and (h : wpT K W ex tt G O fun b O1 => (b = true → wpT K W ex uu G O1 PT) ∧ (b = false → PT false O1)) : wpT K W ex (tAnd tt uu) G O PT := fun Z F H σ X S s Q q =>
  h Z F H σ X S s _ fun b F1 H1 O1 S1 e1 p1 => by
    cases b with
    | true => exact p1.1 rfl Z F1 H1 σ (X.mono e1) S1 (s.mono e1) Q fun b F3 H3 O3 S3 e3 p3 => q b F3 H3 O3 S3 (e1.trans e3) p3
    | false => exact q _ F1 H1 O1 S1 e1 (p1.2 rfl)
theorem wpT_or (h : wpT K W ex tt G O fun b O1 => (b = true → PT true O1) ∧ (b = false → wpT K W ex uu G O1 PT)) : wpT K W ex (tOr tt uu) G O PT := fun Z F H σ X S s Q q =>
  h Z F H σ X S s _ fun b F1 H1 O1 S1 e1 p1 => by
    cases b with
    | true => exact q _ F1 H1 O1 S1 e1 (p1.1 rfl)
    | false => exact p1.2 rfl Z F1 H1 σ (X.mono e1) S1 (s.mono e1) Q fun b F3 H3 O3 S3 e3 p3 => q b F3 H3 O3 S3 (e1.trans e3) p3
theorem wpT_not (h : wpT K W ex tt G O fun b O1 => PT (!b) O1) : wpT K W ex (tNot tt) G O PT := fun Z F H σ X S s Q q =>
  h Z F H σ X S s _ fun b F1 H1 O1 S1 e1 p1 => q _ F1 H1 O1 S1 e1 p1
theorem wpT_mono {P' : Bool → Ow → Prop} (h : wpT K W ex tt G O PT) (k : ∀ d O', PT d O' → P' d O') : wpT K W ex tt G O P' := fun Z F H σ X S s Q q => h Z F H σ X S s Q fun d F' H' O' S' e p => q d F' H' O' S' e (k _ _ p)
/-- .. as values (bools) -/
theorem wpE_andV (h : wpE K W ex ta G O fun d O1 => ∃ b, d = .bl b ∧ (b = true → wpE K W ex tb G O1 P) ∧ (b = false → P (.bl false) O1)) : wpE K W ex (tAndV ta tb) G O P := fun Z F H σ X S s Q q =>
  h Z F H σ X S s _ fun d v F1 H1 O1 S1 e1 r1 ⟨b, hd, p1⟩ => by
    subst hd
    cases r1
    refine ⟨b, rfl, ?_⟩
    cases b with
    | true => exact p1.1 rfl Z F1 H1 σ (X.mono e1) S1 (s.mono e1) Q fun d v F3 H3 O3 S3 e3 r3 p3 => q d v F3 H3 O3 S3 (e1.trans e3) r3 p3
    | false => exact q _ _ F1 H1 O1 S1 e1 (.bl false) (p1.2 rfl)
theorem wpE_orV (h : wpE K W ex ta G O fun d O1 => ∃ b, d = .bl b ∧ (b = true → P (.bl true) O1) ∧ (b = false → wpE K W ex tb G O1 P)) : wpE K W ex (tOrV ta tb) G O P := fun Z F H σ X S s Q q =>
  h Z F H σ X S s _ fun d v F1 H1 O1 S1 e1 r1 ⟨b, hd, p1⟩ => by
    subst hd
    cases r1
    refine ⟨b, rfl, ?_⟩
    cases b with
    | true => exact q _ _ F1 H1 O1 S1 e1 (.bl true) (p1.1 rfl)
    | false => exact p1.2 rfl Z F1 H1 σ (X.mono e1) S1 (s.mono e1) Q fun d v F3 H3 O3 S3 e3 r3 p3 => q d v F3 H3 O3 S3 (e1.trans e3) r3 p3
theorem wpE_notV (h : wpE K W ex ta G O fun d O1 => ∃ b, d = .bl b ∧ P (.bl (!b)) O1) : wpE K W ex (tNotV ta) G O P := fun Z F H σ X S s Q q =>
  h Z F H σ X S s _ fun d v F1 H1 O1 S1 e1 r1 ⟨b, hd, p⟩ => by
    subst hd
    cases r1
    exact ⟨b, rfl, q _ _ F1 H1 O1 S1 e1 (.bl _) p⟩
theorem wpS_mono {E' : EnD} (h : wpS K W ex t G O E) (k1 : ∀ a b, E.nx a b → E'.nx a b) (k2 : ∀ a b, E.rt a b → E'.rt a b) (k3 : ∀ a b, E.bk a b → E'.bk a b) (k4 : ∀ a b, E.ct a b → E'.ct a b) : wpS K W ex t G O E' := fun Z F H σ X S s D0 q =>
  h Z F H σ X S s D0 ⟨fun F H σ G O e a b c => q.nx F H σ G O e a b (k1 _ _ c), fun F H d v O e a b c => q.rt F H d v O e a b (k2 _ _ c), fun F H σ G O e a b c => q.bk F H σ G O e a b (k3 _ _ c), fun F H σ G O e a b c => q.ct F H σ G O e a b (k4 _ _ c)⟩
theorem wpS_next (p : E.nx G O) : wpS K W ex tNext G O E := fun Z F H σ X S s D0 q => q.nx F H σ G O (Ex.refl F) S s p
theorem wpS_brk (p : E.bk G O) : wpS K W ex tBreak G O E := fun Z F H σ X S s D0 q => q.bk F H σ G O (Ex.refl F) S s p
theorem wpS_cont (p : E.ct G O) : wpS K W ex tCont G O E := fun Z F H σ X S s D0 q => q.ct F H σ G O (Ex.refl F) S s p
theorem wpS_seq (h : wpS K W ex t G O { E with nx := fun G' O' => wpS K W ex u G' O' E }) : wpS K W ex (tSeq t u) G O E := fun Z F H σ X S s D0 q =>
  h Z F H σ X S s { D0 with nx := u D0 } ⟨fun F1 H1 σ1 G1 O1 e1 S1 s1 p1 => p1 Z F1 H1 σ1 (X.mono e1) S1 s1 D0 (q.mono e1), q.rt, q.bk, q.ct⟩
theorem wpS_ret (h : wpE K W ex te G O E.rt) : wpS K W ex (tRet te) G O E := fun Z F H σ X S s D0 q =>
  h Z F H σ X S s _ fun d v F1 H1 O1 S1 e1 r1 p1 => q.rt F1 H1 d v O1 e1 S1 r1 p1
theorem wpS_retN (p : E.rt .non O) : wpS K W ex tRetN G O E := fun Z F H σ X S s D0 q => q.rt F H .non .non O (Ex.refl F) S .non p
theorem wpS_drop (h : wpE K W ex te G O fun _ O' => E.nx G O') : wpS K W ex (tDrop te) G O E := fun Z F H σ X S s D0 q =>
  h Z F H σ X S s _ fun d v F1 H1 O1 S1 e1 r1 p1 => q.nx F1 H1 σ G O1 e1 S1 (s.mono e1) p1
theorem wpS_if (h : wpT K W ex tt G O fun b O1 => (b = true → wpS K W ex t G O1 E) ∧ (b = false → wpS K W ex u G O1 E)) : wpS K W ex (tIfS tt t u) G O E := fun Z F H σ X S s D0 q =>
  h Z F H σ X S s _ fun b F1 H1 O1 S1 e1 p1 => by
    cases b with
    | true => exact p1.1 rfl Z F1 H1 σ (X.mono e1) S1 (s.mono e1) D0 (q.mono e1)
    | false => exact p1.2 rfl Z F1 H1 σ (X.mono e1) S1 (s.mono e1) D0 (q.mono e1)
theorem wpS_set {i : Nat} (h : wpE K W ex te G O fun d O' => E.nx (G.set i (some d)) O') : wpS K W ex (tAsg te (gName i)) G O E := fun Z F H σ X S s D0 q =>
  h Z F H σ X S s _ fun d v F1 H1 O1 S1 e1 r1 p1 => q.nx F1 H1 _ _ O1 e1 S1 ((s.mono e1).set r1) p1
/-- o[i] = e, by values -/
def wpPut (K : PySem.W.Frag) (r : TSet) (o i v : D) (O : Ow) (P : Ow → Prop) : Prop :=
  ∀ Z F H vo vi vv, S0 K Z F H O → Rp K F o vo → Rp K F i vi → Rp K F v vv → ∀ Q : Hp → Prop, (∀ F' H' O', S0 K Z F' H' O' → Ex F F' → P O' → Q H') → r vo vi vv H Q
theorem wpS_sub {r : TSet} (h : wpE K W ex te G O fun d O1 => wpE K W ex ta G O1 fun o O2 => wpE K W ex tb G O2 fun i O3 => wpPut K r o i d O3 fun O4 => E.nx G O4) : wpS K W ex (tAsg te (gSub ta tb r)) G O E := fun Z F H σ X S s D0 q =>
  h Z F H σ X S s _ fun d v F1 H1 O1 S1 e1 r1 p1 => p1 Z F1 H1 σ (X.mono e1) S1 (s.mono e1) _ fun o vo F2 H2 O2 S2 e2 r2 p2 => p2 Z F2 H2 σ (X.mono (e1.trans e2)) S2 (s.mono (e1.trans e2)) _ fun i vi F3 H3 O3 S3 e3 r3 p3 =>
    p3 Z F3 H3 vo vi v S3 (r2.mono e3) r3 (r1.mono (e2.trans e3)) _ fun F4 H4 O4 S4 e4 p4 => q.nx F4 H4 σ G O4 (e1.trans (e2.trans (e3.trans e4))) S4 (s.mono (e1.trans (e2.trans (e3.trans e4)))) p4
/-- what is owned (and made here) is told as it stands from now on: slot i held it -/
theorem wpS_frz {i j : Nat} {a : Addr} {d : D} (hi : G[i]? = some (some (.mut a))) (hj : O[j]? = some ⟨a, true, d⟩) (h : wpS K W ex t (G.set i (some d)) (O.eraseIdx j) E) : wpS K W ex t G O E := fun Z F H σ X S s D0 q => by
  obtain ⟨F', e, S', r⟩ := S.freeze hj
  exact h Z F' H σ (X.mono e) S' ((s.mono e).re hi fun v hv => by cases hv; exact r) D0 (q.mono e)
theorem wpS_subO {O' : Ow} (hs : O'.Sublist O) (h : wpS K W ex t G O' E) : wpS K W ex t G O E := fun Z F H σ X S s D0 q => h Z F H σ X (S.sub hs) s D0 q
/-- targets -/
def wpG (K : PySem.W.Frag) (g : TG) (d : D) (G : Gm) (O : Ow) (P : Gm → Ow → Prop) : Prop :=
  ∀ Z F H σ v, S0 K Z F H O → Slots K F G σ → Rp K F d v → ∀ Q : L2.St → Hp → Prop, (∀ F' H' σ' G' O', S0 K Z F' H' O' → Slots K F' G' σ' → Ex F F' → P G' O' → Q σ' H') → g v σ H Q
theorem wpG_name {i : Nat} {d : D} {PG : Gm → Ow → Prop} (p : PG (G.set i (some d)) O) : wpG K (gName i) d G O PG := fun Z F H σ v S s r Q q => q F H _ _ O S (s.set r) (Ex.refl F) p
/-- several targets -/
def wpGs (K : PySem.W.Frag) (g : TGs) (ds : List D) (G : Gm) (O : Ow) (P : Gm → Ow → Prop) : Prop :=
  ∀ Z F H σ vs, S0 K Z F H O → Slots K F G σ → Rps K F ds vs → ∀ Q : L2.St → Hp → Prop, (∀ F' H' σ' G' O', S0 K Z F' H' O' → Slots K F' G' σ' → Ex F F' → P G' O' → Q σ' H') → g vs σ H Q
theorem wpGs_nil {PG : Gm → Ow → Prop} (p : PG G O) : wpGs K gNil [] G O PG := fun Z F H σ vs S s r Q q => by
  cases r
  exact ⟨rfl, q F H σ G O S s (Ex.refl F) p⟩
theorem wpGs_cons {g : TG} {gs : TGs} {d : D} {ds : List D} {PG : Gm → Ow → Prop} (h : wpG K g d G O fun G1 O1 => wpGs K gs ds G1 O1 PG) : wpGs K (gCons g gs) (d :: ds) G O PG := fun Z F H σ vs S s r Q q => by
  cases r with
  | cons r1 r2 => exact ⟨_, _, rfl, h Z F H σ _ S s r1 _ fun F1 H1 σ1 G1 O1 S1 s1 e1 p1 => p1 Z F1 H1 σ1 _ S1 s1 (r2.mono e1) Q fun F2 H2 σ2 G2 O2 S2 s2 e2 p2 => q F2 H2 σ2 G2 O2 S2 s2 (e1.trans e2) p2⟩
theorem wpG_tup {n : Nat} {gs : TGs} {ds : List D} {PG : Gm → Ow → Prop} (hn : ds.length = n) (h : wpGs K gs ds G O PG) : wpG K (gTup K n gs) (.tup ds) G O PG := fun Z F H σ v S s r Q q => by
  cases r with
  | tup h1 h2 => exact ⟨_, _, rfl, SqT.of (S.ex _ _ h1), by rw [← h2.length]; exact hn, h Z F H σ _ S s h2 Q q⟩
/-- a sequence that a loop walks: frozen or owned -/
def seqOf (O : Ow) (d : D) (xs : List D) : Prop := d = .lst xs ∨ d = .kl xs ∨ ∃ a b, d = .mut a ∧ (⟨a, b, .lst xs⟩ : Ob) ∈ O
theorem seqOf.at {Z : En0} {F H : Hp} {d : D} {xs : List D} {v : V} (h : seqOf O d xs) (S : S0 K Z F H O) (r : Rp K F d v) : ∃ a vs, v = .ref a ∧ SqL K H a vs ∧ Rps K F xs vs := by
  rcases h with rfl | rfl | ⟨a, b, rfl, hm⟩
  · cases r with
    | lst h1 h2 => exact ⟨_, _, rfl, SqL.of (S.ex _ _ h1), h2⟩
  · cases r with
    | kl h1 h2 => exact ⟨_, _, rfl, ex_l S.ex h1, h2⟩
  · cases r
    obtain ⟨_, ⟨vs, h2, h3⟩, _⟩ := S.own _ hm
    exact ⟨_, vs, rfl, SqL.of h2, h3⟩
structure WalkOk (K : PySem.W.Frag) (J : It) (F1 : Hp) (xs : List D) (C : Ow → Prop) : Prop where
  go : ∀ Z F H O i x, S0 K Z F H O → Ex F1 F → C O → xs[i]? = some x → J.go i H ∧ ∀ v H', J.yld i H v H' → ∃ F', S0 K Z F' H' O ∧ Ex F F' ∧ Rp K F' x v
  stop : ∀ Z F H O, S0 K Z F H O → Ex F1 F → C O → J.stop xs.length H
def wpI (K : PySem.W.Frag) (W : WX) (ex : Ek) (wi : TI) (G : Gm) (O : Ow) (P : List D → (Ow → Prop) → Ow → Prop) : Prop :=
  ∀ Z F H σ, XOk K Z F ex W → S0 K Z F H O → Slots K F G σ → ∀ R : It → Hp → Prop, (∀ J xs C F' H' O', S0 K Z F' H' O' → Ex F F' → WalkOk K J F' xs C → P xs C O' → R J H') → wi σ H R
theorem wpI_list {PI : List D → (Ow → Prop) → Ow → Prop} (h : wpE K W ex te G O fun d O1 => ∃ xs, seqOf O1 d xs ∧ PI xs (fun O' => seqOf O' d xs) O1) : wpI K W ex (iList K te) G O PI := fun Z F H σ X S s R q =>
  h Z F H σ X S s _ fun d v F1 H1 O1 S1 e1 r1 ⟨xs, hsq, p⟩ => by
    obtain ⟨a, vs, rfl, hv, rv⟩ := hsq.at S1 r1
    refine ⟨a, rfl, ⟨vs, hv⟩, q _ xs _ F1 H1 O1 S1 e1 ⟨fun Z F2 H2 O2 i x S2 e2 hC hx => ?_, fun Z F2 H2 O2 S2 e2 hC => ?_⟩ p⟩
    · obtain ⟨a', vs', ea, hv', rv'⟩ := hC.at S2 (r1.mono e2)
      cases ea
      obtain ⟨y, hy, ry⟩ := rv'.get hx
      refine ⟨⟨vs', y, hv', hy⟩, fun z H3 hz => ?_⟩
      obtain ⟨rfl, fz⟩ := hz
      have ez : z = y := Option.some.inj ((fz _ hv').symm.trans hy)
      subst ez
      exact ⟨F2, S2, Ex.refl _, ry⟩
    · obtain ⟨a', vs', ea, hv', rv'⟩ := hC.at S2 (r1.mono e2)
      cases ea
      exact ⟨vs', hv', by rw [rv'.length]; exact Nat.le_refl _⟩
theorem wpI_tup {PI : List D → (Ow → Prop) → Ow → Prop} (h : wpE K W ex te G O fun d O1 => ∃ xs, d = .tup xs ∧ PI xs (fun _ => True) O1) : wpI K W ex (iTup K te) G O PI := fun Z F H σ X S s R q =>
  h Z F H σ X S s _ fun d v F1 H1 O1 S1 e1 r1 ⟨xs, hd, p⟩ => by
    subst hd
    cases r1 with
    | @tup a vs _ ht0 rv =>
    have ht : SqT K F1 a vs := SqT.of ht0
    refine ⟨a, rfl, ⟨vs, ex_t S1.ex ht⟩, q _ xs _ F1 H1 O1 S1 e1 ⟨fun Z F2 H2 O2 i x S2 e2 hC hx => ?_, fun Z F2 H2 O2 S2 e2 hC => ?_⟩ p⟩
    · obtain ⟨y, hy, ry⟩ := rv.get hx
      have hv' := ex_t S2.ex (ex_t e2 ht)
      refine ⟨⟨vs, y, hv', hy⟩, fun z H3 hz => ?_⟩
      obtain ⟨rfl, fz⟩ := hz
      have ez : z = y := Option.some.inj ((fz _ hv').symm.trans hy)
      subst ez
      exact ⟨F2, S2, Ex.refl _, ry.mono e2⟩
    · exact ⟨vs, ex_t S2.ex (ex_t e2 ht), by rw [rv.length]; exact Nat.le_refl _⟩
/-- 0, 1, .. -/
def rngD (lo : Int) (n : Nat) : List D := (List.range n).map fun (i : Nat) => D.int (lo + (i : Int))
theorem rngD_len {lo : Int} {n : Nat} : (rngD lo n).length = n := by simp [rngD]
theorem rngD_at {lo : Int} {n i : Nat} {x : D} (h : (rngD lo n)[i]? = some x) : i < n ∧ x = .int (lo + (i : Int)) := by
  unfold rngD at h
  rw [List.getElem?_map] at h
  by_cases hi : i < n
  · rw [List.getElem?_range hi] at h
    exact ⟨hi, (Option.some.inj h).symm⟩
  · rw [List.getElem?_eq_none (by simpa using hi)] at h
    cases h
theorem walk_rng {lo : Int} {n : Nat} {F1 : Hp} : WalkOk K (Itr lo n) F1 (rngD lo n) (fun _ => True) where
  go := fun Z F H O i x S e _ hx => by
    obtain ⟨hi, rfl⟩ := rngD_at hx
    refine ⟨hi, fun v H' hy => ?_⟩
    obtain ⟨rfl, rfl⟩ := hy
    exact ⟨F, S, Ex.refl _, .int _⟩
  stop := fun Z F H O S e _ => by
    rw [rngD_len]
    exact Nat.le_refl _
theorem wpI_rng1 {PI : List D → (Ow → Prop) → Ow → Prop} (h : wpA K W ex aa G O fun ds O1 => ∃ n : Int, ds = [.int n] ∧ (-(2 ^ 62) ≤ n ∧ n < 2 ^ 62) ∧ PI (rngD 0 n.toNat) (fun _ => True) O1) : wpI K W ex (iRng1 aa) G O PI := fun Z F H σ X S s R q =>
  h Z F H σ X S s _ fun ds vs F1 H1 O1 S1 e1 r1 ⟨n, hds, hb, p⟩ => by
    subst hds
    cases r1 with
    | cons ra rb =>
      cases ra
      cases rb
      exact ⟨n, rfl, hb.1, hb.2, q _ _ _ F1 H1 O1 S1 e1 walk_rng p⟩
theorem wpI_rng2 {PI : List D → (Ow → Prop) → Ow → Prop} (h : wpA K W ex aa G O fun ds O1 => ∃ m n : Int, ds = [.int m, .int n] ∧ (-(2 ^ 62) ≤ m ∧ m < 2 ^ 62 ∧ -(2 ^ 62) ≤ n ∧ n < 2 ^ 62) ∧ PI (rngD m (n - m).toNat) (fun _ => True) O1) : wpI K W ex (iRng2 aa) G O PI := fun Z F H σ X S s R q =>
  h Z F H σ X S s _ fun ds vs F1 H1 O1 S1 e1 r1 ⟨m, n, hds, hb, p⟩ => by
    subst hds
    cases r1 with
    | cons ra rb =>
      cases ra
      cases rb with
      | cons rc rd =>
        cases rc
        cases rd
        exact ⟨m, n, rfl, hb, q _ _ _ F1 H1 O1 S1 e1 walk_rng p⟩
/-- (0, x), (1, y), .. -/
def enumD (xs : List D) : List D := xs.zipIdx.map fun p => D.tup [.int (p.2 : Nat), p.1]
theorem enumD_len {xs : List D} : (enumD xs).length = xs.length := by simp [enumD]
theorem enumD_at {xs : List D} {i : Nat} {x : D} (h : (enumD xs)[i]? = some x) : ∃ y, xs[i]? = some y ∧ x = .tup [.int (i : Nat), y] := by
  unfold enumD at h
  rw [List.getElem?_map, List.getElem?_zipIdx] at h
  cases e : xs[i]? with
  | none => rw [e] at h; cases h
  | some y =>
    rw [e] at h
    have h2 := Option.some.inj h
    exact ⟨y, rfl, by rw [← h2]; simp⟩
theorem wpI_enum {PI : List D → (Ow → Prop) → Ow → Prop} (h : wpA K W ex aa G O fun ds O1 => ∃ d xs, ds = [d] ∧ seqOf O1 d xs ∧ PI (enumD xs) (fun O' => seqOf O' d xs) O1) : wpI K W ex (iEnum K aa) G O PI := fun Z F H σ X S s R q =>
  h Z F H σ X S s _ fun ds vs F1 H1 O1 S1 e1 r1 ⟨d, xs, hds, hsq, p⟩ => by
    subst hds
    cases r1 with
    | cons ra rb =>
      cases rb
      obtain ⟨a, vs, rfl, hv, rv⟩ := hsq.at S1 ra
      refine ⟨a, vs, rfl, hv, q _ (enumD xs) _ F1 H1 O1 S1 e1 ⟨fun Z F2 H2 O2 i x S2 e2 hC hx => ?_, fun Z F2 H2 O2 S2 e2 hC => ?_⟩ p⟩
      · obtain ⟨y, hy, rfl⟩ := enumD_at hx
        obtain ⟨a', vs', ea, hv', rv'⟩ := hC.at S2 (ra.mono e2)
        cases ea
        obtain ⟨u, hu, ru⟩ := rv'.get hy
        refine ⟨⟨vs', u, hv', hu⟩, fun z H3 hz => ?_⟩
        obtain ⟨T, x, rfl, nT, rfl, fx⟩ := hz
        have ex : x = u := Option.some.inj ((fx _ hv').symm.trans hu)
        subst ex
        have nF := S2.ex.none nT
        exact ⟨_, S2.frz _ nT, Ex.new nF, .tup upd_same (.cons (.int _) (.cons (ru.mono (Ex.new nF)) .nil))⟩
      · obtain ⟨a', vs', ea, hv', rv'⟩ := hC.at S2 (ra.mono e2)
        cases ea
        refine ⟨vs', hv', ?_⟩
        rw [enumD_len, rv'.length]
        exact Nat.le_refl _
/-- for: I the invariant by the turn -/
theorem wpS_for {wi : TI} {g : TG} (h : wpI K W ex wi G O fun xs C O1 => ∃ I : Nat → Gm → Ow → Prop, I 0 G O1 ∧ (∀ i G' O', i ≤ xs.length → I i G' O' → C O') ∧
      (∀ i x G' O', xs[i]? = some x → I i G' O' → wpG K g x G' O' fun G2 O2 => wpS K W ex t G2 O2 { E with nx := I (i + 1), ct := I (i + 1), bk := E.nx }) ∧ ∀ G' O', I xs.length G' O' → E.nx G' O') :
    wpS K W ex (tFor wi g t) G O E := fun Z F H σ X S s D0 q =>
  h Z F H σ X S s _ fun J xs C F1 H1 O1 S1 e1 hw ⟨I, h0, hl, hs, hd⟩ => by
    refine ⟨fun i m σ' H' => i + m = xs.length ∧ ∃ F2 G2 O2, S0 K Z F2 H' O2 ∧ Slots K F2 G2 σ' ∧ Ex F1 F2 ∧ I i G2 O2, ⟨xs.length, by omega, F1, G, O1, S1, s.mono e1, Ex.refl _, h0⟩, fun i m σ' H' hW => ?_⟩
    obtain ⟨em, F2, G2, O2, S2, s2, e2, hI⟩ := hW
    have hC := hl i G2 O2 (by omega) hI
    have qn := q.mono (e1.trans e2)
    by_cases hi : i < xs.length
    · obtain ⟨x, hx⟩ : ∃ x, xs[i]? = some x := ⟨xs[i], List.getElem?_eq_getElem hi⟩
      obtain ⟨g1, g2⟩ := hw.go Z F2 H' O2 i x S2 e2 hC hx
      refine .inr ⟨g1, fun σ3 H3 => ∃ F3 G3 O3, S0 K Z F3 H3 O3 ∧ Slots K F3 G3 σ3 ∧ Ex F1 F3 ∧ I (i + 1) G3 O3, fun σ3 H3 h3 => ⟨m - 1, by omega, by omega, h3⟩, fun z H3 hz => ?_⟩
      obtain ⟨F3, S3, e3, rz⟩ := g2 z H3 hz
      refine hs i x G2 O2 hx hI Z F3 _ σ' z S3 (s2.mono e3) rz _ fun F4 H4 σ4 G4 O4 S4 s4 e4 p4 => p4 Z F4 H4 σ4 (X.mono (e1.trans (e2.trans (e3.trans e4)))) S4 s4 _ ⟨?_, (qn.mono (e3.trans e4)).rt, (qn.mono (e3.trans e4)).nx, ?_⟩
      · exact fun F5 H5 σ5 G5 O5 e5 S5 s5 p5 => ⟨F5, G5, O5, S5, s5, e2.trans (e3.trans (e4.trans e5)), p5⟩
      · exact fun F5 H5 σ5 G5 O5 e5 S5 s5 p5 => ⟨F5, G5, O5, S5, s5, e2.trans (e3.trans (e4.trans e5)), p5⟩
    · have : i = xs.length := by omega
      subst this
      exact .inl ⟨hw.stop Z F2 H' O2 S2 e2 hC, qn.nx F2 H' σ' G2 O2 (Ex.refl _) S2 s2 (hd _ _ hI)⟩
def wipeG (G : Gm) : List Nat → Gm
  | [] => G
  | v :: vs => (wipeG G vs).set v none
theorem Slots.wipe {F : Hp} {σ : L2.St} (s : Slots K F G σ) : ∀ vs : List Nat, Slots K F (wipeG G vs) (wipe σ vs)
  | [] => s
  | v :: vs => (Slots.wipe s vs).unset
theorem wipe_at {σ : L2.St} {k : Nat} : ∀ {vs : List Nat}, (L2.wipe σ vs)[k]? = if k ∈ vs then (σ[k]?).map (fun _ => none) else σ[k]?
  | [] => by simp [L2.wipe]
  | v :: vs => by
    show ((L2.wipe σ vs).set v none)[k]? = _
    by_cases hk : v = k
    · subst hk
      rw [List.getElem?_set_self']
      have ih := wipe_at (σ := σ) (k := v) (vs := vs)
      rw [ih]
      by_cases hm : v ∈ vs
      · simp [hm]
        cases σ[v]? <;> rfl
      · simp [hm]
        cases σ[v]? <;> rfl
    · rw [List.getElem?_set_ne hk, wipe_at (σ := σ) (k := k) (vs := vs)]
      have : k ≠ v := fun e => hk e.symm
      simp [this]
theorem wipe_ext {σ τ : L2.St} {vs : List Nat} (hl : σ.length = τ.length) (h : ∀ k, k ∉ vs → σ[k]? = τ[k]?) : L2.wipe σ vs = L2.wipe τ vs := by
  apply List.ext_getElem?
  intro k
  rw [wipe_at, wipe_at]
  by_cases hk : k ∈ vs
  · rw [if_pos hk, if_pos hk]
    by_cases hb : k < σ.length
    · rw [List.getElem?_eq_getElem hb, List.getElem?_eq_getElem (by omega)] <;> rfl
    · rw [List.getElem?_eq_none (by omega), List.getElem?_eq_none (by omega)] <;> rfl
  · rw [if_neg hk, if_neg hk]
    exact h k hk
/-- a target that stores in slots among vs alone -/
def gIn (vs : List Nat) (g : TG) : Prop := ∀ v (σ : L2.St) H (Q : L2.St → Hp → Prop), g v σ H Q → g v σ H fun σ' H' => Q σ' H' ∧ σ'.length = σ.length ∧ ∀ k, k ∉ vs → σ'[k]? = σ[k]?
def gsIn (vs : List Nat) (g : TGs) : Prop := ∀ v (σ : L2.St) H (Q : L2.St → Hp → Prop), g v σ H Q → g v σ H fun σ' H' => Q σ' H' ∧ σ'.length = σ.length ∧ ∀ k, k ∉ vs → σ'[k]? = σ[k]?
theorem gIn_name {vs : List Nat} {j : Nat} (h : j ∈ vs) : gIn vs (gName j) := fun v σ H Q q => ⟨q, by simp, fun k hk => List.getElem?_set_ne (fun e => hk (by rw [← e]; exact h))⟩
theorem gsIn_nil {vs : List Nat} : gsIn vs gNil := fun v σ H Q q => ⟨q.1, q.2, rfl, fun _ _ => rfl⟩
theorem gsIn_cons {vs : List Nat} {g : TG} {gs : TGs} (h : gIn vs g) (m : ∀ v (σ : L2.St) H (Q Q' : L2.St → Hp → Prop), (∀ a b, Q a b → Q' a b) → g v σ H Q → g v σ H Q') (hs : gsIn vs gs)
    (ms : ∀ v (σ : L2.St) H (Q Q' : L2.St → Hp → Prop), (∀ a b, Q a b → Q' a b) → gs v σ H Q → gs v σ H Q') : gsIn vs (gCons g gs) := fun v σ H Q q => by
  obtain ⟨x, r, rfl, q⟩ := q
  refine ⟨x, r, rfl, m _ _ _ _ _ (fun a b z => ?_) (h _ _ _ _ q)⟩
  obtain ⟨z1, z2, z3⟩ := z
  refine ms _ _ _ _ _ (fun a' b' y => ?_) (hs _ _ _ _ z1)
  obtain ⟨y1, y2, y3⟩ := y
  exact ⟨y1, y2.trans z2, fun k hk => (y3 k hk).trans (z3 k hk)⟩
abbrev gMono (g : TG) : Prop := ∀ v (σ : L2.St) H (Q Q' : L2.St → Hp → Prop), (∀ a b, Q a b → Q' a b) → g v σ H Q → g v σ H Q'
abbrev gsMono (g : TGs) : Prop := ∀ v (σ : L2.St) H (Q Q' : L2.St → Hp → Prop), (∀ a b, Q a b → Q' a b) → g v σ H Q → g v σ H Q'
theorem gMono_name {j : Nat} : gMono (gName j) := fun v σ H Q Q' k q => k _ _ q
theorem gsMono_nil : gsMono gNil := fun v σ H Q Q' k q => ⟨q.1, k _ _ q.2⟩
theorem gsMono_cons {g : TG} {gs : TGs} (h : gMono g) (hs : gsMono gs) : gsMono (gCons g gs) := fun v σ H Q Q' k q => by
  obtain ⟨x, r, rfl, q⟩ := q
  exact ⟨x, r, rfl, h _ _ _ _ _ (fun a b z => hs _ _ _ _ _ k z) q⟩
theorem gMono_tup {n : Nat} {gs : TGs} (hs : gsMono gs) : gMono (gTup K n gs) := fun v σ H Q Q' k q => by
  obtain ⟨a, xs, h1, h2, h3, q⟩ := q
  exact ⟨a, xs, h1, h2, h3, hs _ _ _ _ _ k q⟩
theorem gIn_tup {vs : List Nat} {n : Nat} {gs : TGs} (hs : gsIn vs gs) : gIn vs (gTup K n gs) := fun v σ H Q q => by
  obtain ⟨a, xs, h1, h2, h3, q⟩ := q
  exact ⟨a, xs, h1, h2, h3, hs _ _ _ _ q⟩
theorem gIn_tup2 {vs : List Nat} {i j : Nat} (hi : i ∈ vs) (hj : j ∈ vs) : gIn vs (gTup K 2 (gCons (gName i) (gCons (gName j) gNil))) := gIn_tup (gsIn_cons (gIn_name hi) gMono_name (gsIn_cons (gIn_name hj) gMono_name gsIn_nil gsMono_nil) (gsMono_cons gMono_name gsMono_nil))
theorem gMono_tup2 {i j : Nat} : gMono (gTup K 2 (gCons (gName i) (gCons (gName j) gNil))) := gMono_tup (gsMono_cons gMono_name (gsMono_cons gMono_name gsMono_nil))
/-- entered anew, with one more object that is to be kept -/
def En0.hold (Z : En0) (p : Addr) (o : HO) : En0 := ⟨fun a => if a = p then none else Z.F a, upd Z.H p o, Z.M⟩
theorem S0.hold {Z : En0} {F H : Hp} {O : Ow} (S : S0 K Z F H O) {p : Addr} {o : HO} (hp : H p = some o) (hF : F p = none) (hO : ∀ q ∈ O, q.a ≠ p) : S0 K (Z.hold p o) F H O where
  ex := S.ex
  frame := fun a u hm e => by
    by_cases z : a = p
    · subst z
      have e2 : upd Z.H a o a = some u := e
      rw [upd_same] at e2
      rw [hp]
      exact e2
    · have e2 : upd Z.H p o a = some u := e
      rw [upd_ne z] at e2
      exact S.frame a u hm e2
  fz := fun a e => by
    show F a = (if a = p then none else Z.F a) ∨ ((if a = p then none else Z.F a) = none ∧ ∃ vs, F a = some (.tup vs))
    by_cases z : a = p
    · subst z
      rw [if_pos rfl]
      exact .inl hF
    · rw [if_neg z]
      have e2 : upd Z.H p o a ≠ none := e
      rw [upd_ne z] at e2
      exact S.fz a e2
  alive := S.alive
  own := fun q hq => by
    obtain ⟨h1, h2, h3, h4⟩ := S.own q hq
    refine ⟨h1, h2, fun e => ?_, h4⟩
    show upd Z.H p o q.a = none
    rw [upd_ne (hO q hq)]
    exact h3 e
  nd := S.nd
theorem S0.unhold {Z : En0} {F H : Hp} {O : Ow} {p : Addr} {o : HO} (S : S0 K (Z.hold p o) F H O) (hZ : Z.H p = none) (hM : p ∉ Z.M) (nt : ∀ vs, o ≠ .tup vs := by intro _ z; cases z) : S0 K Z F H O ∧ H p = some o ∧ F p = none ∧ ∀ q ∈ O, q.a ≠ p := by
  have key : ∀ a, a ≠ p → (Z.hold p o).H a = Z.H a := fun a z => upd_ne z
  have kp : (Z.hold p o).H p = some o := upd_same
  refine ⟨⟨S.ex, fun a u hm e => ?_, fun a e => ?_, S.alive, fun q hq => ?_, S.nd⟩, S.frame p o hM kp, ?_, fun q hq e => ?_⟩
  · have z : a ≠ p := fun z => by
      rw [z, hZ] at e
      cases e
    exact S.frame a u hm (by rw [key a z]; exact e)
  · have z : a ≠ p := fun z => e (by rw [z]; exact hZ)
    have h := S.fz a (by rw [key a z]; exact e)
    have h2 : F a = (if a = p then none else Z.F a) ∨ ((if a = p then none else Z.F a) = none ∧ ∃ vs, F a = some (.tup vs)) := h
    rw [if_neg z] at h2
    exact h2
  · obtain ⟨h1, h2, h3, h4⟩ := S.own q hq
    refine ⟨h1, h2, fun e => ?_, h4⟩
    have h5 := h3 e
    have z : q.a ≠ p := fun z => by
      rw [z, kp] at h5
      cases h5
    rw [key _ z] at h5
    exact h5
  · have h := S.fz p (by rw [kp]; intro z; cases z)
    have h2 : F p = (if p = p then none else Z.F p) ∨ ((if p = p then none else Z.F p) = none ∧ ∃ vs, F p = some (.tup vs)) := h
    rw [if_pos rfl] at h2
    rcases h2 with h2 | ⟨_, ws, h2⟩
    · exact h2
    · have e1 := S.ex p _ h2
      rw [S.frame p o hM kp] at e1
      exact absurd (Option.some.inj e1) (nt ws)
  · obtain ⟨h1, h2, h3, h4⟩ := S.own q hq
    cases hb : q.loc with
    | true =>
      have h5 := h3 hb
      rw [e, kp] at h5
      cases h5
    | false => exact hM (by rw [← e]; exact h4 hb)
theorem XOk.hold {Z : En0} {F0 : Hp} {p : Addr} {o : HO} (X : XOk K Z F0 ex W) (hZ : Z.H p = none) (hM : p ∉ Z.M) (nt : ∀ vs, o ≠ .tup vs := by intro _ z; cases z) : XOk K (Z.hold p o) F0 ex W := fun x d F H σ G O e0 S s r e => X x d F H σ G O e0 (S.unhold hZ hM nt).1 s r e
/-- an object of ours that was not told of is told: frozen | owned -/
theorem S0.keepF {Z : En0} {F H : Hp} {O : Ow} (S : S0 K Z F H O) {p : Addr} {o : HO} (hp : H p = some o) (hF : F p = none) (hO : ∀ q ∈ O, q.a ≠ p) (hZ : Z.H p = none) : S0 K Z (upd F p o) H O where
  ex := fun a u e => by
    by_cases z : a = p
    · subst z
      rw [upd_same] at e
      rw [hp]
      exact e
    · rw [upd_ne z] at e
      exact S.ex a u e
  frame := S.frame
  fz := fun a e => by
    have z : a ≠ p := fun z => e (by rw [z]; exact hZ)
    rw [upd_ne z]
    exact S.fz a e
  alive := S.alive
  own := fun q hq => by
    obtain ⟨h1, h2, h3⟩ := S.own q hq
    exact ⟨by rw [upd_ne (hO q hq)]; exact h1, h2.mono (Ex.new hF) fun _ e => e, h3⟩
  nd := S.nd
theorem S0.take {Z : En0} {F H : Hp} {O : Ow} (S : S0 K Z F H O) {p : Addr} {d : D} (hF : F p = none) (hm : Mu K F H p d) (hO : ∀ q ∈ O, q.a ≠ p) (hZ : Z.H p = none) : S0 K Z F H (⟨p, true, d⟩ :: O) where
  ex := S.ex
  frame := S.frame
  fz := S.fz
  alive := S.alive
  own := fun q hq => by
    rcases List.mem_cons.mp hq with rfl | hq
    · exact ⟨hF, hm, fun _ => hZ, fun e => by cases e⟩
    · exact S.own q hq
  nd := by
    rw [List.map_cons, List.nodup_cons]
    refine ⟨fun hq => ?_, S.nd⟩
    obtain ⟨q, h1, h2⟩ := List.mem_map.mp hq
    exact hO q h1 h2
/-- an untold object of ours is written -/
theorem S0.writeU {Z : En0} {F H : Hp} {O : Ow} (S : S0 K Z F H O) {p : Addr} {o : HO} (hF : F p = none) (hO : ∀ q ∈ O, q.a ≠ p) (hZ : Z.H p = none) : S0 K Z F (upd H p o) O where
  ex := fun a u e => by
    have z : a ≠ p := fun z => by
      rw [z, hF] at e
      cases e
    rw [upd_ne z]
    exact S.ex a u e
  frame := fun a u hm e => by
    have z : a ≠ p := fun z => by
      rw [z, hZ] at e
      cases e
    rw [upd_ne z]
    exact S.frame a u hm e
  fz := S.fz
  alive := fun a hm => by
    by_cases z : a = p
    · subst z
      rw [upd_same]
      intro q
      cases q
    · rw [upd_ne z]
      exact S.alive a hm
  own := fun q hq => by
    obtain ⟨h1, h2, h3⟩ := S.own q hq
    refine ⟨h1, h2.mono (Ex.refl _) fun u e => ?_, h3⟩
    rw [upd_ne (hO q hq)]
    exact e
  nd := S.nd
/-- how a comprehension's list goes on: frozen | owned -/
def lcEnd (fr : Bool) (acc : List D) (O : Ow) (P : D → Ow → Prop) : Prop := match fr with
  | true => P (.lst acc) O
  | false => ∀ a, (∀ q ∈ O, q.a ≠ a) → P (.mut a) (⟨a, true, .lst acc⟩ :: O)
theorem wpE_lc {wi : TI} {g : TG} {vs : List Nat} (fr : Bool) (hg : gIn vs g) (gm : gMono g) (h : wpI K W ex wi G O fun xs C O1 => xs.length < sizeLine ∧ ∃ I : Nat → List D → Ow → Prop, I 0 [] O1 ∧ (∀ i acc O', i ≤ xs.length → I i acc O' → C O') ∧
      (∀ i x acc O', xs[i]? = some x → I i acc O' → wpG K g x (wipeG G vs) O' fun G2 O2 => wpT K W ex tt G2 O2 fun b O3 => (b = true → wpE K W ex te G2 O3 fun y O4 => I (i + 1) (acc ++ [y]) O4) ∧ (b = false → I (i + 1) acc O3)) ∧
      ∀ acc O', I xs.length acc O' → lcEnd fr acc O' P) : wpE K W ex (tLc wi g tt te vs) G O P := fun Z F H σ X S s Q q =>
  h Z F H σ X S s _ fun J xs C F1 H1 O1 S1 e1 hw ⟨hz, I, h0, hl, hs, hd⟩ Dl hD => by
    have hZ := S1.fresh hD
    have hM := S1.notM hD
    refine ⟨fun i m H' => i + m = xs.length ∧ ∃ F2 O2 acc vacc, S0 K Z F2 H' O2 ∧ Ex F1 F2 ∧ F2 Dl = none ∧ H' Dl = some (.lst vacc) ∧ Rps K F2 acc vacc ∧ acc.length ≤ i ∧ I i acc O2 ∧ ∀ p ∈ O2, p.a ≠ Dl,
      ⟨xs.length, by omega, F1, O1, [], [], S1.junk _ hD, Ex.refl _, S1.ex.none hD, upd_same, .nil, Nat.zero_le _, h0, S1.freshO hD⟩, fun i m H' hW => ?_⟩
    obtain ⟨em, F2, O2, acc, vacc, S2, e2, f2, hD2, r2, l2, hI, nO⟩ := hW
    have hC := hl i acc O2 (by omega) hI
    by_cases hi : i < xs.length
    · obtain ⟨x, hx⟩ : ∃ x, xs[i]? = some x := ⟨xs[i], List.getElem?_eq_getElem hi⟩
      have S2' := S2.hold hD2 f2 nO
      obtain ⟨g1, g2⟩ := hw.go _ F2 H' O2 i x S2' e2 hC hx
      obtain ⟨Nx, hNx⟩ : ∃ Nx : Hp → Prop, Nx = fun H3 => ∃ F3 O3 acc3 vacc3, S0 K Z F3 H3 O3 ∧ Ex F1 F3 ∧ F3 Dl = none ∧ H3 Dl = some (.lst vacc3) ∧ Rps K F3 acc3 vacc3 ∧ acc3.length ≤ i + 1 ∧ I (i + 1) acc3 O3 ∧ ∀ p ∈ O3, p.a ≠ Dl := ⟨_, rfl⟩
      refine .inr ⟨g1, Nx, fun H3 h3 => ⟨m - 1, by omega, by omega, by rw [hNx] at h3; exact h3⟩, fun z H3 hz3 => ?_⟩
      obtain ⟨F3, S3, e3, rz⟩ := g2 z H3 hz3
      have X' : XOk K (Z.hold Dl (.lst vacc)) F ex W := X.hold hZ hM
      have sw : Slots K F3 (wipeG G vs) (L2.wipe σ vs) := (s.mono (e1.trans (e2.trans e3))).wipe vs
      have hgo := hs i x acc O2 hx hI (Z.hold Dl (.lst vacc)) F3 H3 _ z S3 sw rz
      refine gm z _ H3 _ _ (fun σ2 H4 hq => ?_) (hg z _ H3 _ (hgo (fun σ2 H4 => tt σ2 H4 fun b H5 => if b = true then te σ2 H5 fun y H6 => ∃ acc3, H6 Dl = some (.lst acc3) ∧ acc3.length < sizeLine ∧ Nx (upd H6 Dl (.lst (acc3 ++ [y]))) else Nx H5) ?_))
      · obtain ⟨q1, q2, q3⟩ := hq
        refine ⟨wipe_ext (q2.trans (wipe_length σ vs)) fun k hk => (q3 k hk).trans ?_, q1⟩
        rw [wipe_at, if_neg hk]
      · intro F4 H4 σ4 G4 O4 S4 s4 e4 p4
        refine p4 _ F4 H4 σ4 (X'.mono (e1.trans (e2.trans (e3.trans e4)))) S4 s4 _ fun b F5 H5 O5 S5 e5 p5 => ?_
        cases b with
        | true =>
          refine p5.1 rfl _ F5 H5 σ4 (X'.mono (e1.trans (e2.trans (e3.trans (e4.trans e5))))) S5 (s4.mono e5) _ fun y vy F6 H6 O6 S6 e6 r6 p6 => ?_
          obtain ⟨S7, k1, k2, k3⟩ := S6.unhold hZ hM
          have e26 := e3.trans (e4.trans (e5.trans e6))
          exact ⟨vacc, k1, by rw [← r2.length]; omega, by rw [hNx]; exact ⟨F6, O6, acc ++ [y], vacc ++ [vy], S7.writeU k2 k3 hZ, e2.trans e26, k2, upd_same, (r2.mono e26).app (.one r6), by simp; omega, p6, k3⟩⟩
        | false =>
          obtain ⟨S7, k1, k2, k3⟩ := S5.unhold hZ hM
          have e25 := e3.trans (e4.trans e5)
          show Nx H5
          rw [hNx]
          exact ⟨F5, O5, acc, vacc, S7, e2.trans e25, k2, k1, r2.mono e25, by omega, p5.2 rfl, k3⟩
    · have ei : i = xs.length := by omega
      subst ei
      refine .inl ⟨hw.stop Z F2 H' O2 S2 e2 hC, ?_⟩
      have hend := hd acc O2 hI
      cases fr with
      | true => exact q _ _ _ H' O2 (S2.keepF hD2 f2 nO hZ) (e1.trans (e2.trans (Ex.new f2))) (.lst upd_same (r2.mono (Ex.new f2))) hend
      | false => exact q _ _ F2 H' _ (S2.take (d := .lst acc) f2 ⟨vacc, hD2, r2⟩ nO hZ) (e1.trans e2) (.mut Dl) (hend Dl nO)
end
end PyD
namespace PyD
open PySem PySem.Spec L2
section
variable {K : PySem.W.Frag} {W : WX} {ex : Ek} {G : Gm} {O : Ow} {P : D → Ow → Prop} {PT : Bool → Ow → Prop} {PA : List D → Ow → Prop} {E : EnD} {ta tb te tc : TE} {tt uu : TT} {t u : TS} {aa ab : TA}
theorem wpR_Ii {C : Int → Int → Prop} {f : Int → Int → Int} {i j : Int} (hc : C i j) (p : P (.int (f i j)) O) : wpR K (rI C fun i j => .int (f i j)) (.int i) (.int j) O P := fun Z F H vx vy S rx ry Q q => by
  cases rx
  cases ry
  exact ⟨i, j, rfl, rfl, hc, q _ _ F H O S (Ex.refl F) (.int _) p⟩
theorem wpR_I0i {f : Int → Int → Int} {i j : Int} (p : P (.int (f i j)) O) : wpR K (rI0 fun i j => .int (f i j)) (.int i) (.int j) O P := fun Z F H vx vy S rx ry Q q => by
  cases rx
  cases ry
  exact ⟨i, j, rfl, rfl, q _ _ F H O S (Ex.refl F) (.int _) p⟩
theorem wpR_I0b {f : Int → Int → Bool} {i j : Int} (p : P (.bl (f i j)) O) : wpR K (rI0 fun i j => .bl (f i j)) (.int i) (.int j) O P := fun Z F H vx vy S rx ry Q q => by
  cases rx
  cases ry
  exact ⟨i, j, rfl, rfl, q _ _ F H O S (Ex.refl F) (.bl _) p⟩
theorem wpU_int {f : Int → Int} {i : Int} (p : P (.int (f i)) O) : wpU K (rU fun i => .int (f i)) (.int i) O P := fun Z F H vx S rx Q q => by
  cases rx
  exact ⟨i, rfl, q _ _ F H O S (Ex.refl F) (.int _) p⟩
theorem wpR_or1 {r r' : R2} {x y : D} (h : wpR K r x y O P) : wpR K (fun x y H Q => r x y H Q ∨ r' x y H Q) x y O P := fun Z F H vx vy S rx ry Q q => .inl (h Z F H vx vy S rx ry Q q)
theorem wpC_or1 {r r' : List V → Hp → VK → Prop} {xs : List D} (h : wpC K r xs O P) : wpC K (fun xs H Q => r xs H Q ∨ r' xs H Q) xs O P := fun Z F H vs S rx Q q => .inl (h Z F H vs S rx Q q)
def rAddS : R2 := fun x y H Q => ∃ i j, x = .str i ∧ y = .str j ∧ i.length + j.length ≤ sizeLine ∧ Q (.str (i ++ j)) H
def rAddI : R2 := rI0 fun i j => .int (i + j)
def rAddA : R2 := fun x y H Q => rAddI x y H Q ∨ rCat x y H Q ∨ rAddS x y H Q
theorem opA_add {X : Cx} : OpR X (binaryOp .Add) rAddA := OpR.or op_add (OpR.or op_cat op_add_str)
theorem wpR_addI {i j : Int} (p : P (.int (i + j)) O) : wpR K rAddA (.int i) (.int j) O P := fun Z F H vx vy S rx ry Q q => .inl (wpR_I0i (f := fun i j => i + j) p Z F H vx vy S rx ry Q q)
/-- a list that was made: frozen or owned -/
def lstOf (O : Ow) (d : D) (xs : List D) : Prop := d = .lst xs ∨ ∃ a b, d = .mut a ∧ (⟨a, b, .lst xs⟩ : Ob) ∈ O
theorem lstOf.seq {d : D} {xs : List D} (h : lstOf O d xs) : seqOf O d xs := by
  rcases h with h | h
  · exact .inl h
  · exact .inr (.inr h)
theorem lstOf.at {Z : En0} {F H : Hp} {d : D} {xs : List D} {v : V} (h : lstOf O d xs) (S : S0 K Z F H O) (r : Rp K F d v) : ∃ a vs, v = .ref a ∧ H a = some (.lst vs) ∧ Rps K F xs vs := by
  rcases h with rfl | ⟨a, b, rfl, hm⟩
  · cases r with
    | lst h1 h2 => exact ⟨_, _, rfl, S.ex _ _ h1, h2⟩
  · cases r
    obtain ⟨_, ⟨vs, h2, h3⟩, _⟩ := S.own _ hm
    exact ⟨_, vs, rfl, h2, h3⟩
theorem lst_l {xs : List D} : lstOf O (.lst xs) xs := .inl rfl
theorem seq_l {xs : List D} : seqOf O (.lst xs) xs := .inl rfl
theorem seq_k {xs : List D} : seqOf O (.kl xs) xs := .inr (.inl rfl)
theorem seq_m {xs : List D} {a : Addr} {b : Bool} {i : Nat} (h : O[i]? = some ⟨a, b, .lst xs⟩) : seqOf O (.mut a) xs := .inr (.inr ⟨a, b, rfl, List.mem_of_getElem? h⟩)
theorem mk_new {Z : En0} {F H : Hp} {fr : Bool} {xs : List D} {vs : List V} {Q : VK} (S : S0 K Z F H O) (r : Rps K F xs vs) (h : lcEnd fr xs O P) (q : ∀ d v F' H' O', S0 K Z F' H' O' → Ex F F' → Rp K F' d v → P d O' → Q v H') : ∀ p, H p = none → Q (.ref p) (upd H p (.lst vs)) := fun p hp => by
  have hF := S.ex.none hp
  cases fr with
  | true => exact q _ _ _ _ _ (S.frz _ hp) (Ex.new hF) (.lst upd_same (r.mono (Ex.new hF))) h
  | false => exact q _ _ F _ _ (S.new _ (.lst xs) hp ⟨vs, upd_same, r⟩) (Ex.refl F) (.mut p) (h p (S.freshO hp))
theorem wpR_addL {x y : D} {xs ys : List D} (fr : Bool) (hx : lstOf O x xs) (hy : lstOf O y ys) (hl : xs.length + ys.length ≤ sizeLine) (p : lcEnd fr (xs ++ ys) O P) : wpR K rAddA x y O P := fun Z F H vx vy S rx ry Q q => by
  obtain ⟨a, vs, rfl, ha, ra⟩ := hx.at S rx
  obtain ⟨b, ws, rfl, hb, rb⟩ := hy.at S ry
  exact .inr (.inl ⟨a, b, vs, ws, rfl, rfl, ha, hb, by rw [← ra.length, ← rb.length]; exact hl, mk_new S (ra.app rb) p q⟩)
theorem wpE_lst (fr : Bool) (h : wpA K W ex aa G O fun xs O1 => xs.length ≤ sizeLine ∧ lcEnd fr xs O1 P) : wpE K W ex (tLst aa) G O P := fun Z F H σ X S s Q q =>
  h Z F H σ X S s _ fun xs vs F1 H1 O1 S1 e1 r1 ⟨hl, p⟩ => ⟨by rw [← r1.length]; exact hl, mk_new S1 r1 p fun d v F' H' O' S' e r p => q d v F' H' O' S' (e1.trans e) r p⟩
theorem wpE_tup (h : wpA K W ex aa G O fun xs O1 => xs.length ≤ sizeLine ∧ P (.tup xs) O1) : wpE K W ex (tTup aa) G O P := fun Z F H σ X S s Q q =>
  h Z F H σ X S s _ fun xs vs F1 H1 O1 S1 e1 r1 ⟨hl, p⟩ => ⟨by rw [← r1.length]; exact hl, fun a ha => by
    have hF := S1.ex.none ha
    exact q _ _ _ _ _ (S1.frz _ ha) (e1.trans (Ex.new hF)) (.tup upd_same (r1.mono (Ex.new hF))) p⟩
theorem wpR_ixL {x : D} {xs : List D} {i : Int} {y : D} (hx : seqOf O x xs) (hi : atI xs i = some y) (p : P y O) : wpR K (rIxL K) x (.int i) O P := fun Z F H vx vy S rx ry Q q => by
  obtain ⟨a, vs, rfl, ha, ra⟩ := hx.at S rx
  cases ry
  obtain ⟨j, hj, hx⟩ : ∃ j, ixN xs.length i = some j ∧ xs[j]? = some y := by
    unfold atI at hi
    cases e : ixN xs.length i with
    | none => rw [e] at hi; cases hi
    | some j => rw [e] at hi; exact ⟨j, rfl, hi⟩
  obtain ⟨v, hv, rv⟩ := ra.get hx
  refine ⟨a, vs, i, v, rfl, rfl, ha, ?_, q _ _ F H O S (Ex.refl F) rv p⟩
  unfold atI
  rw [← ra.length, hj]
  exact hv
theorem wpR_ixT {xs : List D} {i : Int} {y : D} (hi : atI xs i = some y) (p : P y O) : wpR K (rIxT K) (.tup xs) (.int i) O P := fun Z F H vx vy S rx ry Q q => by
  cases rx with
  | @tup a vs _ ht0 ra =>
  have ht := SqT.of (K := K) ht0
  cases ry
  obtain ⟨j, hj, hx⟩ : ∃ j, ixN xs.length i = some j ∧ xs[j]? = some y := by
    unfold atI at hi
    cases e : ixN xs.length i with
    | none => rw [e] at hi; cases hi
    | some j => rw [e] at hi; exact ⟨j, rfl, hi⟩
  obtain ⟨v, hv, rv⟩ := ra.get hx
  refine ⟨a, vs, i, v, rfl, rfl, ex_t S.ex ht, ?_, q _ _ F H O S (Ex.refl F) rv p⟩
  unfold atI
  rw [← ra.length, hj]
  exact hv
def rIxLT (K : PySem.W.Frag) : R2 := fun x y H Q => rIxL K x y H Q ∨ rIxT K x y H Q
theorem ix_lt {X : Cx} : IxR X (rIxLT X.K) := IxR.or ix_list ix_tup
theorem wpR_ixA {x : D} {xs : List D} {i : Int} {y : D} (hx : seqOf O x xs ∨ x = .tup xs) (hi : atI xs i = some y) (p : P y O) : wpR K (rIxLT K) x (.int i) O P := fun Z F H vx vy S rx ry Q q => by
  rcases hx with hx | rfl
  · exact .inl (wpR_ixL hx hi p Z F H vx vy S rx ry Q q)
  · exact .inr (wpR_ixT hi p Z F H vx vy S rx ry Q q)
theorem atI_nn {xs : List D} {i : Int} {y : D} (h0 : 0 ≤ i) (h : xs[i.toNat]? = some y) : atI xs i = some y := by
  obtain ⟨n, rfl⟩ := Int.eq_ofNat_of_zero_le h0
  exact atI_nat (by simpa using h)
theorem Rps.cut {F : Hp} {xs : List D} {vs : List V} (r : Rps K F xs vs) (lo hi : Option Int) : Rps K F ((xs.drop (HT.sIx xs.length 0 lo)).take (HT.sIx xs.length xs.length hi - HT.sIx xs.length 0 lo)) (cutV vs lo hi) := by
  unfold cutV
  rw [← r.length]
  exact (r.drop _).take _
def cutD (xs : List D) (lo hi : Option Int) : List D := (xs.drop (HT.sIx xs.length 0 lo)).take (HT.sIx xs.length xs.length hi - HT.sIx xs.length 0 lo)
theorem wpE_slL (fr : Bool) {tl th : TO} (h : wpE K W ex te G O fun x O1 => wpO K W ex tl G O1 fun lo O2 => wpO K W ex th G O2 fun hi O3 => ∃ xs, seqOf O3 x xs ∧ lcEnd fr (cutD xs lo hi) O3 P) : wpE K W ex (tSl (rSlL K) te tl th) G O P := fun Z F H σ X S s Q q =>
  h Z F H σ X S s _ fun d v F1 H1 O1 S1 e1 r1 p1 => p1 Z F1 H1 σ (X.mono e1) S1 (s.mono e1) _ fun lo F2 H2 O2 S2 e2 p2 => p2 Z F2 H2 σ (X.mono (e1.trans e2)) S2 (s.mono (e1.trans e2)) _ fun hi F3 H3 O3 S3 e3 ⟨xs, hx, p⟩ => by
    obtain ⟨a, vs, rfl, ha, ra⟩ := hx.at S3 (r1.mono (e2.trans e3))
    exact ⟨a, vs, rfl, ha, mk_new S3 (ra.cut lo hi) p fun d v F' H' O' S' e r p => q d v F' H' O' S' (e1.trans (e2.trans (e3.trans e))) r p⟩
/-- x in ints -/
theorem inV_ints (i : Int) : ∀ ns : List Int, inV (.int i) (ns.map V.int) = decide (i ∈ ns)
  | [] => rfl
  | n :: ns => by
    have ih := inV_ints i ns
    unfold inV at ih ⊢
    rw [List.map_cons, List.any_cons, ih]
    show ((n == i) || decide (i ∈ ns)) = decide (i ∈ n :: ns)
    by_cases h : n = i
    · subst h
      simp
    · have h2 : ¬ i = n := fun e => h e.symm
      simp [h, h2]
theorem wpR_inI {neg : Bool} {i : Int} {x : D} {ns : List Int} (hx : seqOf O x (ns.map D.int) ∨ x = .tup (ns.map D.int)) (p : P (.bl (if neg then !decide (i ∈ ns) else decide (i ∈ ns))) O) : wpR K (rIn K neg) (.int i) x O P := fun Z F H vx vy S rx ry Q q => by
  cases rx
  have go : ∀ a vs, vy = .ref a → (SqL K H a vs ∨ SqT K H a vs) → Rps K F (ns.map D.int) vs → rIn K neg (.int i) vy H Q := fun a vs ev h r => by
    subst ev
    have e := r.ints
    subst e
    refine ⟨a, _, rfl, h, rfl, by simp [flatV], ?_⟩
    rw [inV_ints]
    exact q _ _ F H O S (Ex.refl F) (.bl _) p
  rcases hx with hx | rfl
  · obtain ⟨a, vs, rfl, ha, ra⟩ := hx.at S ry
    exact go a vs rfl (.inl ha) ra
  · cases ry with
    | @tup a vs _ ht ra => exact go a vs rfl (.inr (SqT.of (S.ex _ _ ht))) ra
def rIsN : R2 := fun x y H Q => y = .non ∧ Q (.bl (decide (x = .non))) H
def rNotN : R2 := fun x y H Q => y = .non ∧ Q (.bl (!decide (x = .non))) H
theorem opA_isN {X : Cx} : OpR X (compareOp .Is) rIsN := op_isN
theorem opA_notN {X : Cx} : OpR X (compareOp .IsNot) rNotN := op_notN
def isNon : D → Bool
  | .non => true
  | _ => false
theorem isNon_v {F : Hp} {d : D} {v : V} (r : Rp K F d v) : decide (v = .non) = isNon d := by
  cases r <;> rfl
theorem wpR_isN {x : D} (p : P (.bl (isNon x)) O) : wpR K rIsN x .non O P := fun Z F H vx vy S rx ry Q q => by
  cases ry
  refine ⟨rfl, ?_⟩
  rw [isNon_v rx]
  exact q _ _ F H O S (Ex.refl F) (.bl _) p
theorem wpR_notN {x : D} (p : P (.bl (!isNon x)) O) : wpR K rNotN x .non O P := fun Z F H vx vy S rx ry Q q => by
  cases ry
  refine ⟨rfl, ?_⟩
  rw [isNon_v rx]
  exact q _ _ F H O S (Ex.refl F) (.bl _) p
mutual
/-- data whose == is equality: no bools, no objects -/
def plainD : D → Bool
  | .non => true
  | .int _ => true
  | .str s => PySem.PyData.strOk s
  | .lst xs => plainDs xs
  | .kl xs => plainDs xs
  | .tup xs => plainDs xs
  | _ => false
def plainDs : List D → Bool
  | [] => true
  | x :: xs => plainD x && plainDs xs
end
mutual
def toPd : D → PyData
  | .int i => .int i
  | .str s => .str s
  | .bl b => .bool b
  | .lst xs => .list (toPds xs)
  | .kl xs => .list (toPds xs)
  | .tup xs => .tuple (toPds xs)
  | _ => .none
def toPds : List D → List PyData
  | [] => []
  | x :: xs => toPd x :: toPds xs
end
mutual
theorem Rp.dp {F H : Hp} (e : Ex F H) : ∀ {d : D} {v : V}, Rp K F d v → plainD d = true → Dp K H v (toPd d)
  | _, _, .non, _ => .non
  | _, _, .int i, _ => .int i
  | _, _, .str s, _ => .str s
  | _, _, .lst h r, p => .lst (SqL.of (e _ _ h)) (Rps.dp e r p)
  | _, _, .kl h r, p => .lst (ex_l e h) (Rps.dp e r p)
  | _, _, .tup h r, p => .tup (SqT.of (e _ _ h)) (Rps.dp e r p)
  | _, _, .bl _, p => by cases p
  | _, _, .ref _, p => by cases p
  | _, _, .mut _, p => by cases p
  | _, _, .ty _, p => by cases p
  | _, _, .dK _ _ _, p => by cases p
  | _, _, .dT _ _ _, p => by cases p
  | _, _, .ins _ _ _, p => by cases p
  | _, _, .exc0 _ _, p => by cases p
  | _, _, .exc1 _ _ _, p => by cases p
theorem Rps.dp {F H : Hp} (e : Ex F H) : ∀ {ds : List D} {vs : List V}, Rps K F ds vs → plainDs ds = true → DpAll K H vs (toPds ds)
  | _, _, .nil, _ => .nil
  | _, _, .cons a r, p => .cons (Rp.dp e a (Bool.and_eq_true_iff.mp p).1) (Rps.dp e r (Bool.and_eq_true_iff.mp p).2)
end
mutual
theorem canLay_pd : ∀ d : D, plainD d = true → (toPd d).canLay0 = true
  | .non, _ => rfl
  | .int _, _ => rfl
  | .str s, p => p
  | .lst xs, p => canLay_pds xs p
  | .kl xs, p => canLay_pds xs p
  | .tup xs, p => canLay_pds xs p
  | .bl _, p => by cases p
  | .ref _, p => by cases p
  | .mut _, p => by cases p
  | .ty _, p => by cases p
  | .dK _, p => by cases p
  | .dT _, p => by cases p
  | .ins _ _, p => by cases p
  | .exc _ _ _ _, p => by cases p
theorem canLay_pds : ∀ ds : List D, plainDs ds = true → PyData.canLayAll0 (toPds ds) = true
  | [], _ => rfl
  | d :: ds, p => Bool.and_eq_true_iff.mpr ⟨canLay_pd d (Bool.and_eq_true_iff.mp p).1, canLay_pds ds (Bool.and_eq_true_iff.mp p).2⟩
end
mutual
theorem eqv_pd : ∀ d e : D, plainD d = true → plainD e = true → (PyData.eqv (toPd d) (toPd e) = true ↔ toPd d = toPd e)
  | .non, e, _, q => by cases e <;> first | exact (Bool.false_ne_true q).elim | simp [toPd, PyData.eqv]
  | .int i, e, _, q => by cases e <;> first | exact (Bool.false_ne_true q).elim | simp [toPd, PyData.eqv]
  | .str s, e, _, q => by cases e <;> first | exact (Bool.false_ne_true q).elim | simp [toPd, PyData.eqv]
  | .lst xs, e, p, q => by
    cases e <;> first
      | exact (Bool.false_ne_true q).elim
      | (simp only [toPd, PyData.eqv, PyData.list.injEq]; exact eqv_pds xs _ p q)
      | simp [toPd, PyData.eqv]
  | .kl xs, e, p, q => by
    cases e <;> first
      | exact (Bool.false_ne_true q).elim
      | (simp only [toPd, PyData.eqv, PyData.list.injEq]; exact eqv_pds xs _ p q)
      | simp [toPd, PyData.eqv]
  | .tup xs, e, p, q => by
    cases e <;> first
      | exact (Bool.false_ne_true q).elim
      | (simp only [toPd, PyData.eqv, PyData.tuple.injEq]; exact eqv_pds xs _ p q)
      | simp [toPd, PyData.eqv]
  | .bl _, _, p, _ => by cases p
  | .ref _, _, p, _ => by cases p
  | .mut _, _, p, _ => by cases p
  | .ty _, _, p, _ => by cases p
  | .dK _, _, p, _ => by cases p
  | .dT _, _, p, _ => by cases p
  | .ins _ _, _, p, _ => by cases p
  | .exc _ _ _ _, _, p, _ => by cases p
theorem eqv_pds : ∀ ds es : List D, plainDs ds = true → plainDs es = true → (PyData.eqvAll (toPds ds) (toPds es) = true ↔ toPds ds = toPds es)
  | [], [], _, _ => by simp [toPds, PyData.eqvAll]
  | [], _ :: _, _, _ => by simp [toPds, PyData.eqvAll]
  | _ :: _, [], _, _ => by simp [toPds, PyData.eqvAll]
  | d :: ds, e :: es, p, q => by
    have h1 := eqv_pd d e (Bool.and_eq_true_iff.mp p).1 (Bool.and_eq_true_iff.mp q).1
    have h2 := eqv_pds ds es (Bool.and_eq_true_iff.mp p).2 (Bool.and_eq_true_iff.mp q).2
    simp only [toPds, PyData.eqvAll, Bool.and_eq_true, List.cons.injEq, h1, h2]
end
end
end PyD
namespace PyD
open PySem PySem.Spec L2
section
variable {K : PySem.W.Frag} {W : WX} {ex : Ek} {G : Gm} {O : Ow} {P : D → Ow → Prop} {PT : Bool → Ow → Prop} {PA : List D → Ow → Prop} {E : EnD} {ta tb te tc : TE} {tt uu : TT} {t u : TS} {aa ab : TA}
def rEqA (K : PySem.W.Frag) : R2 := fun x y H Q => rEq x y H Q ∨ rEqD K x y H Q
def rNeA (K : PySem.W.Frag) : R2 := fun x y H Q => rNe x y H Q ∨ rNeD K x y H Q
theorem opA_eq {X : Cx} (hu : X.A.units + 64 < cLine) : OpR X (compareOp .Eq) (rEqA X.K) := OpR.or op_eq (op_eqD hu)
theorem opA_ne {X : Cx} (hu : X.A.units + 64 < cLine) : OpR X (compareOp .NotEq) (rNeA X.K) := OpR.or op_ne (op_neD hu)
theorem dec_iff {p q : Prop} [Decidable p] [Decidable q] (h : p ↔ q) : decide p = decide q := by
  by_cases c : p
  · rw [decide_eq_true c, decide_eq_true (h.mp c)]
  · rw [decide_eq_false c, decide_eq_false fun z => c (h.mpr z)]
theorem wpR_eqI {i j : Int} (p : P (.bl (decide (i = j))) O) : wpR K (rEqA K) (.int i) (.int j) O P := fun Z F H vx vy S rx ry Q q => by
  cases rx
  cases ry
  refine .inl ⟨rfl, ?_⟩
  rw [dec_iff (show V.int i = V.int j ↔ i = j by simp)]
  exact q _ _ F H O S (Ex.refl F) (.bl _) p
theorem wpR_neI {i j : Int} (p : P (.bl (!decide (i = j))) O) : wpR K (rNeA K) (.int i) (.int j) O P := fun Z F H vx vy S rx ry Q q => by
  cases rx
  cases ry
  refine .inl ⟨rfl, ?_⟩
  rw [dec_iff (show V.int i = V.int j ↔ i = j by simp)]
  exact q _ _ F H O S (Ex.refl F) (.bl _) p
theorem wpR_eqS {i j : Str} (p : P (.bl (decide (i = j))) O) : wpR K (rEqA K) (.str i) (.str j) O P := fun Z F H vx vy S rx ry Q q => by
  cases rx
  cases ry
  refine .inl ⟨rfl, ?_⟩
  rw [dec_iff (show V.str i = V.str j ↔ i = j by simp)]
  exact q _ _ F H O S (Ex.refl F) (.bl _) p
theorem wpR_neS {i j : Str} (p : P (.bl (!decide (i = j))) O) : wpR K (rNeA K) (.str i) (.str j) O P := fun Z F H vx vy S rx ry Q q => by
  cases rx
  cases ry
  refine .inl ⟨rfl, ?_⟩
  rw [dec_iff (show V.str i = V.str j ↔ i = j by simp)]
  exact q _ _ F H O S (Ex.refl F) (.bl _) p
theorem wpR_eqB {i j : Bool} (p : P (.bl (decide (i = j))) O) : wpR K (rEqA K) (.bl i) (.bl j) O P := fun Z F H vx vy S rx ry Q q => by
  cases rx
  cases ry
  refine .inl ⟨rfl, ?_⟩
  rw [dec_iff (show V.bl i = V.bl j ↔ i = j by simp)]
  exact q _ _ F H O S (Ex.refl F) (.bl _) p
/-- what data an object holds now: an owned list by what it holds -/
def viewOf (O : Ow) (d e : D) : Prop := d = e ∨ ∃ a b xs, d = .mut a ∧ (⟨a, b, .lst xs⟩ : Ob) ∈ O ∧ e = .lst xs
theorem view_self {d : D} : viewOf O d d := .inl rfl
theorem view_m {xs : List D} {a : Addr} {b : Bool} {i : Nat} (h : O[i]? = some ⟨a, b, .lst xs⟩) : viewOf O (.mut a) (.lst xs) := .inr ⟨a, b, xs, rfl, List.mem_of_getElem? h, rfl⟩
theorem viewOf.dp {Z : En0} {F H : Hp} {d e : D} {v : V} (h : viewOf O d e) (S : S0 K Z F H O) (r : Rp K F d v) (p : plainD e = true) : Dp K H v (toPd e) := by
  rcases h with rfl | ⟨a, b, xs, rfl, hm, rfl⟩
  · exact r.dp S.ex p
  · cases r
    obtain ⟨_, ⟨vs, h2, h3⟩, _⟩ := S.own _ hm
    exact .lst (SqL.of h2) (h3.dp S.ex p)
def shal (d : D) : Prop := plainD d = true ∧ (toPd d).depth ≤ 64
theorem shal.ok {d : D} (h : shal d) : SeqAt.shaped (toPd d) = true := Bool.and_eq_true_iff.mpr ⟨canLay_pd d h.1, decide_eq_true h.2⟩
theorem wpR_eqD {x y d e : D} (hx : viewOf O x d) (hy : viewOf O y e) (sd : shal d) (se : shal e) (p : ∀ b : Bool, (b = true ↔ toPd d = toPd e) → P (.bl b) O) : wpR K (rEqA K) x y O P := fun Z F H vx vy S rx ry Q q =>
  .inr ⟨_, _, hx.dp S rx sd.1, hy.dp S ry se.1, sd.ok, se.ok, q _ _ F H O S (Ex.refl F) (.bl _) (p _ (eqv_pd d e sd.1 se.1))⟩
theorem wpR_neD {x y d e : D} (hx : viewOf O x d) (hy : viewOf O y e) (sd : shal d) (se : shal e) (p : ∀ b : Bool, (b = true ↔ toPd d = toPd e) → P (.bl (!b)) O) : wpR K (rNeA K) x y O P := fun Z F H vx vy S rx ry Q q =>
  .inr ⟨_, _, hx.dp S rx sd.1, hy.dp S ry se.1, sd.ok, se.ok, q _ _ F H O S (Ex.refl F) (.bl _) (p _ (eqv_pd d e sd.1 se.1))⟩
theorem pds_map {α : Type} (f : α → D) : ∀ xs : List α, toPds (xs.map f) = xs.map fun x => toPd (f x)
  | [] => rfl
  | x :: xs => by
    rw [List.map_cons, List.map_cons, ← pds_map f xs] <;> rfl
theorem depthAll_le {n : Nat} : ∀ {ds : List PyData}, (∀ d ∈ ds, d.depth ≤ n) → PyData.depthAll ds ≤ n
  | [], _ => by unfold PyData.depthAll; exact Nat.zero_le _
  | d :: ds, h => by
    unfold PyData.depthAll
    exact Nat.max_le.mpr ⟨h d List.mem_cons_self, depthAll_le fun e he => h e (List.mem_cons_of_mem _ he)⟩
/-- plain data of a depth of at most n -/
def shalN (n : Nat) (d : D) : Prop := plainD d = true ∧ (toPd d).depth ≤ n
theorem shalN.ok {n : Nat} {d : D} (h : shalN n d) (hn : n ≤ 64) : shal d := ⟨h.1, Nat.le_trans h.2 hn⟩
theorem shalN.mono {n m : Nat} {d : D} (h : shalN n d) (hn : n ≤ m) : shalN m d := ⟨h.1, Nat.le_trans h.2 hn⟩
theorem shalN_int {n : Nat} {i : Int} : shalN n (.int i) := ⟨rfl, by show (PyData.int i).depth ≤ n; unfold PyData.depth; exact Nat.zero_le _⟩
theorem plains_of : ∀ {xs : List D}, (∀ x ∈ xs, plainD x = true) → plainDs xs = true
  | [], _ => rfl
  | x :: xs, h => Bool.and_eq_true_iff.mpr ⟨h x List.mem_cons_self, plains_of fun y hy => h y (List.mem_cons_of_mem _ hy)⟩
theorem toPds_map : ∀ xs : List D, toPds xs = xs.map toPd
  | [] => rfl
  | x :: xs => by rw [List.map_cons, ← toPds_map xs] <;> rfl
theorem shalN_lst {n : Nat} {xs : List D} (h : ∀ x ∈ xs, shalN n x) : shalN (n + 1) (.lst xs) := by
  refine ⟨plains_of fun x hx => (h x hx).1, ?_⟩
  show (PyData.list (toPds xs)).depth ≤ n + 1
  unfold PyData.depth
  refine Nat.succ_le_succ (depthAll_le fun d hd => ?_)
  rw [toPds_map] at hd
  obtain ⟨x, hx, rfl⟩ := List.mem_map.mp hd
  exact (h x hx).2
theorem shalN_tup {n : Nat} {xs : List D} (h : ∀ x ∈ xs, shalN n x) : shalN (n + 1) (.tup xs) := by
  refine ⟨plains_of fun x hx => (h x hx).1, ?_⟩
  show (PyData.tuple (toPds xs)).depth ≤ n + 1
  unfold PyData.depth
  refine Nat.succ_le_succ (depthAll_le fun d hd => ?_)
  rw [toPds_map] at hd
  obtain ⟨x, hx, rfl⟩ := List.mem_map.mp hd
  exact (h x hx).2
theorem shal_L (ns : List Int) : shal (L ns) := (shalN_lst (n := 0) fun x hx => by
  obtain ⟨n, _, rfl⟩ := List.mem_map.mp hx
  exact shalN_int).ok (by decide)
theorem map_inj {α β : Type} {f : α → β} (h : ∀ a b, f a = f b → a = b) : ∀ {xs ys : List α}, xs.map f = ys.map f → xs = ys
  | [], [], _ => rfl
  | [], _ :: _, e => by cases e
  | _ :: _, [], e => by cases e
  | x :: xs, y :: ys, e => by
    rw [List.map_cons, List.map_cons, List.cons.injEq] at e
    rw [h _ _ e.1, map_inj h e.2]
theorem pd_lst {α : Type} {f : α → D} (h : ∀ a b, toPd (f a) = toPd (f b) → a = b) {xs ys : List α} : toPd (.lst (xs.map f)) = toPd (.lst (ys.map f)) ↔ xs = ys := by
  constructor
  · intro e
    have e2 : toPds (xs.map f) = toPds (ys.map f) := PyData.list.inj e
    rw [pds_map, pds_map] at e2
    exact map_inj h e2
  · intro e
    rw [e]
theorem pd_L {ns ms : List Int} : toPd (L ns) = toPd (L ms) ↔ ns = ms := pd_lst fun a b e => by
  have e2 : PyData.int a = PyData.int b := e
  exact PyData.int.inj e2
theorem wpR_neL {x y : D} {ns ms : List Int} (hx : viewOf O x (L ns)) (hy : viewOf O y (L ms)) (p : ∀ b : Bool, (b = true ↔ ns = ms) → P (.bl (!b)) O) : wpR K (rNeA K) x y O P := wpR_neD hx hy (shal_L _) (shal_L _) fun b h => p b (h.trans pd_L)
def rLenA (K : PySem.W.Frag) : List V → Hp → VK → Prop := fun xs H Q => ∃ x n, xs = [x] ∧ LenV K x H n ∧ Q (.int n) H
theorem callA_len {X : Cx} : CallR X (.builtin "len") (rLenA X.K) := call_len
theorem wpC_lenL {x : D} {xs : List D} (hx : seqOf O x xs) (p : P (.int (xs.length : Int)) O) : wpC K (rLenA K) [x] O P := fun Z F H vs S r Q q => by
  cases r with
  | cons ra rb =>
    cases rb
    obtain ⟨a, vs, rfl, ha, rv⟩ := hx.at S ra
    exact ⟨_, vs.length, rfl, .inl ⟨vs, ha, rfl⟩, by rw [← rv.length]; exact q _ _ F H O S (Ex.refl F) (.int _) p⟩
theorem wpC_lenT {xs : List D} (p : P (.int (xs.length : Int)) O) : wpC K (rLenA K) [.tup xs] O P := fun Z F H vs S r Q q => by
  cases r with
  | cons ra rb =>
    cases rb
    cases ra with
    | @tup a vs _ ht rv => exact ⟨_, vs.length, rfl, .inr ⟨vs, SqT.of (S.ex _ _ ht), rfl⟩, by rw [← rv.length]; exact q _ _ F H O S (Ex.refl F) (.int _) p⟩
def rListA (K : PySem.W.Frag) : List V → Hp → VK → Prop := fun xs H Q => ∃ p ys, xs = [.ref p] ∧ (SqL K H p ys ∨ SqT K H p ys) ∧ ∀ l, H l = none → Q (.ref l) (upd H l (.lst ys))
theorem callA_list {X : Cx} : CallR X (.type "list") (rListA X.K) := call_list_of
theorem wpC_list (fr : Bool) {x : D} {xs : List D} (hx : seqOf O x xs) (p : lcEnd fr xs O P) : wpC K (rListA K) [x] O P := fun Z F H vs S r Q q => by
  cases r with
  | cons ra rb =>
    cases rb
    obtain ⟨a, vs, rfl, ha, rv⟩ := hx.at S ra
    exact ⟨a, vs, rfl, .inl ha, mk_new S rv p q⟩
theorem wpC_sortI (fr : Bool) {x : D} {ns : List Int} (hx : seqOf O x (ns.map D.int)) (p : ∀ ms : List Int, ms.Perm ns → ms.Pairwise (· ≤ ·) → lcEnd fr (ms.map D.int) O P) : wpC K (rSortedI K) [x] O P := fun Z F H vs S r Q q => by
  cases r with
  | cons ra rb =>
    cases rb
    obtain ⟨a, vs, rfl, ha, rv⟩ := hx.at S ra
    have e := rv.ints
    subst e
    exact ⟨a, ns, rfl, ha, fun ms l h1 h2 hl => mk_new S (Rps.of_ints ms) (p ms h1 h2) q l hl⟩
def rMax2 : List V → Hp → VK → Prop := fun xs H Q => ∃ i j, xs = [.int i, .int j] ∧ Q (.int (if j > i then j else i)) H
def rMin2 : List V → Hp → VK → Prop := fun xs H Q => ∃ i j, xs = [.int i, .int j] ∧ Q (.int (if j < i then j else i)) H
theorem wpC_max2 {i j : Int} (p : P (.int (if j > i then j else i)) O) : wpC K rMax2 [.int i, .int j] O P := fun Z F H vs S r Q q => by
  cases r with
  | cons ra rb =>
    cases rb with
    | cons rc rd =>
      cases rd
      cases ra
      cases rc
      exact ⟨i, j, rfl, q _ _ F H O S (Ex.refl F) (.int _) p⟩
theorem wpC_min2 {i j : Int} (p : P (.int (if j < i then j else i)) O) : wpC K rMin2 [.int i, .int j] O P := fun Z F H vs S r Q q => by
  cases r with
  | cons ra rb =>
    cases rb with
    | cons rc rd =>
      cases rd
      cases ra
      cases rc
      exact ⟨i, j, rfl, q _ _ F H O S (Ex.refl F) (.int _) p⟩
def rAbs : List V → Hp → VK → Prop := fun xs H Q => ∃ i, xs = [.int i] ∧ Q (.int (if i < 0 then -i else i)) H
theorem callA_abs {X : Cx} : CallR X (.builtin "abs") rAbs := call_abs
theorem wpC_abs {i : Int} (p : P (.int (if i < 0 then -i else i)) O) : wpC K rAbs [.int i] O P := fun Z F H vs S r Q q => by
  cases r with
  | cons ra rb =>
    cases rb
    cases ra
    exact ⟨i, rfl, q _ _ F H O S (Ex.refl F) (.int _) p⟩
def rIntA : List V → Hp → VK → Prop := fun xs H Q => (∃ i, xs = [.int i] ∧ Q (.int i) H) ∨ ∃ k, xs = [.bl k] ∧ Q (.int (if k then 1 else 0)) H
theorem callA_int {X : Cx} : CallR X (.type "int") rIntA := call_int1
theorem wpC_int {i : Int} (p : P (.int i) O) : wpC K rIntA [.int i] O P := fun Z F H vs S r Q q => by
  cases r with
  | cons ra rb =>
    cases rb
    cases ra
    exact .inl ⟨i, rfl, q _ _ F H O S (Ex.refl F) (.int _) p⟩
inductive TyD (O : Ow) : D → String → Prop where
  | non : TyD O .non "NoneType"
  | bl (b : Bool) : TyD O (.bl b) "bool"
  | int (i : Int) : TyD O (.int i) "int"
  | str (s : Str) : TyD O (.str s) "str"
  | lst (xs : List D) : TyD O (.lst xs) "list"
  | own {a : Addr} {b : Bool} {xs : List D} (h : (⟨a, b, .lst xs⟩ : Ob) ∈ O) : TyD O (.mut a) "list"
  | tup (xs : List D) : TyD O (.tup xs) "tuple"
theorem wpC_isi {x : D} {t n : String} {b : Bool} (ht : TyD O x t) (hk : kitB t n = some b) (p : P (.bl b) O) : wpC K (rIsi K) [x, .ty n] O P := fun Z F H vs S r Q q => by
  cases r with
  | @cons _ _ vx _ ra rb =>
    cases rb with
    | cons rc rd =>
      cases rd
      cases rc
      have go : TyX K H vx (.type t) := by
        cases ht with
        | non => cases ra; exact .base .non
        | bl b => cases ra; exact .base (.bl b)
        | int i => cases ra; exact .base (.int i)
        | str s => cases ra; exact .base (.str s)
        | lst xs => cases ra with
          | lst h1 _ => exact .base (.lst (S.ex _ _ h1))
        | own h =>
          cases ra
          obtain ⟨_, ⟨vs, h2, _⟩, _⟩ := S.own _ h
          exact .base (.lst h2)
        | tup xs => cases ra with
          | tup h1 _ =>
            rcases SqT.of (K := K) (S.ex _ _ h1) with (h1 | ⟨o, h1⟩) | ⟨o, its, m, h1, h2, _⟩
            · exact .base (.tup h1)
            · exact .fTuple h1
            · exact .kTuple h1 h2
      exact ⟨_, _, _, _, b, rfl, .ty n, go, kit_ty hk, q _ _ F H O S (Ex.refl F) (.bl _) p⟩
theorem wpE_bm {T : String} {r : V → List V → Hp → VK → Prop} (ht : T = "list") (h : wpE K W ex te G O fun x O1 => (∃ xs, seqOf O1 x xs) ∧ wpA K W ex aa G O1 fun ys O2 => wpM K r x ys O2 P) : wpE K W ex (tBM K T r te aa) G O P := fun Z F H σ X S s Q q =>
  h Z F H σ X S s _ fun x v F1 H1 O1 S1 e1 r1 ⟨⟨xs, hx⟩, p1⟩ => by
    subst ht
    obtain ⟨a, vs, rfl, ha, rv⟩ := hx.at S1 r1
    exact ⟨.inl ⟨rfl, vs, ha⟩, p1 Z F1 H1 σ (X.mono e1) S1 (s.mono e1) _ fun ys vy F2 H2 O2 S2 e2 r2 p2 => p2 Z F2 H2 _ _ S2 (r1.mono e2) r2 Q fun d v F3 H3 O3 S3 e3 r3 p3 => q d v F3 H3 O3 S3 (e1.trans (e2.trans e3)) r3 p3⟩
theorem wpE_bm0 {T : String} {r : V → List V → Hp → VK → Prop} (ht : T = "list") (h : wpE K W ex te G O fun x O1 => (∃ xs, seqOf O1 x xs) ∧ wpM K r x [] O1 P) : wpE K W ex (tBM0 K T r te) G O P := fun Z F H σ X S s Q q =>
  h Z F H σ X S s _ fun x v F1 H1 O1 S1 e1 r1 ⟨⟨xs, hx⟩, p1⟩ => by
    subst ht
    obtain ⟨a, vs, rfl, ha, rv⟩ := hx.at S1 r1
    exact ⟨.inl ⟨rfl, vs, ha⟩, p1 Z F1 H1 _ _ S1 r1 .nil Q fun d v F3 H3 O3 S3 e3 r3 p3 => q d v F3 H3 O3 S3 (e1.trans e3) r3 p3⟩
theorem wpM_append {j : Nat} {a : Addr} {b : Bool} {xs : List D} {y : D} (hj : O[j]? = some ⟨a, b, .lst xs⟩) (hl : xs.length < sizeLine) (p : P .non (O.set j ⟨a, b, .lst (xs ++ [y])⟩)) : wpM K rAppend (.mut a) [y] O P := fun Z F H vx vs S rx r Q q => by
  cases rx
  cases r with
  | cons ra rb =>
    cases rb
    obtain ⟨_, ⟨ws, h2, h3⟩, _⟩ := S.own _ (List.mem_of_getElem? hj)
    exact ⟨a, ws, _, rfl, rfl, h2, by rw [← h3.length]; exact hl, q _ _ F _ _ (S.write hj (d' := .lst (xs ++ [y])) ⟨_, upd_same, h3.app (.one ra)⟩) (Ex.refl F) .non p⟩
theorem wpM_popAt {j : Nat} {a : Addr} {b : Bool} {xs : List D} {i : Int} {y : D} (hj : O[j]? = some ⟨a, b, .lst xs⟩) (h0 : 0 ≤ i) (hb : i < 2 ^ 63) (hy : xs[i.toNat]? = some y) (p : P y (O.set j ⟨a, b, .lst (xs.eraseIdx i.toNat)⟩)) : wpM K rPopAt (.mut a) [.int i] O P := fun Z F H vx vs S rx r Q q => by
  cases rx
  cases r with
  | cons ra rb =>
    cases rb
    cases ra
    obtain ⟨_, ⟨ws, h2, h3⟩, _⟩ := S.own _ (List.mem_of_getElem? hj)
    obtain ⟨v, hv, rv⟩ := h3.get hy
    have hlen : i.toNat < ws.length := (List.getElem?_eq_some_iff.mp hv).1
    refine ⟨a, ws, i, i.toNat, v, rfl, rfl, h2, by omega, hb, ?_, hv, q _ _ F _ _ (S.write hj (d' := .lst (xs.eraseIdx i.toNat)) ⟨_, upd_same, h3.erase _⟩) (Ex.refl F) rv p⟩
    exact (ixN_seq (n := ws.length) (by unfold ixN; rw [if_pos h0, if_pos (by omega)])).1
def rInsert : V → List V → Hp → VK → Prop := fun x vs H Q => ∃ (l : Addr) (xs : List V) (i : Int) (y : V), x = .ref l ∧ vs = [.int i, y] ∧ H l = some (.lst xs) ∧ xs.length < sizeLine ∧ 0 ≤ i ∧ i < 2 ^ 63 ∧
    Q .non (upd H l (.lst (xs.take i.toNat ++ [y] ++ xs.drop i.toNat)))
theorem mtA_insert {X : Cx} : MtR X "list.insert" rInsert := mt_insert
theorem wpM_insert {j : Nat} {a : Addr} {b : Bool} {xs : List D} {i : Int} {y : D} (hj : O[j]? = some ⟨a, b, .lst xs⟩) (hl : xs.length < sizeLine) (h0 : 0 ≤ i) (hb : i < 2 ^ 63) (p : P .non (O.set j ⟨a, b, .lst (xs.take i.toNat ++ [y] ++ xs.drop i.toNat)⟩)) : wpM K rInsert (.mut a) [.int i, y] O P := fun Z F H vx vs S rx r Q q => by
  cases rx
  cases r with
  | cons ra rb =>
    cases rb with
    | cons rc rd =>
      cases rd
      cases ra
      obtain ⟨_, ⟨ws, h2, h3⟩, _⟩ := S.own _ (List.mem_of_getElem? hj)
      exact ⟨a, ws, i, _, rfl, rfl, h2, by rw [← h3.length]; exact hl, h0, hb, q _ _ F _ _ (S.write hj (d' := .lst (xs.take i.toNat ++ [y] ++ xs.drop i.toNat)) ⟨_, upd_same, ((h3.take _).app (.one rc)).app (h3.drop _)⟩) (Ex.refl F) .non p⟩
theorem wpM_indexI {x : D} {ns : List Int} {i : Int} (hx : seqOf O x (ns.map D.int)) (hi : i ∈ ns) (p : P (.int (ns.idxOf i : Nat)) O) : wpM K (rIndex K) x [.int i] O P := fun Z F H vx vs S rx r Q q => by
  cases r with
  | cons ra rb =>
    cases rb
    cases ra
    obtain ⟨a, vs, rfl, ha, rv⟩ := hx.at S rx
    have e := rv.ints
    subst e
    have hl := List.idxOf_lt_length_iff.mpr hi
    refine ⟨a, _, .int i, ns.idxOf i, .int i, rfl, rfl, ha, rfl, by simp [flatV], ?_, by simp [eqV], fun m z' hm hz => ?_, q _ _ F H O S (Ex.refl F) (.int _) p⟩
    · rw [List.getElem?_map, List.getElem?_eq_getElem hl]
      simp
    · rw [List.getElem?_map, List.getElem?_eq_getElem (show m < ns.length by omega)] at hz
      have hz2 : z' = V.int ns[m] := (Option.some.inj hz).symm
      subst hz2
      show (ns[m] == i) = false
      have h3 := List.not_of_lt_findIdx (p := (· == i)) (xs := ns) (show m < ns.findIdx (· == i) from hm)
      simpa using h3
/-- xs[i] = v -/
theorem wpPut_lst {j : Nat} {a : Addr} {b : Bool} {xs : List D} {i : Int} {d : D} {PO : Ow → Prop} (hj : O[j]? = some ⟨a, b, .lst xs⟩) (h0 : 0 ≤ i) (hi : i < xs.length) (p : PO (O.set j ⟨a, b, .lst (xs.set i.toNat d)⟩)) : wpPut K rSetL (.mut a) (.int i) d O PO := fun Z F H vo vi vv S ro ri rv Q q => by
  cases ro
  cases ri
  obtain ⟨_, ⟨ws, h2, h3⟩, _⟩ := S.own _ (List.mem_of_getElem? hj)
  refine ⟨a, ws, i, i.toNat, rfl, rfl, h2, ?_, q F _ _ (S.write hj (d' := .lst (xs.set i.toNat d)) ⟨_, upd_same, h3.set _ rv⟩) (Ex.refl F) p⟩
  unfold ixN
  rw [if_pos h0, if_pos (by rw [← h3.length]; exact hi)]
def tTru (K : PySem.W.Frag) (ta : TE) : TT := fun σ H Q => ta σ H fun x H' => ∃ k, TruV K x H' k ∧ Q k H'
inductive TrD (O : Ow) : D → Bool → Prop where
  | non : TrD O .non false
  | bl (b : Bool) : TrD O (.bl b) b
  | int (i : Int) : TrD O (.int i) (i != 0)
  | str (s : Str) (h : s.length ≤ sizeLine) : TrD O (.str s) ((s.length : Int) != 0)
  | seq {x : D} {xs : List D} (h : seqOf O x xs) : TrD O x (!xs.isEmpty)
  | tup (xs : List D) : TrD O (.tup xs) (!xs.isEmpty)
theorem isEmpty_rps {F : Hp} {ds : List D} {vs : List V} (r : Rps K F ds vs) : ds.isEmpty = vs.isEmpty := by
  cases r <;> rfl
theorem wpT_tru (h : wpE K W ex te G O fun d O1 => ∃ b, TrD O1 d b ∧ PT b O1) : wpT K W ex (tTru K te) G O PT := fun Z F H σ X S s Q q =>
  h Z F H σ X S s _ fun d v F1 H1 O1 S1 e1 r1 ⟨b, hd, p⟩ => by
    refine ⟨b, ?_, q b F1 H1 O1 S1 e1 p⟩
    cases hd with
    | non => cases r1; rfl
    | bl b => cases r1; rfl
    | int i => cases r1; rfl
    | str s h => cases r1; exact ⟨h, rfl⟩
    | seq h =>
      obtain ⟨a, vs, rfl, ha, rv⟩ := h.at S1 r1
      exact .inl ⟨vs, ha, by rw [isEmpty_rps rv]⟩
    | tup xs =>
      cases r1 with
      | tup h1 rv => exact .inr (.inl ⟨_, SqT.of (S1.ex _ _ h1), by rw [isEmpty_rps rv]⟩)
end
end PyD
namespace PyD
open PySem PySem.Spec L2
section
variable {K : PySem.W.Frag} {W : WX} {ex : Ek} {G : Gm} {O : Ow} {P : D → Ow → Prop} {PT : Bool → Ow → Prop} {PA : List D → Ow → Prop} {E : EnD} {ta tb te tc td : TE} {tt uu : TT} {t u : TS} {aa ab : TA}
section
variable {κ : Type} [DecidableEq κ]
def valD (kvs : List (κ × D)) (k : κ) : Option D := (kvs.find? fun kv => decide (kv.1 = k)).map (·.2)
def putD (kvs : List (κ × D)) (k : κ) (v : D) : List (κ × D) := if (kvs.any fun kv => decide (kv.1 = k)) = true then kvs.map (fun kv => if kv.1 = k then (kv.1, v) else kv) else kvs ++ [(k, v)]
def RKv (K : PySem.W.Frag) (F : Hp) (kds : List (κ × D)) (kvs : List (κ × V)) : Prop := kds.map (·.1) = kvs.map (·.1) ∧ Rps K F (kds.map (·.2)) (kvs.map (·.2))
omit [DecidableEq κ] in
theorem RKv.nil {F : Hp} : RKv K F ([] : List (κ × D)) [] := ⟨rfl, .nil⟩
omit [DecidableEq κ] in
theorem RKv.len {F : Hp} {kds : List (κ × D)} {kvs : List (κ × V)} (r : RKv K F kds kvs) : kds.length = kvs.length := by
  have h := congrArg List.length r.1
  simpa using h
omit [DecidableEq κ] in
theorem RKv.cons_inv {F : Hp} {p : κ × D} {kds : List (κ × D)} {kvs : List (κ × V)} (r : RKv K F (p :: kds) kvs) : ∃ v kvs', kvs = (p.1, v) :: kvs' ∧ Rp K F p.2 v ∧ RKv K F kds kvs' := by
  cases kvs with
  | nil => cases r.1
  | cons q kvs =>
    obtain ⟨h1, h2⟩ := r
    rw [List.map_cons, List.map_cons, List.cons.injEq] at h1
    cases h2 with
    | cons ra rb =>
      refine ⟨q.2, kvs, ?_, ra, h1.2, rb⟩
      rw [h1.1]
theorem RKv.val {F : Hp} {k : κ} : ∀ {kds : List (κ × D)} {kvs : List (κ × V)}, RKv K F kds kvs → (∀ d, valD kds k = some d → ∃ v, valV kvs k = some v ∧ Rp K F d v) ∧ (valD kds k = none → valV kvs k = none)
  | [], kvs, r => by
    have : kvs = [] := by
      cases kvs with
      | nil => rfl
      | cons q kvs => cases r.1
    subst this
    exact ⟨fun d h => by simp [valD] at h, fun _ => rfl⟩
  | p :: kds, kvs, r => by
    obtain ⟨v, kvs', rfl, rv, r'⟩ := r.cons_inv
    have ih := RKv.val (k := k) r'
    by_cases h : p.1 = k
    · refine ⟨fun d e => ⟨v, by simp [valV, List.find?_cons, h], ?_⟩, fun e => ?_⟩
      · simp [valD, List.find?_cons, h] at e
        rw [← e]
        exact rv
      · simp [valD, List.find?_cons, h] at e
    · have e1 : valD (p :: kds) k = valD kds k := by simp [valD, List.find?_cons, h]
      have e2 : valV ((p.1, v) :: kvs') k = valV kvs' k := by simp [valV, List.find?_cons, h]
      rw [e1, e2]
      exact ih
theorem RKv.any {F : Hp} {k : κ} : ∀ {kds : List (κ × D)} {kvs : List (κ × V)}, RKv K F kds kvs → (kds.any fun kv => decide (kv.1 = k)) = kvs.any fun kv => decide (kv.1 = k)
  | [], kvs, r => by
    cases kvs with
    | nil => rfl
    | cons q kvs => cases r.1
  | p :: kds, kvs, r => by
    obtain ⟨v, kvs', rfl, rv, r'⟩ := r.cons_inv
    rw [List.any_cons, List.any_cons, RKv.any r']
theorem RKv.put {F : Hp} {k : κ} {d : D} {v : V} {kds : List (κ × D)} {kvs : List (κ × V)} (r : RKv K F kds kvs) (rv : Rp K F d v) : RKv K F (putD kds k d) (putK kvs k v) := by
  unfold putD putK
  rw [r.any]
  split
  · have go : ∀ {kds : List (κ × D)} {kvs : List (κ × V)}, RKv K F kds kvs → RKv K F (kds.map fun kv => if kv.1 = k then (kv.1, d) else kv) (kvs.map fun kv => if kv.1 = k then (kv.1, v) else kv) := by
      intro kds
      induction kds with
      | nil =>
        intro kvs r
        cases kvs with
        | nil => exact .nil
        | cons q kvs => cases r.1
      | cons p kds ih =>
        intro kvs r
        obtain ⟨u, kvs', rfl, ru, r'⟩ := r.cons_inv
        obtain ⟨h1, h2⟩ := ih r'
        rw [List.map_cons, List.map_cons]
        by_cases h : p.1 = k
        · rw [if_pos h, if_pos h]
          exact ⟨by simp only [List.map_cons, h1], .cons rv h2⟩
        · rw [if_neg h, if_neg h]
          exact ⟨by simp only [List.map_cons, h1], .cons ru h2⟩
    exact go r
  · refine ⟨by rw [List.map_append, List.map_append, r.1] <;> rfl, ?_⟩
    rw [List.map_append, List.map_append]
    exact r.2.app (.one rv)
end
/-- a dict with ints and texts as keys: frozen or owned -/
def dOf (O : Ow) (x : D) (kds : List (Key × D)) : Prop := x = .dK kds ∨ ∃ a b, x = .mut a ∧ (⟨a, b, .dK kds⟩ : Ob) ∈ O
theorem d_l {kds : List (Key × D)} : dOf O (.dK kds) kds := .inl rfl
theorem d_m {kds : List (Key × D)} {a : Addr} {b : Bool} {i : Nat} (h : O[i]? = some ⟨a, b, .dK kds⟩) : dOf O (.mut a) kds := .inr ⟨a, b, rfl, List.mem_of_getElem? h⟩
theorem dOf.at {Z : En0} {F H : Hp} {x : D} {kds : List (Key × D)} {v : V} (h : dOf O x kds) (S : S0 K Z F H O) (r : Rp K F x v) : ∃ a kvs, v = .ref a ∧ Rd H a (.dK kvs) ∧ RKv K F kds kvs := by
  rcases h with rfl | ⟨a, b, rfl, hm⟩
  · cases r with
    | dK h1 h2 h3 => exact ⟨_, _, rfl, ex_d S.ex h1, h2, h3⟩
  · cases r
    obtain ⟨_, ⟨vs, h2, h3, h4⟩, _⟩ := S.own _ hm
    exact ⟨_, vs, rfl, .inl h2, h3, h4⟩
theorem dget_k {H : Hp} {a : Addr} {kvs : List (Key × V)} {k : Key} (e : Rd H a (.dK kvs)) : DGet H a (kV k) (valV kvs k) := .inl ⟨kvs, k, e, rfl, rfl⟩
def kD : Key → D
  | .inl i => .int i
  | .inr s => .str s
theorem kD_v {F : Hp} {k : Key} {v : V} (r : Rp K F (kD k) v) : v = kV k := by
  cases k with
  | inl i => cases r; rfl
  | inr s => cases r; rfl
theorem wpE_dnew (p : ∀ a, (∀ q ∈ O, q.a ≠ a) → P (.mut a) (⟨a, true, .dK []⟩ :: O)) : wpE K W ex tDNewK G O P := fun Z F H σ X S s Q q a ha =>
  q _ _ F _ _ (S.new _ (.dK []) ha ⟨[], upd_same, rfl, .nil⟩) (Ex.refl F) (.mut a) (p a (S.freshO ha))
theorem wpE_dget (h : wpE K W ex td G O fun x O1 => wpE K W ex te G O1 fun y O2 => ∃ kds k v, dOf O2 x kds ∧ y = kD k ∧ valD kds k = some v ∧ P v O2) : wpE K W ex (tDGet td te) G O P := fun Z F H σ X S s Q q =>
  h Z F H σ X S s _ fun x vx F1 H1 O1 S1 e1 r1 p1 => p1 Z F1 H1 σ (X.mono e1) S1 (s.mono e1) _ fun y vy F2 H2 O2 S2 e2 r2 ⟨kds, k, v, hd, hy, hv, p⟩ => by
    obtain ⟨a, kvs, rfl, ha, rk⟩ := hd.at S2 (r1.mono e2)
    subst hy
    obtain rfl := kD_v r2
    obtain ⟨w, hw, rw'⟩ := rk.val.1 v hv
    exact ⟨a, w, rfl, by rw [← hw]; exact dget_k ha, q _ _ F2 H2 O2 S2 (e1.trans e2) rw' p⟩
theorem wpE_din (h : wpE K W ex te G O fun y O1 => wpE K W ex td G O1 fun x O2 => ∃ kds k, dOf O2 x kds ∧ y = kD k ∧ P (.bl (valD kds k).isSome) O2) : wpE K W ex (tDIn te td) G O P := fun Z F H σ X S s Q q =>
  h Z F H σ X S s _ fun y vy F1 H1 O1 S1 e1 r1 p1 => p1 Z F1 H1 σ (X.mono e1) S1 (s.mono e1) _ fun x vx F2 H2 O2 S2 e2 r2 ⟨kds, k, hd, hy, p⟩ => by
    obtain ⟨a, kvs, rfl, ha, rk⟩ := hd.at S2 r2
    subst hy
    obtain rfl := kD_v r1
    refine ⟨a, _, rfl, dget_k ha, ?_⟩
    have e : (valV kvs k).isSome = (valD kds k).isSome := by
      cases e : valD kds k with
      | none => rw [rk.val.2 e] <;> rfl
      | some d =>
        obtain ⟨w, hw, _⟩ := rk.val.1 d e
        rw [hw] <;> rfl
    rw [e]
    exact q _ _ F2 H2 O2 S2 (e1.trans e2) (.bl _) p
theorem wpE_dnotin (h : wpE K W ex te G O fun y O1 => wpE K W ex td G O1 fun x O2 => ∃ kds k, dOf O2 x kds ∧ y = kD k ∧ P (.bl (!(valD kds k).isSome)) O2) : wpE K W ex (tDNotIn te td) G O P := fun Z F H σ X S s Q q =>
  h Z F H σ X S s _ fun y vy F1 H1 O1 S1 e1 r1 p1 => p1 Z F1 H1 σ (X.mono e1) S1 (s.mono e1) _ fun x vx F2 H2 O2 S2 e2 r2 ⟨kds, k, hd, hy, p⟩ => by
    obtain ⟨a, kvs, rfl, ha, rk⟩ := hd.at S2 r2
    subst hy
    obtain rfl := kD_v r1
    refine ⟨a, _, rfl, dget_k ha, ?_⟩
    have e : (valV kvs k).isSome = (valD kds k).isSome := by
      cases e : valD kds k with
      | none => rw [rk.val.2 e] <;> rfl
      | some d =>
        obtain ⟨w, hw, _⟩ := rk.val.1 d e
        rw [hw] <;> rfl
    rw [e]
    exact q _ _ F2 H2 O2 S2 (e1.trans e2) (.bl _) p
theorem wpS_dput (h : wpE K W ex tb G O fun v O1 => wpE K W ex td G O1 fun x O2 => wpE K W ex te G O2 fun y O3 => ∃ (j : Nat) (a : Addr) (b : Bool) (kds : List (Key × D)) (k : Key), x = .mut a ∧ O3[j]? = some ⟨a, b, .dK kds⟩ ∧ y = kD k ∧ kds.length < sizeLine ∧ E.nx G (O3.set j ⟨a, b, .dK (putD kds k v)⟩)) :
    wpS K W ex (sDPut td te tb) G O E := fun Z F H σ X S s D0 q =>
  h Z F H σ X S s _ fun v vv F1 H1 O1 S1 e1 r1 p1 => p1 Z F1 H1 σ (X.mono e1) S1 (s.mono e1) _ fun x vx F2 H2 O2 S2 e2 r2 p2 => p2 Z F2 H2 σ (X.mono (e1.trans e2)) S2 (s.mono (e1.trans e2)) _ fun y vy F3 H3 O3 S3 e3 r3 ⟨j, a, b, kds, k, hx, hj, hy, hl, p⟩ => by
    subst hx
    subst hy
    cases r2
    obtain rfl := kD_v r3
    obtain ⟨_, ⟨kvs, h2, h3, h4⟩, _⟩ := S3.own _ (List.mem_of_getElem? hj)
    have rk : RKv K F3 kds kvs := ⟨h3, h4⟩
    have rp := rk.put (k := k) (r1.mono (e2.trans e3))
    exact ⟨a, _, rfl, DPut.k h2 (by rw [← rk.len]; exact hl), q.nx F3 _ σ G _ (e1.trans (e2.trans e3)) (S3.write hj (d' := .dK (putD kds k v)) ⟨_, upd_same, rp.1, rp.2⟩) (s.mono (e1.trans (e2.trans e3))) p⟩
def dOfT (O : Ow) (x : D) (kds : List (List Key × D)) : Prop := x = .dT kds ∨ ∃ a b, x = .mut a ∧ (⟨a, b, .dT kds⟩ : Ob) ∈ O
theorem dOfT.at {Z : En0} {F H : Hp} {x : D} {kds : List (List Key × D)} {v : V} (h : dOfT O x kds) (S : S0 K Z F H O) (r : Rp K F x v) : ∃ a kvs, v = .ref a ∧ Rd H a (.dT kvs) ∧ RKv K F kds kvs := by
  rcases h with rfl | ⟨a, b, rfl, hm⟩
  · cases r with
    | dT h1 h2 h3 => exact ⟨_, _, rfl, ex_d S.ex h1, h2, h3⟩
  · cases r
    obtain ⟨_, ⟨vs, h2, h3, h4⟩, _⟩ := S.own _ hm
    exact ⟨_, vs, rfl, .inl h2, h3, h4⟩
theorem kDs_v {F : Hp} : ∀ {ks : List Key} {vs : List V}, Rps K F (ks.map kD) vs → vs = ks.map kV
  | [], _, .nil => rfl
  | k :: ks, _, .cons a r => by
    rw [kD_v a, kDs_v r] <;> rfl
theorem RKv.isSome {κ : Type} [DecidableEq κ] {F : Hp} {k : κ} {kds : List (κ × D)} {kvs : List (κ × V)} (r : RKv K F kds kvs) : (valV kvs k).isSome = (valD kds k).isSome := by
  cases e : valD kds k with
  | none => rw [r.val.2 e] <;> rfl
  | some d =>
    obtain ⟨w, hw, _⟩ := r.val.1 d e
    rw [hw] <;> rfl
abbrev Kk := D → Ow → Prop
abbrev Xk := Xc → Ow → Prop
abbrev DSp := List D → Ow → Kk → Xk → Prop
def entry (F H : Hp) (O : Ow) : En0 := ⟨F, H, O.map Ob.a⟩
def toSp (K : PySem.W.Frag) (sp : DSp) : Sp := fun vs H Q E0 => ∃ ds F O k x, S0 K (entry F H O) F H O ∧ (∀ p ∈ O, p.loc = false) ∧ Rps K F ds vs ∧ sp ds O k x ∧
  (∀ d O' v F' H', S0 K (entry F H O) F' H' O' → Rp K F' d v → k d O' → Q v H') ∧ ∀ e O' dd F' H', S0 K (entry F H O) F' H' O' → XR K F' e dd → x e O' → E0 (.ref e.cls) dd H'
theorem toSp_len {sp : DSp} {n : Nat} (h : ∀ ds O k x, sp ds O k x → ds.length = n) : ∀ vs H Q E0, toSp K sp vs H Q E0 → vs.length = n := fun vs H Q E0 ⟨ds, F, O, k, x, _, _, r, q, _⟩ => by
  rw [← r.length]
  exact h _ _ _ _ q
/-- the slots at a def's entry -/
def startD (n : Nat) (ds : List D) : Gm := ds.map some ++ List.replicate (n - ds.length) none
theorem slots_start {F : Hp} {N : List Str} {ds : List D} {vs : List V} (r : Rps K F ds vs) : Slots K F (startD N.length ds) (L2.start N vs) := by
  refine ⟨?_, fun i d h => ?_⟩
  · unfold startD L2.start
    rw [List.length_append, List.length_append, List.length_map, List.length_map, List.length_replicate, List.length_replicate, r.length]
  · unfold startD at h
    unfold L2.start
    by_cases hi : i < ds.length
    · rw [List.getElem?_append_left (by rw [List.length_map]; exact hi), List.getElem?_map] at h
      rw [List.getElem?_append_left (by rw [List.length_map, ← r.length]; exact hi), List.getElem?_map]
      cases e : ds[i]? with
      | none => rw [e] at h; cases h
      | some d' =>
        rw [e] at h
        have h2 : d' = d := by simpa using h
        subst h2
        obtain ⟨v, hv, rv⟩ := r.get e
        exact ⟨v, by rw [hv] <;> rfl, rv⟩
    · rw [List.getElem?_append_right (by rw [List.length_map]; omega), List.getElem?_replicate] at h
      split at h <;> cases h
/-- a body that keeps its promise over data keeps it -/
theorem body_ok {sp : DSp} {N : List Str} {ts : WX → TS} (h : ∀ W ds O k x, sp ds O k x → (∀ p ∈ O, p.loc = false) → wpS K W (fun e _ O' => x e O') (ts W) (startD N.length ds) O { nx := fun _ O' => k .non O', rt := k }) :
    ∀ vs H Q E0, toSp K sp vs H Q E0 → ts (fun cls d _ H => E0 cls d H) { nx := fun _ H' => Q .non H', rt := Q } (L2.start N vs) H := fun vs H Q E0 ⟨ds, F, O, k, x, S, lo, r, q, qk, qx⟩ =>
  h _ ds O _ _ q lo (entry F H O) F H _ (fun x d F' H' σ G O' _ S' s' r' e' => qx _ _ d F' H' S' r' e') S (slots_start r) _
    ⟨fun F' H' σ G O' _ S' s' p => qk _ _ .non F' H' S' .non p, fun F' H' d v O' _ S' r' p => qk _ _ v F' H' S' r' p, fun _ _ _ _ _ _ _ _ z => z.elim, fun _ _ _ _ _ _ _ _ z => z.elim⟩
theorem S0.fzk {Z : En0} {F H : Hp} (S : S0 K Z F H O) {a : Addr} {o : HO} (e : Z.F a = some o) (h : Z.H a ≠ none) : F a = some o := by
  rcases S.fz a h with k | ⟨k, _⟩
  · exact k.trans e
  · rw [e] at k
    cases k
theorem S0.fzn {Z : En0} {F H : Hp} (S : S0 K Z F H O) {a : Addr} {d : D} {F2 H2 : Hp} (e : Z.F a = none) (h : Z.H a ≠ none) (m : Mu K F2 H2 a d) (e2 : H2 a = H a) : F a = none := by
  rcases S.fz a h with k | ⟨_, ws, k⟩
  · exact k.trans e
  · exact absurd (e2.trans (S.ex a _ k)) (m.notup ws)
theorem S0.fzt {Z : En0} {F H F' H' : Hp} {M : List Addr} {N : Ow} (S : S0 K Z F H O) (S' : S0 K ⟨F, H, M⟩ F' H' N) {a : Addr} (e : Z.H a ≠ none) (h : H a ≠ none) : F' a = Z.F a ∨ (Z.F a = none ∧ ∃ vs, F' a = some (.tup vs)) := by
  rcases S'.fz a h with k | ⟨k1, k2⟩
  · have k : F' a = F a := k
    rw [k]
    exact S.fz a e
  · have k1 : F a = none := k1
    rcases S.fz a e with z | ⟨z, ws, z2⟩
    · exact .inr ⟨z.symm.trans k1, k2⟩
    · rw [z2] at k1
      cases k1
/-- the heap, handed to a callee that is handed no owned object -/
theorem S0.call0 {Z : En0} {F H : Hp} (S : S0 K Z F H O) : S0 K (entry F H []) F H [] where
  ex := S.ex
  frame := fun _ _ _ e => e
  fz := fun _ _ => .inl rfl
  alive := fun _ h => by cases h
  own := fun _ h => by cases h
  nd := .nil
theorem S0.back0 {Z : En0} {F H F' H' : Hp} {N : Ow} (S : S0 K Z F H O) (S' : S0 K (entry F H []) F' H' N) : S0 K Z F' H' (N ++ O) ∧ Ex F F' := by
  have keep : ∀ a o, H a = some o → H' a = some o := fun a o e => S'.frame a o (by simp [entry]) e
  have eF : Ex F F' := fun a o e => by
    have h1 := S.ex a o e
    exact S'.fzk e (by show H a ≠ none; rw [h1]; intro z; cases z)
  have loc : ∀ p ∈ N, p.loc = true ∧ H p.a = none := fun p hp => by
    obtain ⟨_, _, h3, h4⟩ := S'.own p hp
    cases hb : p.loc with
    | true => exact ⟨rfl, h3 hb⟩
    | false =>
      have := h4 hb
      simp [entry] at this
  refine ⟨⟨S'.ex, fun a o hm e => keep a o (S.frame a o hm e), fun a e => ?_, fun a hm e => ?_, fun p hp => ?_, ?_⟩, eF⟩
  · have h1 : H a ≠ none := fun z => e (S.fresh z)
    exact S.fzt S' e h1
  · cases e2 : H a with
    | none => exact S.alive a hm e2
    | some o =>
      rw [keep a o e2] at e
      cases e
  · rcases List.mem_append.mp hp with hp | hp
    · obtain ⟨h1, h2, _, _⟩ := S'.own p hp
      obtain ⟨l1, l2⟩ := loc p hp
      exact ⟨h1, h2, fun _ => S.fresh l2, fun e => by rw [l1] at e; cases e⟩
    · obtain ⟨h1, h2, h3⟩ := S.own p hp
      obtain ⟨o, ho⟩ := h2.some
      refine ⟨?_, h2.mono eF (fun o e => keep _ o e), h3⟩
      exact S'.fzn h1 (by show H p.a ≠ none; rw [ho]; intro z; cases z) h2 (by rw [ho, keep _ o ho])
  · rw [List.map_append]
    refine List.nodup_append.mpr ⟨S'.nd, S.nd, fun x hx y hy e => ?_⟩
    subst e
    obtain ⟨p, hp, rfl⟩ := List.mem_map.mp hx
    obtain ⟨r, hr, e⟩ := List.mem_map.mp hy
    obtain ⟨o, ho⟩ := (S.own r hr).2.1.some
    rw [e, (loc p hp).2] at ho
    cases ho
theorem wpE_call0 {sp : DSp} {dvs : List V} {dds : List D} (hd : ∀ F, Rps K F dds dvs) (h : wpA K W ex aa G O fun ds O1 => sp (ds ++ dds) [] (fun d N => P d (N ++ O1)) (fun x N => ex x G (N ++ O1))) :
    wpE K W ex (tCallSD (toSp K sp) dvs (WE W) aa) G O P := fun Z F H σ X S s Q q =>
  h Z F H σ X S s _ fun ds vs F1 H1 O1 S1 e1 r1 p1 => by
    refine ⟨ds ++ dds, F1, [], _, _, S1.call0, fun _ h => (by cases h), r1.app (hd F1), p1, fun d N v F' H' S' r' k => ?_, fun x N dd F' H' S' r' k => ?_⟩
    · obtain ⟨S2, e2⟩ := S1.back0 S'
      exact q d v F' H' _ S2 (e1.trans e2) r' k
    · obtain ⟨S2, e2⟩ := S1.back0 S'
      exact X x dd F' H' σ G _ (e1.trans e2) S2 (s.mono (e1.trans e2)) r' k
/-- the heap, handed to a callee that is handed one owned object -/
theorem S0.call1 {Z : En0} {F H : Hp} (S : S0 K Z F H O) {j : Nat} {a : Addr} {b : Bool} {d : D} (hj : O[j]? = some ⟨a, b, d⟩) : S0 K (entry F H [⟨a, false, d⟩]) F H [⟨a, false, d⟩] := by
  obtain ⟨h1, h2, h3⟩ := S.own _ (List.mem_of_getElem? hj)
  refine ⟨S.ex, fun _ _ _ e => e, fun _ _ => .inl rfl, fun x hx => ?_, fun p hp => ?_, by simp⟩
  · have e : x = a := by simpa [entry] using hx
    subst e
    obtain ⟨o, ho⟩ := h2.some
    show H x ≠ none
    rw [ho]
    intro z
    cases z
  · have e : p = ⟨a, false, d⟩ := by simpa using hp
    subst e
    exact ⟨h1, h2, fun e => (by cases e), fun _ => (by simp [entry])⟩
theorem S0.back1 {Z : En0} {F H F' H' : Hp} {N : Ow} (S : S0 K Z F H O) {j : Nat} {a : Addr} {b : Bool} {d d' : D} (hj : O[j]? = some ⟨a, b, d⟩) (S' : S0 K (entry F H [⟨a, false, d⟩]) F' H' (N ++ [⟨a, false, d'⟩])) : S0 K Z F' H' (N ++ O.set j ⟨a, b, d'⟩) ∧ Ex F F' := by
  have own1 := S.own _ (List.mem_of_getElem? hj)
  have keep : ∀ x o, x ≠ a → H x = some o → H' x = some o := fun x o hx e => S'.frame x o (by simpa [entry] using hx) e
  have eF : Ex F F' := fun x o e => by
    have h1 := S.ex x o e
    exact S'.fzk e (by show H x ≠ none; rw [h1]; intro z; cases z)
  have nda : ∀ p ∈ N, p.a ≠ a := fun p hp e => by
    have nd := S'.nd
    rw [List.map_append] at nd
    exact (List.nodup_append.mp nd).2.2 p.a (List.mem_map_of_mem hp) a (by simp) e
  have loc : ∀ p ∈ N, p.loc = true ∧ H p.a = none := fun p hp => by
    obtain ⟨_, _, h3, h4⟩ := S'.own p (List.mem_append_left _ hp)
    cases hb : p.loc with
    | true => exact ⟨rfl, h3 hb⟩
    | false =>
      have h5 := h4 hb
      have h6 : p.a = a := by simpa [entry] using h5
      exact absurd h6 (nda p hp)
  obtain ⟨_, hma, _⟩ := S'.own ⟨a, false, d'⟩ (List.mem_append_right _ (by simp))
  have na : ∀ o, Z.H a = some o → a ∈ Z.M := fun o e => by
    cases b with
    | true =>
      have := own1.2.2.1 rfl
      have h2 : Z.H a = none := this
      rw [h2] at e
      cases e
    | false => exact own1.2.2.2 rfl
  refine ⟨⟨S'.ex, fun x o hm e => ?_, fun x e => ?_, fun x hm e => ?_, fun p hp => ?_, ?_⟩, eF⟩
  · have hx : x ≠ a := fun z => hm (by rw [z]; exact na o (by rw [← z]; exact e))
    exact keep x o hx (S.frame x o hm e)
  · have h1 : H x ≠ none := fun z => e (S.fresh z)
    exact S.fzt S' e h1
  · by_cases hx : x = a
    · rw [hx] at e
      obtain ⟨o, ho⟩ := hma.some
      rw [ho] at e
      cases e
    · cases e2 : H x with
      | none => exact S.alive x hm e2
      | some o =>
        rw [keep x o hx e2] at e
        cases e
  · rcases List.mem_append.mp hp with hp | hp
    · obtain ⟨h1, h2, _, _⟩ := S'.own p (List.mem_append_left _ hp)
      obtain ⟨l1, l2⟩ := loc p hp
      exact ⟨h1, h2, fun _ => S.fresh l2, fun e => by rw [l1] at e; cases e⟩
    · by_cases hx : p.a = a
      · have hi : (O.set j ⟨a, b, d'⟩)[j]? = some ⟨a, b, d'⟩ := List.getElem?_set_self (List.getElem?_eq_some_iff.mp hj).1
        have nd2 : ((O.set j ⟨a, b, d'⟩).map Ob.a).Nodup := by rw [map_a_set hj]; exact S.nd
        have e := nd_idx nd2 hi hp hx
        subst e
        refine ⟨?_, hma, own1.2.2⟩
        exact S'.fzn own1.1 (by obtain ⟨o, ho⟩ := own1.2.1.some; show H a ≠ none; have h9 : H a = some o := ho; rw [h9]; intro z; cases z) hma rfl
      · rcases List.mem_or_eq_of_mem_set hp with hp | rfl
        · obtain ⟨h1, h2, h3⟩ := S.own p hp
          obtain ⟨o, ho⟩ := h2.some
          refine ⟨?_, h2.mono eF (fun o e => keep _ o hx e), h3⟩
          exact S'.fzn h1 (by show H p.a ≠ none; rw [ho]; intro z; cases z) h2 (by rw [ho, keep _ o hx ho])
        · exact absurd rfl hx
  · rw [List.map_append, map_a_set hj]
    have ndN : (N.map Ob.a).Nodup := by
      have nd := S'.nd
      rw [List.map_append] at nd
      exact (List.nodup_append.mp nd).1
    refine List.nodup_append.mpr ⟨ndN, S.nd, fun x hx y hy e => ?_⟩
    subst e
    obtain ⟨p, hp, rfl⟩ := List.mem_map.mp hx
    obtain ⟨r, hr, e⟩ := List.mem_map.mp hy
    obtain ⟨o, ho⟩ := (S.own r hr).2.1.some
    rw [e, (loc p hp).2] at ho
    cases ho
/-- a call that is handed the owned object at j -/
theorem wpE_call1 {sp : DSp} {dvs : List V} {dds : List D} (hd : ∀ F, Rps K F dds dvs) (h : wpA K W ex aa G O fun ds O1 => ∃ (j : Nat) (a : Addr) (b : Bool) (d : D), O1[j]? = some ⟨a, b, d⟩ ∧
      sp (ds ++ dds) [⟨a, false, d⟩] (fun r N => ∃ M d', N = M ++ [⟨a, false, d'⟩] ∧ P r (M ++ O1.set j ⟨a, b, d'⟩)) (fun x N => ∃ M d', N = M ++ [⟨a, false, d'⟩] ∧ ex x G (M ++ O1.set j ⟨a, b, d'⟩))) :
    wpE K W ex (tCallSD (toSp K sp) dvs (WE W) aa) G O P := fun Z F H σ X S s Q q =>
  h Z F H σ X S s _ fun ds vs F1 H1 O1 S1 e1 r1 ⟨j, a, b, d, hj, p1⟩ => by
    refine ⟨ds ++ dds, F1, _, _, _, S1.call1 hj, fun p h => (by have e : p = ⟨a, false, d⟩ := (by simpa using h); rw [e]), r1.app (hd F1), p1, fun r N v F' H' S' r' k => ?_, fun x N dd F' H' S' r' k => ?_⟩
    · obtain ⟨M, d', rfl, k⟩ := k
      obtain ⟨S2, e2⟩ := S1.back1 hj S'
      exact q r v F' H' _ S2 (e1.trans e2) r' k
    · obtain ⟨M, d', rfl, k⟩ := k
      obtain ⟨S2, e2⟩ := S1.back1 hj S'
      exact X x dd F' H' σ G _ (e1.trans e2) S2 (s.mono (e1.trans e2)) r' k
end
end PyD
namespace L2
open PySem PySem.Spec PyProof.Rows
/-- sorted(xs), xs a list of pairs of ints, written or made: ks the pairs with their places -/
def rSortedPQ (K : PySem.W.Frag) : List V → Hp → VK → Prop := fun vs H Q => ∃ (a : Addr) (ks : List (Addr × (Int × Int))), vs = [V.ref a] ∧ SqL K H a (ks.map fun p => V.ref p.1) ∧ (∀ p ∈ ks, SqT K H p.1 [.int p.2.1, .int p.2.2]) ∧
  ∀ (ls : List (Addr × (Int × Int))) (p : Addr), ls.Perm ks → ls.Pairwise (fun x y => x.2.1 < y.2.1 ∨ x.2.1 = y.2.1 ∧ x.2.2 ≤ y.2.2) → H p = none → Q (.ref p) (upd H p (.lst (ls.map fun p => V.ref p.1)))
section
variable {X : Cx}
theorem cr_sortedPQ : CallR X (.builtin "sorted") (rSortedPQ X.K) := by
  intro pins s σ H vs us Q I r h
  obtain ⟨a, ks, rfl, hs, hx, q⟩ := h
  obtain ⟨its, rv, hl, hz⟩ := I.list hs
  obtain ⟨u, rfl, ru⟩ := vals1 r
  obtain rfl : u = Value.ref a := ru
  obtain ⟨e1, e2⟩ := refs_back rv fun x m => by
    obtain ⟨p, _, e⟩ := List.mem_map.mp m
    exact ⟨p.1, e.symm⟩
  -- a place says its pair
  have one : ∀ p ∈ ks, ∀ p' ∈ ks, p.1 = p'.1 → p = p' := fun p hp p' hp' e => by
    have h1 := hx p hp
    have h2 := hx p' hp'
    rw [← e] at h2
    have h3 := I.tuple_inj h1 h2
    obtain ⟨b, i, j⟩ := p
    obtain ⟨b', i', j'⟩ := p'
    dsimp only at e
    subst e
    simp at h3
    rw [h3.1, h3.2]
  let k : Addr → Int × Int := fun b => (ks.lookup b).getD (0, 0)
  have kk : ∀ p ∈ ks, k p.1 = p.2 := fun p hp => by
    show (ks.lookup p.1).getD (0, 0) = p.2
    have : ∃ v, ks.lookup p.1 = some v ∧ (p.1, v) ∈ ks := by
      clear q hs hx rv e1 one k hz
      induction ks with
      | nil => cases hp
      | cons r ks ih =>
        obtain ⟨b, v⟩ := r
        rw [List.lookup_cons]
        cases e : p.1 == b with
        | true =>
          refine ⟨v, rfl, ?_⟩
          rw [beq_iff_eq.mp e]
          exact List.mem_cons_self
        | false =>
          rcases List.mem_cons.mp hp with z | z
          · rw [z] at e
            simp at e
          · obtain ⟨v', h1, h2⟩ := ih z
            exact ⟨v', h1, List.mem_cons_of_mem _ h2⟩
    obtain ⟨v, h1, h2⟩ := this
    rw [h1]
    have h3 := one _ h2 _ hp rfl
    rw [← h3] <;> rfl
  let kv : Value → Int × Int := fun u => match u with
    | .ref b => k b
    | _ => (0, 0)
  refine SrtO.sorted_pairsO (k := kv) hl.isList (by rw [← rv.length]; exact hz) (fun v hv => ?_) fun h' d out h1 h2 kp hd hn => ?_
  · obtain ⟨t, rfl⟩ := e2 v hv
    have hm : V.ref t ∈ ks.map fun p => V.ref p.1 := by rw [e1]; exact List.mem_map.mpr ⟨_, hv, rfl⟩
    obtain ⟨p, hp, e⟩ := List.mem_map.mp hm
    cases e
    obtain ⟨its2, r2, ⟨o, ho, hc, n, hd⟩, _⟩ := I.tuple (hx p hp)
    obtain ⟨u1, u2, rfl, ri, rj⟩ := vals2 r2
    obtain ⟨t1, rfl⟩ := ri
    obtain ⟨t2, rfl⟩ := rj
    refine ⟨p.1, o, t1, t2, n, rfl, ho, hc, ?_⟩
    show o.data = .seq #[.int (k p.1).1 t1, .int (k p.1).2 t2] n
    rw [kk p hp]
    exact hd
  · have h3 : ∀ u ∈ out, ∃ a, u = Value.ref a := fun u hu => e2 u (h2.perm.mem_iff.mp hu)
    obtain ⟨n, hn⟩ := hn
    let g : Value → Addr × (Int × Int) := fun u => match u with
      | .ref b => (b, k b)
      | _ => (a, (0, 0))
    have eg : ∀ u ∈ out, V.ref (g u).1 = backV u := fun u hu => by
      obtain ⟨b, rfl⟩ := h3 u hu
      rfl
    have em : (out.map g).map (fun p => V.ref p.1) = out.map backV := by
      rw [List.map_map]
      exact List.map_congr_left eg
    have ek : its.map g = ks := by
      have e3 : (ks.map fun p => V.ref p.1).map (fun v => match v with
          | .ref b => (b, k b)
          | _ => (a, (0, 0))) = ks := by
        rw [List.map_map]
        conv => rhs; rw [← List.map_id ks]
        refine List.map_congr_left fun p hp => ?_
        show (p.1, k p.1) = p
        rw [kk p hp]
      rw [e1, List.map_map] at e3
      rw [← e3]
      refine List.map_congr_left fun u hu => ?_
      obtain ⟨b, rfl⟩ := e2 u hu
      rfl
    have hp : (out.map g).Perm ks := by
      rw [← ek]
      exact h2.perm.map g
    have ho : (out.map g).Pairwise (fun x y => x.2.1 < y.2.1 ∨ x.2.1 = y.2.1 ∧ x.2.2 ≤ y.2.2) := by
      refine List.pairwise_map.mpr (List.Pairwise.imp_of_mem ?_ h1)
      intro u v hu hv huv
      obtain ⟨b, rfl⟩ := h3 u hu
      obtain ⟨c, rfl⟩ := h3 v hv
      have z := SrtO.lexB_no.mp huv
      show (k b).1 < (k c).1 ∨ (k b).1 = (k c).1 ∧ (k b).2 ≤ (k c).2
      have z : ¬((k c).1 < (k b).1 ∨ (k c).1 = (k b).1 ∧ (k c).2 < (k b).2) := z
      omega
    refine ⟨.ref d, upd H d (.lst (out.map backV)), I.laid (t' := s.toks) kp hd ⟨?_, out, n, vals_back h3, hn⟩, rfl, ?_⟩
    · rw [List.length_map, h2.perm.length_eq, ← rv.length]
      exact hz
    · rw [← em]
      exact q _ d hp ho (I.hok.fresh hd)
end
end L2
namespace PyD
open PySem PySem.Spec L2
section
variable {K : PySem.W.Frag} {W : WX} {ex : Ek} {G : Gm} {O : Ow} {P : D → Ow → Prop} {E : EnD} {ta tb te tc tk tv : TE} {tt uu tt1 : TT} {t u : TS} {aa : TA}
abbrev prD (p : Int × Int) : D := .tup [.int p.1, .int p.2]
def dcEnd (fr : Bool) (acc : List (Key × D)) (O : Ow) (P : D → Ow → Prop) : Prop := match fr with
  | true => P (.dK acc) O
  | false => ∀ a, (∀ q ∈ O, q.a ≠ a) → P (.mut a) (⟨a, true, .dK acc⟩ :: O)
theorem wpE_dc {wi : TI} {g : TG} {vs : List Nat} (fr : Bool) (hg : gIn vs g) (gm : gMono g) (h : wpI K W ex wi G O fun xs C O1 => ∃ I : Nat → List (Key × D) → Ow → Prop, I 0 [] O1 ∧ (∀ i acc O', i ≤ xs.length → I i acc O' → C O' ∧ acc.length < sizeLine) ∧
      (∀ i x acc O', xs[i]? = some x → I i acc O' → wpG K g x (wipeG G vs) O' fun G2 O2 => wpT K W ex tt G2 O2 fun b O3 => (b = true → wpE K W ex tk G2 O3 fun y O4 => wpE K W ex tv G2 O4 fun z O5 => ∃ k, y = kD k ∧ I (i + 1) (putD acc k z) O5) ∧ (b = false → I (i + 1) acc O3)) ∧
      ∀ acc O', I xs.length acc O' → dcEnd fr acc O' P) : wpE K W ex (tDc wi g tt tk tv vs) G O P := fun Z F H σ X S s Q q =>
  h Z F H σ X S s _ fun J xs C F1 H1 O1 S1 e1 hw ⟨I, h0, hl, hs, hd⟩ Dl hD => by
    have hZ := S1.fresh hD
    have hM := S1.notM hD
    refine ⟨fun i m H' => i + m = xs.length ∧ ∃ F2 O2 acc vacc, S0 K Z F2 H' O2 ∧ Ex F1 F2 ∧ F2 Dl = none ∧ H' Dl = some (.dK vacc) ∧ RKv K F2 acc vacc ∧ I i acc O2 ∧ ∀ p ∈ O2, p.a ≠ Dl,
      ⟨xs.length, by omega, F1, O1, [], [], S1.junk _ hD, Ex.refl _, S1.ex.none hD, upd_same, RKv.nil, h0, S1.freshO hD⟩, fun i m H' hW => ?_⟩
    obtain ⟨em, F2, O2, acc, vacc, S2, e2, f2, hD2, r2, hI, nO⟩ := hW
    obtain ⟨hC, hz⟩ := hl i acc O2 (by omega) hI
    by_cases hi : i < xs.length
    · obtain ⟨x, hx⟩ : ∃ x, xs[i]? = some x := ⟨xs[i], List.getElem?_eq_getElem hi⟩
      have S2' := S2.hold hD2 f2 nO
      obtain ⟨g1, g2⟩ := hw.go _ F2 H' O2 i x S2' e2 hC hx
      obtain ⟨Nx, hNx⟩ : ∃ Nx : Hp → Prop, Nx = fun H3 => ∃ F3 O3 acc3 vacc3, S0 K Z F3 H3 O3 ∧ Ex F1 F3 ∧ F3 Dl = none ∧ H3 Dl = some (.dK vacc3) ∧ RKv K F3 acc3 vacc3 ∧ I (i + 1) acc3 O3 ∧ ∀ p ∈ O3, p.a ≠ Dl := ⟨_, rfl⟩
      refine .inr ⟨g1, Nx, fun H3 h3 => ⟨m - 1, by omega, by omega, by rw [hNx] at h3; exact h3⟩, fun z H3 hz3 => ?_⟩
      obtain ⟨F3, S3, e3, rz⟩ := g2 z H3 hz3
      have X' : XOk K (Z.hold Dl (.dK vacc)) F ex W := X.hold hZ hM
      have sw : Slots K F3 (wipeG G vs) (L2.wipe σ vs) := (s.mono (e1.trans (e2.trans e3))).wipe vs
      have hgo := hs i x acc O2 hx hI (Z.hold Dl (.dK vacc)) F3 H3 _ z S3 sw rz
      refine gm z _ H3 _ _ (fun σ2 H4 hq => ?_) (hg z _ H3 _ (hgo (fun σ2 H4 => tt σ2 H4 fun b H5 => if b = true then tk σ2 H5 fun y H4 => tv σ2 H4 fun z H5 => ∃ kvs k, y = kV k ∧ H5 Dl = some (.dK kvs) ∧ kvs.length < sizeLine ∧ Nx (upd H5 Dl (.dK (putK kvs k z))) else Nx H5) ?_))
      · obtain ⟨q1, q2, q3⟩ := hq
        refine ⟨wipe_ext (q2.trans (wipe_length σ vs)) fun k hk => (q3 k hk).trans ?_, q1⟩
        rw [wipe_at, if_neg hk]
      · intro F4 H4 σ4 G4 O4 S4 s4 e4 p4
        have e04 := e1.trans (e2.trans (e3.trans e4))
        refine p4 _ F4 H4 σ4 (X'.mono e04) S4 s4 _ fun b F5 H5 O5 S5 e5 p5 => ?_
        cases b with
        | true =>
          refine p5.1 rfl _ F5 H5 σ4 (X'.mono (e04.trans e5)) S5 (s4.mono e5) _ fun y vy F6 H6 O6 S6 e6 r6 p6 => ?_
          refine p6 _ F6 H6 σ4 (X'.mono (e04.trans (e5.trans e6))) S6 (s4.mono (e5.trans e6)) _ fun z vz F8 H8 O8 S8 e8 r8 ⟨k, hk, p8⟩ => ?_
          subst hk
          obtain rfl := kD_v r6
          obtain ⟨S7, k1, k2, k3⟩ := S8.unhold hZ hM
          have e26 := e3.trans (e4.trans (e5.trans (e6.trans e8)))
          have rk : RKv K F8 acc vacc := ⟨r2.1, r2.2.mono e26⟩
          exact ⟨vacc, k, rfl, k1, by rw [← r2.len]; exact hz, by rw [hNx]; exact ⟨F8, O8, putD acc k z, putK vacc k vz, S7.writeU k2 k3 hZ, e2.trans e26, k2, upd_same, rk.put r8, p8, k3⟩⟩
        | false =>
          obtain ⟨S7, k1, k2, k3⟩ := S5.unhold hZ hM
          have e25 := e3.trans (e4.trans e5)
          show Nx H5
          rw [hNx]
          exact ⟨F5, O5, acc, vacc, S7, e2.trans e25, k2, k1, ⟨r2.1, r2.2.mono e25⟩, p5.2 rfl, k3⟩
    · have ei : i = xs.length := by omega
      subst ei
      refine .inl ⟨hw.stop Z F2 H' O2 S2 e2 hC, ?_⟩
      have hend := hd acc O2 hI
      cases fr with
      | true => exact q _ _ _ H' O2 (S2.keepF hD2 f2 nO hZ) (e1.trans (e2.trans (Ex.new f2))) (.dK (.inl upd_same) r2.1 (r2.2.mono (Ex.new f2))) hend
      | false => exact q _ _ F2 H' _ (S2.take (d := .dK acc) f2 ⟨vacc, hD2, r2.1, r2.2⟩ nO hZ) (e1.trans e2) (.mut Dl) (hend Dl nO)
end
end PyD
namespace PySem
namespace OwnX
open PySem.W PySem.Calls PyProof.Rows PySem.HandSPX
def iA (at_ : Str) (p1 p2 : Pos) : Arguments := { posonlyargs := [], args := [{ arg := "self", annotation := none, pos := p1 }, { arg := at_, annotation := none, pos := p2 }], vararg := none, kwonlyargs := [], kw_defaults := [], kwarg := none, defaults := [] }
def sup (q0 q1 q2 q3 q4 : Pos) (msg : Expr) : Stmt := .Expr (.Call (.Attribute (.Call (.Name "super" q0) [] [] q1) "__init__" q2) [msg] [] q3) q4
def iB (at_ : Str) (msg : Expr) (q0 q1 q2 q3 q4 r1 r2 r3 r4 : Pos) : List Stmt := [sup q0 q1 q2 q3 q4 msg, .Assign [.Attribute (.Name "self" r1) at_ r2] (.Name at_ r3) r4]
def iS (at_ : Str) : Scope := { kind := .function, names := [(PySem.Str.ofString "self", .local), (at_, .local), (PySem.Str.ofString "__class__", .free), (PySem.Str.ofString "super", .globalImplicit)], isGenerator := false, isCoroutine := false, more := [] }
/-- super().__init__(..) is a method's call -/
def SupOk (msg : Expr) (q0 q1 q2 q3 : Pos) : Prop := ∀ env : Env, starEach [msg] env = [(false, eval msg env)] ∧ ∃ pl : Sem Bool, eval (.Call (.Attribute (.Call (.Name "super" q0) [] [] q1) "__init__" q2) [msg] [] q3) env = (do
  let ov ← attributeBase (.Call (.Name "super" q0) [] [] q1) "__init__" env (eval (.Call (.Name "super" q0) [] [] q1) env)
  standAt q2.atName
  let (f, first) ← holding [ov] (getMethod ov "__init__" pl)
  callWith q3 f first (backTo q3 (starEach [msg] env)) [])
/-- what the written part says of the class at C and of its __init__, at fI -/
structure Txt (prog : Program) (K : Frag) (at_ : Str) (msg : Expr) (C fI : Addr) : Prop where
  cls : ∃ nm q N bs bm sn sub ab col dd k0 k1 k2 k3 k5, K.lookup C = some (excClassObj nm q C N bs bm true sn sub ab col dd k0 k1 k2 k3 k5 "ValueError.__new__") ∧ refsVE bm = true
  sa : findIn K (.ref C) "__setattr__" = some (some (.builtin "object.__setattr__"))
  noN : findIn K (.ref C) at_ = some none
  iC : findIn K (.ref C) "__init__" = some (some (.ref fI))
  tC : typeIn K (.ref fI) = some (.type "function")
  opq : nsIn K cStatics "thirdparty.any" = some none
  along : ks_superIn K C C "__init__" = some (some (.builtin "ValueError.__init__"))
  subB : subIn K (.ref C) (.type "ValueError") = some true
  subC : mroIn K C (.ref C) = some true
  ok : (at_ == ("self" : Str)) = false ∧ (at_ == ("super" : Str)) = false ∧ (at_ == ("__class__" : Str)) = false ∧ (at_ == ("__debug__" : Str)) = false
  bnd : ∀ (qual : Str) (p1 p2 : Pos) (body : List Stmt) (doc pm : Value) (an : Option Addr) (cdv ct : Value) (cc : Addr) (a v : Value), bindArgs (fnX "__init__" qual (iA at_ p1 p2) body (iS at_) [("__class__", cc)] .none .none doc pm an cdv ct) ⟨[a, v], []⟩ = pure ([(("self" : Str), a), (at_, v)] : List (Str × Value))
  top : (prog.main.scope.names.lookup ("super" : Str)).isSome = false
  fn : ∃ (oc : Value) (od : Option Addr) (doc pm : Value) (an : Option Addr) (cda cc : Addr) (ct : Value) (osl : Array (Option Value)) (qual : Str) (p1 p2 q0 q1 q2 q3 q4 r1 r2 r3 r4 : Pos) (ccl cl : Value) (cdd cld : Option Addr) (vs : Array Value) (ccs csl : Array (Option Value)) (file : Str) (tf : Tok),
    K.lookup fI = some ⟨oc, od, .func (fnX "__init__" qual (iA at_ p1 p2) (iB at_ msg q0 q1 q2 q3 q4 r1 r2 r3 r4) (iS at_) [("__class__", cc)] .none .none doc pm an (.ref cda) ct), osl⟩ ∧ codeIn K (.ref cda) qual = true ∧
    K.lookup cda = some ⟨ccl, cdd, .fields vs, ccs⟩ ∧ vs[2]? = some (.str file tf) ∧ ((prog.main.file : Str) == file) = true ∧ K.lookup cc = some ⟨cl, cld, .cell (some (.ref C)), csl⟩ ∧ SupOk msg q0 q1 q2 q3
section
variable {prog : Program} {w : World} {A : Around} {E : Value → Shared → Prop} {h : Heap} {g : Array GenState} {d : Drawn} {t : Nat} {os : OsState}
theorem bw_call {nm q : Str} {C N u e t0 : Addr} {bs bm : List Value} {hdct : Bool} {sn : List Str} {sub : List Value} {ab : Bool} {col : Option Bool} {dd : Option Addr} {k0 k1 k2 k3 k5 : Option Value} {rest : List Value} {Q : Value → Shared → Prop}
    (hC : h.get? C = some (excClassObj nm q C N bs bm hdct sn sub ab col dd k0 k1 k2 k3 k5 "ValueError.__new__")) (he : h.get? e = some (excO C t0)) (hu : h.get? u = some (kxs_mw "ValueError.__init__" e)) (hrest : rest.length ≤ sizeLine)
    (hq : ∀ h' t1, (∀ b o, b ≠ e → h.get? b = some o → h'.get? b = some o) → h'.get? e = some (excO C t1) → Q .none ⟨h', g, d, t, os⟩) :
    wpAny (model prog w) A (call (.ref u) rest) Q E ⟨h, g, d, t, os⟩ := by
  refine wpAny_call (codeAny_of_tree ?_)
  show wpAny _ A.in1 (callAny (.ref u) ⟨rest, []⟩) _ _ _
  simp only [callAny]
  refine wpAny_bind (wpAny_load hu ?_)
  simp only [kxs_mw, show (Value.type "method-wrapper" == Value.type "method" || Value.type "method-wrapper" == Value.type "builtin_function_or_method" || Value.type "method-wrapper" == Value.type "method-wrapper") = true by decide, if_true]
  refine KFB.if_so (by decide) ?_
  refine wpAny_bind (check_bound_init F.excBase_ValueError.toExcCallFacts hC he rfl ?_)
  refine wpAny_bind (wpAny_pure (wpAny_pure ?_))
  refine ⟨plainId_quiet F.excBase_ValueError.init.plain _, codeAny_builtin F.excBase_ValueError.initEntry ?_⟩
  exact exc_init_tree (cls := .ref C) (t0 := t0) (dv := none) (c2 := .none) (c3 := .none) (b4 := .bool false) he hrest fun h' k e' _ => hq h' h.objs.size k e'
end
/-- what __init__ leaves of a fresh exception at x -/
structure InitEnd (at_ : Str) (h h' : Heap) (x C dx t1 : Addr) (v : Value) : Prop where
  keep : ∀ b o, b ≠ x → h.get? b = some o → h'.get? b = some o
  obj : h'.get? x = some { cls := .ref C, dict := some dx, data := .fields #[.ref t1, .none, .none, .none, .bool false, .none] }
  dbig : h.objs.size ≤ dx
  dne : dx ≠ x
  ns : h'.Ns1 dx (fun y => if y = at_ then some v else none)
/-- the message's evaluation, the attribute's name bound to v -/
def MsgOk (prog : Program) (w : World) (at_ : Str) (msg : Expr) (v : Value) : Prop :=
  ∀ (A : Around) (env : Env) (s : Shared) (m : Str → Option Value) (Q : Value → Shared → Prop) (E : Value → Shared → Prop), env.scope.kind = .function → env.kindOf at_ = some .local → s.heap.Ns env.locals m → m at_ = some v →
    (∀ v' h' tk, (∀ b o, s.heap.get? b = some o → h'.get? b = some o) → Q v' { s with heap := h', toks := tk }) → wpAny (model prog w) A (eval msg env) Q E s
theorem lk_self {at_ : Str} : (iS at_).names.lookup ("self" : Str) = some .local := rfl
section
variable {prog : Program} {w : World} {A : Around} {R : Result → Shared → Prop} {s : Shared} {K : Frag} {mg mb : Str → Option Value} {at_ : Str} {msg : Expr} {C fI : Addr}
theorem own_init (T : Txt prog K at_ msg C fI) {x t0 : Addr} {v : Value} (X : K.In s.heap) (hlim : s.heap.NoLimit) (hG : s.heap.Ns mainGlobals mg) (hsup : mg "super" = none) (hB : s.heap.Ns builtinsNs mb) (hblt : ∀ x : Str, x ≠ "__name__" → mb x = bootBuiltins x)
    (hx : s.heap.get? x = some (excO C t0)) (hnx : K.lookup x = none) (hroom : A.depth < recursionLimit) (hmsg : MsgOk prog w at_ msg v)
    (hq : ∀ h' tk dx t1, InitEnd at_ s.heap h' x C dx t1 v → R (.ok (.ret .none)) { s with heap := h', toks := tk }) :
    codeAny (model prog w) A (.call (.ref fI) ⟨[.ref x, v], []⟩) R s := by
  obtain ⟨oc, od, doc, pm, an, cda, cc, ct, osl, qual, p1, p2, q0, q1, q2, q3, q4, r1, r2, r3, r4, ccl, cl, cdd, cld, vs, ccs, csl, file, tf, ho, hcd, hcode, hvs, hfile, hcell, hmc⟩ := T.fn
  obtain ⟨nm, q, N, bs, bm, sn, sub, ab, col, dd, k0, k1, k2, k3, k5, hC, hbm⟩ := T.cls
  obtain ⟨n1, n2, n3, n4⟩ := T.ok
  have hne : at_ ≠ ("self" : Str) := fun e => by rw [e] at n1; exact absurd n1 (by decide)
  have hcl : clsIn K C = some { name := nm, bases := bs, mro := .ref C :: bm, ns := N, qualname := q, hasDict := true, slotNames := sn, subclasses := sub, abstract := ab, collection := col, hasDel := false } := by unfold clsIn; rw [hC] <;> rfl
  have la : (iS at_).names.lookup at_ = some .local := by
    show List.lookup at_ (_ :: _) = _
    rw [List.lookup_cons]
    rw [show (at_ == PySem.Str.ofString "self") = false from n1]
    show List.lookup at_ (_ :: _) = _
    rw [List.lookup_cons, show (at_ == at_) = true from by simp]
  have lsup : (iS at_).names.lookup ("super" : Str) = some .globalImplicit := by
    show List.lookup _ (_ :: _) = _
    rw [List.lookup_cons, show (("super" : Str) == PySem.Str.ofString "self") = false from by decide]
    show List.lookup _ (_ :: _) = _
    rw [List.lookup_cons, show (("super" : Str) == at_) = false from by
      have e : at_ ≠ ("super" : Str) := fun e => by rw [e] at n2; exact absurd n2 (by decide)
      exact beq_eq_false_iff_ne.mpr (Ne.symm e)]
    rfl
  have lcls : (iS at_).names.lookup ("__class__" : Str) = some .free := by
    show List.lookup _ (_ :: _) = _
    rw [List.lookup_cons, show (("__class__" : Str) == PySem.Str.ofString "self") = false from by decide]
    show List.lookup _ (_ :: _) = _
    rw [List.lookup_cons, show (("__class__" : Str) == at_) = false from by
      have e : at_ ≠ ("__class__" : Str) := fun e => by rw [e] at n3; exact absurd n3 (by decide)
      exact beq_eq_false_iff_ne.mpr (Ne.symm e)]
    rfl
  obtain ⟨hp, g, dr, tk, os⟩ := s
  refine ks_codeAny_call_defAt (fd := fnX "__init__" qual (iA at_ p1 p2) (iB at_ msg q0 q1 q2 q3 q4 r1 r2 r3 r4) (iS at_) [("__class__", cc)] .none .none doc pm an (.ref cda) ct) (body := iB at_ msg q0 q1 q2 q3 q4 r1 r2 r3 r4) (binds := [(("self" : Str), .ref x), (at_, v)])
    hroom (X _ _ ho) rfl hlim (codeRec_of X hcd) rfl (BindsTo.of_eq ?_) ?_ ?_ (fun h1 hn k => ?_) rfl rfl rfl
  · exact T.bnd _ _ _ _ _ _ _ _ _ _ _ _
  · intro y hy
    simp only [fnX, iS, List.mem_cons, List.not_mem_nil, or_false] at hy
    rcases hy with rfl | rfl | rfl | rfl <;> (intro z; cases z)
  · intro y hy
    simp only [List.mem_cons, List.not_mem_nil, or_false] at hy
    rcases hy with rfl | rfl
    · exact lk_self
    · exact la
  · have hx1 := k _ _ hx
    have X1 : K.In h1 := X.keeps k
    have xL : hp.objs.size ≠ x := Nat.ne_of_gt (Heap.lt_size hx)
    have mself : (([(("self" : Str), Value.ref x), (at_, v)] : List (Str × Value)).reverse.lookup ("self" : Str)) = some (.ref x) := by
      show List.lookup _ [_, _] = _
      rw [List.lookup_cons, show (("self" : Str) == at_) = false from beq_eq_false_iff_ne.mpr (Ne.symm hne)]
      rfl
    have mat : (([(("self" : Str), Value.ref x), (at_, v)] : List (Str × Value)).reverse.lookup at_) = some v := by
      show List.lookup _ [_, _] = _
      rw [List.lookup_cons, show (at_ == at_) = true from by simp]
    refine ks_wpAt_execs_cons (ks_wpAt_Expr_any ?_ rfl ?_)
    · obtain ⟨hstar, pl, hpl⟩ := hmc (callEnv (fnX "__init__" qual (iA at_ p1 p2) (iB at_ msg q0 q1 q2 q3 q4 r1 r2 r3 r4) (iS at_) [("__class__", cc)] .none .none doc pm an (.ref cda) ct) hp.objs.size fI)
      refine ks_wpAt_MethodCall ?hh hpl
      · -- super()
        refine ks_wpAt_super_base (env := callEnv (fnX "__init__" qual (iA at_ p1 p2) (iB at_ msg q0 q1 q2 q3 q4 r1 r2 r3 r4) (iS at_) [("__class__", cc)] .none .none doc pm an (.ref cda) ct) hp.objs.size fI)
          lsup lcls (by decide) rfl (X1 _ _ ho) rfl (ar := { arg := "self", annotation := none, pos := p1 }) rfl rfl (X1 _ _ hcode) rfl hvs hfile T.top ?_
        have G1 : h1.Ns mainGlobals mg := hG.keeps k
        have B1 : h1.Ns builtinsNs mb := hB.keeps k
        have I1 : InstAt h1 x (excO C t0) C none := ⟨hx1, rfl, rfl, trivial⟩
        refine ks_loadName_global rfl lsup (loadGlobal_builtin (env := callEnv _ hp.objs.size fI) G1 hsup B1 ((hblt _ (by decide +kernel)).trans (by first | boot_by_name | rfl | kernel_rfl)) ⟨rfl, ?_⟩)
        refine wpAny_loadName_free rfl lcls rfl ⟨_, X1 _ _ hcell, rfl⟩ ?_
        refine wpAny_loadName_local rfl lk_self hn mself ?_
        refine ks_wpAny_isType_cls (X1 _ _ hC) rfl ⟨rfl, ?_⟩
        refine ks_wpAny_call_super (X1 _ _ hC) rfl hx1 rfl (fun c e => by cases e) (looks_mroIn X1 T.subC) (fun h2 e2 k2 => ?_)
        -- its __init__
        have X2 : K.In h2 := X1.keeps k2
        have hx2 := k2 _ _ hx1
        have I2 : InstAt h2 x (excO C t0) C none := ⟨hx2, rfl, rfl, trivial⟩
        have hal := T.along
        unfold ks_superIn at hal
        rw [hcl] at hal
        refine kxs_getMethod kxs_ValueError e2 (looks_opaque X2 T.opq) (l₀ := .ref C :: bm) (fun A Q E s k q => wpAny_bind ((looks_clsIn X2 hcl) A _ E s k (wpAny_pure q))) rfl X2 hal (I2.type.andThen (looks_subIn X2 T.subB)) (ks_ne X2 I2 hcl) (by decide) ?_
        have k3 : ∀ b o, h2.get? b = some o → (h2.push (kxs_mw "ValueError.__init__" x)).get? b = some o := fun b o e => Heap.get?_push_of_some _ e
        have hu3 : (h2.push (kxs_mw "ValueError.__init__" x)).get? h2.objs.size = some (kxs_mw "ValueError.__init__" x) := Heap.get?_push_at rfl rfl
        show wpAny _ _ (callWith q3 (.ref h2.objs.size) [] (backTo q3 (starEach [msg] _)) []) _ _ _
        rw [hstar]
        refine kxs_callWith (i := "ValueError.__init__") (x := x) ?_ ?_
        · rfl
        · have hn2 : (h2.push (kxs_mw "ValueError.__init__" x)).Ns hp.objs.size (fun y => ([((("self" : Str)), Value.ref x), (at_, v)] : List (Str × Value)).reverse.lookup y) := hn.keeps fun b o e => k3 b o (k2 b o e)
          refine evalArgs_plain ?_
          refine Calls.spliced_cons ?_
          refine hmsg _ _ _ _ _ _ rfl la hn2 mat fun v' h4 tk4 k4 => ?_
          refine Calls.spliced_nil ?_
          have k24 : ∀ b o, h2.get? b = some o → h4.get? b = some o := fun b o e => k4 b o (k3 b o e)
          refine ⟨k4 _ _ hu3, ?_⟩
          refine bw_call (e := x) ((X2.keeps k24) _ _ hC) (k24 _ _ hx2) (k4 _ _ hu3) (by show 1 ≤ sizeLine; decide) fun h5 t1 k5 hx5 => ?_
          -- self.f = f
          have k15 : ∀ b o, b ≠ x → h1.get? b = some o → h5.get? b = some o := fun b o hb e => k5 b o hb (k24 b o (k2 b o e))
          have X5 : K.In h5 := fun a o e => k15 a o (fun z => by rw [z, hnx] at e; cases e) (X1 a o e)
          obtain ⟨oL, es, ep, hL, rL⟩ := hn
          have hn5 : h5.Ns hp.objs.size (fun y => ([((("self" : Str)), Value.ref x), (at_, v)] : List (Str × Value)).reverse.lookup y) := ⟨oL, es, ep, k15 _ _ xL hL, rL⟩
          show wpAt _ _ _ (execs _ _) _ _ _
          refine ks_wpAt_execs_cons (wpAt_of_wpAny (plainObj_wpAny_Assign_Attribute ?_))
          refine ESX.ldL (v := v) hn5 mat (ESX.ldL (v := .ref x) hn5 mself ?_ rfl lk_self (by decide)) rfl la n4
          refine set_plain X5 (ox := excO C t1) (od := none) ⟨hx5, rfl, rfl, trivial⟩ T.sa ?_
          refine exc_osa X5 hx5 hcl (show refsVE (.ref C :: bm) = true from hbm) rfl T.noN (fun h6 tk6 dx k6 dn dne hx6 hn6 => ?_)
          show wpAt _ _ _ (execs _ _) _ _ _
          refine wpAt_of_wpAny (wpAny_execs_nil (hq h6 tk6 dx t1 ⟨fun b o hb e => k6 b o hb (k15 b o hb (k b o e)), hx6, ?_, dne, hn6⟩))
          have z1 : hp.objs.size < h5.objs.size := Heap.lt_size (show h5.get? hp.objs.size = some oL from k15 _ _ xL hL)
          exact Nat.le_of_lt (Nat.lt_of_lt_of_le z1 dn)
    · rfl
/-- a made exception -/
structure OwnMade (at_ : Str) (h h' : Heap) (e C d : Addr) (v : Value) : Prop where
  keep : ∀ b o, h.get? b = some o → h'.get? b = some o
  new : h.objs.size ≤ e
  obj : ∃ oe vs, h'.get? e = some oe ∧ oe.cls = .ref C ∧ oe.dict = some d ∧ oe.data = .fields vs ∧ vs[1]? = some .none
  dbig : h.objs.size ≤ d
  dne : d ≠ e
  ns : h'.Ns1 d (fun y => if y = at_ then some v else none)
theorem one_size (v : Value) : [v].length ≤ sizeLine := by
  rw [sizeLine_eq]
  exact (by decide : 1 ≤ 16777216)
theorem own_made (T : Txt prog K at_ msg C fI) {v : Value} (X : K.In s.heap) (hlim : s.heap.NoLimit) (hG : s.heap.Ns mainGlobals mg) (hsup : mg "super" = none) (hB : s.heap.Ns builtinsNs mb) (hblt : ∀ x : Str, x ≠ "__name__" → mb x = bootBuiltins x)
    (hroom : A.depth + 1 < recursionLimit) (hmsg : MsgOk prog w at_ msg v)
    (hq : ∀ h' tk e d, OwnMade at_ s.heap h' e C d v → R (.ok (.ret (.ref e))) { s with heap := h', toks := tk }) :
    codeAny (model prog w) A (.call (.ref C) ⟨[v], []⟩) R s := by
  obtain ⟨nm, q, N, bs, bm, sn, sub, ab, col, dd, k0, k1, k2, k3, k5, hC, hbm⟩ := T.cls
  obtain ⟨hp, g, dr, tk, os⟩ := s
  have k : ∀ b o, hp.get? b = some o → ((hp.push (kdv_tup [v])).push (excO C hp.objs.size)).get? b = some o := fun b o e => Heap.get?_push_of_some _ (Heap.get?_push_of_some _ e)
  have hget : ((hp.push (kdv_tup [v])).push (excO C hp.objs.size)).get? (hp.objs.size + 1) = some (excO C hp.objs.size) := by heap_get
  have hnx : K.lookup (hp.objs.size + 1) = none := by
    cases e : K.lookup (hp.objs.size + 1) with
    | none => rfl
    | some o =>
      have z : hp.get? (hp.objs.size + 1) = some o := X _ _ e
      exact absurd (Nat.lt_of_succ_lt (Heap.lt_size z)) (Nat.lt_irrefl _)
  refine call_own F.excBase_ValueError (fun X => refsVE_contains X bm hbm) (X _ _ hC) (looks_findIn X T.iC) (fun self => bind_fn X self T.tC) (one_size v) ?_
  refine own_init (s := ⟨(hp.push (kdv_tup [v])).push (excO C hp.objs.size), g, dr, tk, os⟩) T (X.keeps k) (hlim.keeps k) (hG.keeps k) hsup (hB.keeps k) hblt hget hnx ?_ hmsg fun h' tk' dx t1 ⟨k', hx, dn, dne, hns⟩ => ?_
  · show A.depth + 1 < recursionLimit
    exact hroom
  · have old : ∀ b o, hp.get? b = some o → h'.get? b = some o := fun b o e => k' b o (Nat.ne_of_lt (Nat.lt_succ_of_lt (Heap.lt_size e))) (k b o e)
    have z : hp.objs.size + 1 + 1 ≤ dx := by
      first
        | (simpa only [Heap.size_push] using dn)
        | exact dn
        | (have q := dn; rw [Heap.size_push, Heap.size_push] at q; exact q)
    exact ⟨rfl, hq h' tk' (hp.objs.size + 1) dx ⟨old, Nat.le_succ _, ⟨_, _, hx, rfl, rfl, rfl, rfl⟩, Nat.le_trans (Nat.le_trans (Nat.le_succ _) (Nat.le_succ _)) z, dne, hns⟩⟩
end
end OwnX
end PySem
namespace L2
open PySem PySem.Spec PyProof.Rows
theorem relO_at {at_ : Str} {v : V} {v' : Value} (r : RelV v v') (f : Str) : RelO (List.lookup f [(at_, v)]) (if f = at_ then some v' else none) := by
  by_cases hw : f = at_
  · subst hw
    rw [if_pos rfl]
    have q : List.lookup f [(f, v)] = some v := by simp [List.lookup]
    rw [q]
    exact r
  · rw [if_neg hw]
    have qw : (f == at_) = false := by simpa using hw
    have q2 : List.lookup f [(at_, v)] = none := by simp [List.lookup, qw]
    rw [q2]
    trivial
/-- X(e), X an own exception class with one attribute: okV says which values its text takes -/
def tMkX (C : Addr) (at_ : Str) (okV : V → Prop) (ta : TA) : St → Hp → XK → Prop := fun σ H Q => ta σ H fun vs H1 => ∃ v, vs = [v] ∧ okV v ∧ ∀ d, H1 d = none → Q (.ref C) (some d) (upd H1 d (.xd [(at_, v)]))
section
variable {X : Cx} {C fI : Addr}
theorem pmk_x {x at_ : Str} {msg : Expr} {okV : V → Prop} {a : Expr} {ta : TA} {p pos : Pos} {k : Nat} (T : PySem.OwnX.Txt X.prog X.K at_ msg C fI) (gC : X.mg x = some (.ref C)) (kC : PySem.W.keepIn X.K (.ref C) = true) (exC : PySem.W.subIn X.K (.ref C) (.type "BaseException") = some true)
    (tyC : PySem.W.typeIn X.K (.ref C) = some (.type "type")) (gs : X.mg "super" = none) (hmsg : ∀ v u, okV v → RelV v u → PySem.OwnX.MsgOk X.prog X.w at_ msg u) (hr : Room k X.A) (ha : PA X [a] ta) (hg : Gl X x) (hdb : (x == ("__debug__" : Str)) = false := by decide)
    (he : starEach (a :: []) X.env = (false, eval a X.env) :: starEach [] X.env := by rfl) (hpl : (backTo pos (starEach [] X.env)).any (·.1) = false := by rfl) :
    PMk X (.Call (.Name x p) [a] [] pos) (tMkX C at_ okV ta) := by
  intro pins s σ H Q I h
  refine wpAny_Call_Name_kw (ld_glob I hg gC ?_ hdb)
  refine PySem.W.callWith_K (h₀ := X.base) I.ok.mod.kin kC (thn (ha.run pos pins s σ H _ I h) fun us s1 hh => ?_) he hpl
  obtain ⟨vs, H1, I1, r1, v, ev, hok, q1⟩ := hh
  subst ev
  refine ⟨I1.kIn, ?_⟩
  cases r1 with
  | cons rv rn =>
    rename_i v' us'
    cases rn
    show wpAny _ _ (call (.ref C) [v']) _ _ _
    have hlim := I1.nolimit
    have hG := I1.ok.mod.glob.keeps I1.bk
    obtain ⟨mb, hB0, hblt⟩ := I1.ok.mod.blt
    have hB := hB0.keeps I1.bk
    obtain ⟨hp, g, dr, tk, os⟩ := s1
    refine wpAny_call (PySem.OwnX.own_made T I1.kIn hlim hG gs hB hblt (by have := hr.dp; omega) (hmsg v v' hok rv) fun h' tk' e d M => ?_)
    show MkP X pins σ Q (.ref e) ⟨h', g, dr, tk', os⟩
    obtain ⟨oe, fv, hoe, hc, hd, hdat, h1⟩ := M.obj
    have hns := M.ns
    obtain ⟨G', g1, g2⟩ := restrict h' fun b => decide (b ≠ e)
    have gk : ∀ b, b ≠ e → G'.get? b = h'.get? b := fun b hb => g1 b (decide_eq_true hb)
    have ge : G'.get? e = none := g2 e (by simp)
    have old : ∀ b o, hp.get? b = some o → G'.get? b = some o := fun b o q => (gk b (Nat.ne_of_lt (Nat.lt_of_lt_of_le (Heap.lt_size q) M.new))).trans (M.keep b o q)
    have ob : ObjOk X.prog X.w (upd H1 d (.xd [(at_, v)])) G' d (.xd [(at_, v)]) :=
      ⟨_, hns.at (fun o q => (gk d M.dne).trans q), fun f => relO_at rv f⟩
    have J : Inv X pins σ (upd H1 d (.xd [(at_, v)])) ⟨G', g, dr, tk', os⟩ := I1.laid (t' := tk') old M.dbig ob
    refine ⟨e, oe, fv, ⟨G', g, dr, tk', os⟩, _, .ref C, some d, rfl, J, fun b o q => ?_, ge, hoe, ⟨hc, hd⟩, hdat, h1, ?_, rfl, I1.bare, raises_own exC tyC, q1 d (I1.hok.fresh M.dbig)⟩
    · by_cases hb : b = e
      · have q' : G'.get? b = some o := q
        rw [hb, ge] at q'; cases q'
      · exact (gk b hb).symm.trans q
    · rw [upd_ne (Ne.symm M.dne)]
      exact I1.hok.fresh M.new
def tRaiseX (C : Addr) (at_ : Str) (okV : V → Prop) (W : WX) (ta : TA) : TS := fun _ σ H => tMkX C at_ okV ta σ H fun cls d H' => W cls d σ H'
theorem ps_raiseX {x at_ : Str} {msg : Expr} {okV : V → Prop} {a : Expr} {ta : TA} {W : WX} {p pos pos2 : Pos} {k : Nat} (hc : X.calm = true) (tk : Takes X W) (T : PySem.OwnX.Txt X.prog X.K at_ msg C fI) (gC : X.mg x = some (.ref C)) (kC : PySem.W.keepIn X.K (.ref C) = true) (exC : PySem.W.subIn X.K (.ref C) (.type "BaseException") = some true)
    (tyC : PySem.W.typeIn X.K (.ref C) = some (.type "type")) (gs : X.mg "super" = none) (hmsg : ∀ v u, okV v → RelV v u → PySem.OwnX.MsgOk X.prog X.w at_ msg u) (hr : Room k X.A) (ha : PA X [a] ta) (hg : Gl X x) (hdb : (x == ("__debug__" : Str)) = false := by decide)
    (he : starEach (a :: []) X.env = (false, eval a X.env) :: starEach [] X.env := by rfl) (hpl : (backTo pos (starEach [] X.env)).any (·.1) = false := by rfl) :
    PS X (.Raise (some (.Call (.Name x p) [a] [] pos)) none pos2) (tRaiseX C at_ okV W ta) := ps_raise hc tk (pmk_x T gC kC exC tyC gs hmsg hr ha hg hdb he hpl)
end
def fmtI (v : V) : Prop := ∃ i : Int, v = .int i ∧ i.natAbs.log2 < 1920
section
variable {prog : Program} {w : World} {at_ : Str}
theorem msg_part {A : Around} {env : Env} {s : Shared} {m : Str → Option Value} {Q : Value → Shared → Prop} {E : Value → Shared → Prop} {i : Int} {t : Tok} {p1 p2 : Pos} (hk : env.scope.kind = .function) (hl : env.kindOf at_ = some .local) (hn : s.heap.Ns env.locals m) (hv : m at_ = some (.int i t)) (hd : (at_ == ("__debug__" : Str)) = false)
    (hb : i.natAbs.log2 < 1920) (q : Q (.str (toString i) (s.toks + 1)) { s with toks := s.toks + 1 + 1 }) : wpAny (model prog w) A (eval (.FormattedValue (.Name at_ p1) (-1) none p2) env) Q E s :=
  wpAny_FormattedValue_plain (PySem.ESX.ldL hn hv (wpAny_formatField_int hb q) hk hl hd)
theorem msg_3 {a b : Str} {j1 j2 : Nat} {p0 p1 p2 p3 p4 : Pos} (hd : (at_ == ("__debug__" : Str)) = false) (la : a.length ≤ 1000) (lb : b.length ≤ 1000) (v : V) (u : Value) (hv : fmtI v) (r : RelV v u) :
    PySem.OwnX.MsgOk prog w at_ (.JoinedStr [.Constant (.str a) j1 p1, .FormattedValue (.Name at_ p2) (-1) none p3, .Constant (.str b) j2 p4] p0) u := by
  obtain ⟨i, rfl, hb⟩ := hv
  obtain ⟨t, rfl⟩ := r
  intro A env s m Q E hk hl hn hm q
  have l1 := PyProof.Rows.int_text_len_1921 hb
  refine wpAny_JoinedStr ?_
  refine Calls.Constant_str ⟨a, _, rfl, ?_, ?_⟩
  · rw [PySem.Str.length_append]
    exact Nat.le_trans (show Str.empty.length + a.length ≤ 5000 by show 0 + a.length ≤ 5000; omega) (by decide)
  refine msg_part hk hl hn hm hd hb ⟨_, _, rfl, ?_, ?_⟩
  · rw [PySem.Str.length_append, PySem.Str.length_append]
    exact Nat.le_trans (show Str.empty.length + a.length + _ ≤ 5000 by show 0 + a.length + _ ≤ 5000; omega) (by decide)
  refine Calls.Constant_str ⟨b, _, rfl, ?_, ?_⟩
  · rw [PySem.Str.length_append, PySem.Str.length_append, PySem.Str.length_append]
    exact Nat.le_trans (show Str.empty.length + a.length + _ + b.length ≤ 5000 by show 0 + a.length + _ + _ ≤ 5000; omega) (by decide)
  refine ⟨?_, q _ s.heap _ fun _ _ e => e⟩
  rw [PySem.Str.length_append, PySem.Str.length_append, PySem.Str.length_append]
  exact Nat.le_trans (show Str.empty.length + a.length + _ + b.length ≤ 5000 by show 0 + a.length + _ + _ ≤ 5000; omega) (by decide)
theorem msg_2 {a : Str} {j1 : Nat} {p0 p1 p2 p3 : Pos} (hd : (at_ == ("__debug__" : Str)) = false) (la : a.length ≤ 1000) (v : V) (u : Value) (hv : fmtI v) (r : RelV v u) :
    PySem.OwnX.MsgOk prog w at_ (.JoinedStr [.Constant (.str a) j1 p1, .FormattedValue (.Name at_ p2) (-1) none p3] p0) u := by
  obtain ⟨i, rfl, hb⟩ := hv
  obtain ⟨t, rfl⟩ := r
  intro A env s m Q E hk hl hn hm q
  have l1 := PyProof.Rows.int_text_len_1921 hb
  refine wpAny_JoinedStr ?_
  refine Calls.Constant_str ⟨a, _, rfl, ?_, ?_⟩
  · rw [PySem.Str.length_append]
    exact Nat.le_trans (show Str.empty.length + a.length ≤ 5000 by show 0 + a.length ≤ 5000; omega) (by decide)
  have z : (Str.empty ++ a ++ (toString i : Str)).length ≤ sizeLine := by
    rw [PySem.Str.length_append, PySem.Str.length_append]
    exact Nat.le_trans (show Str.empty.length + a.length + _ ≤ 5000 by show 0 + a.length + _ ≤ 5000; omega) (by decide)
  exact msg_part hk hl hn hm hd hb ⟨_, _, rfl, z, z, q _ s.heap _ fun _ _ e => e⟩
end
end L2
namespace PyT
open PySem PySem.Spec PyProof.Rows L2
abbrev Cl := Value × Nat × (Addr → Value → Option Addr → TS)
/-- behind a clause's suite its name is gone -/
def gone (D : Ends) (i : Nat) : Ends := { nx := fun τ J => D.nx (τ.set i none) J, rt := D.rt, bk := fun τ J => D.bk (τ.set i none) J, ct := fun τ J => D.ct (τ.set i none) J }
def wCls (K : PySem.W.Frag) (Wout : WX) (D : Ends) : List Cl → WX
  | [] => Wout
  | (c, i, ts) :: r => fun cls d τ J => ∃ hit, PySem.W.exmOne K cls c = some hit ∧ (hit = true → ∀ a, J a = none → ts a cls d (gone D i) (τ.set i (some (.ref a))) J) ∧ (hit = false → wCls K Wout D r cls d τ J)
inductive ClsOk (X : Cx) : List ExceptHandler → List Cl → Prop
  | nil : ClsOk X [] []
  | cons {x n : Str} {i : Nat} {c : Value} {ts : Addr → Value → Option Addr → TS} {b0 : Stmt} {suite : List Stmt} {np ph : Pos} {hds : List ExceptHandler} {l : List Cl} (hc : Names X x c) (hi : X.N[i]? = some n) (hln : X.env.kindOf n = some .local)
      (hsu : ∀ (a : Addr) (oe : Obj) (cls : Value) (d : Option Addr) (pn : List (Addr × Obj)), Zc cls d oe → (∃ vs, oe.data = .fields vs) → PSs (X.suite a ((a, oe) :: pn)) (b0 :: suite) (ts a cls d)) (r : ClsOk X hds l) :
      ClsOk X (.ExceptHandler (some (.Name x np)) (some n) (b0 :: suite) ph :: hds) ((c, i, ts) :: l)
section
variable {X : Cx} {pins : List (Addr × Obj)} {D : Ends} {a : Addr} {cls : Value} {d : Option Addr} {τ : L2.St} {J0 : Hp}
/-- a suite's end -/
theorem suite_end {n : Str} {i : Nat} {q : Addr × Obj} {ph : Pos} {f : Flow} {s6 : Shared} {pn : List (Addr × Obj)} (ok : X.Ok) (hN : X.N.Nodup) (hi : X.N[i]? = some n) (hln : X.env.kindOf n = some .local)
    (un : ∀ {τ' : L2.St} {J' : Hp}, Inv (X.suite a pn) [] τ' J' s6 → Inv X pins τ' J' s6) (h : SP (X.suite a pn) [] (gone D i) f s6) :
    wpAny (model X.prog X.w) X.A (do bindName X.env n .none; unbindBehindTheSuite X.env n ph) (fun _ s7 => SP X pins D f s7) X.xe s6 := by
  cases f with
  | ret u =>
    obtain ⟨v6, τ6, J6, S6, r6, q6⟩ := h
    exact gone_ok (un S6) hN hi hln fun s7 I7 => ⟨v6, _, _, I7, r6, q6⟩
  | next =>
    obtain ⟨τ6, J6, S6, q6⟩ := h
    exact gone_ok (un S6) hN hi hln fun s7 I7 => ⟨_, _, I7, q6⟩
  | brk =>
    obtain ⟨τ6, J6, S6, q6⟩ := h
    exact gone_ok (un S6) hN hi hln fun s7 I7 => ⟨_, _, I7, q6⟩
  | cont =>
    obtain ⟨τ6, J6, S6, q6⟩ := h
    exact gone_ok (un S6) hN hi hln fun s7 I7 => ⟨_, _, I7, q6⟩
end
section
variable {X : Cx} {body : List Stmt} {h0 : ExceptHandler} {hds : List ExceptHandler} {l : List Cl} {pos : Pos} {tb : WX → TS} {Wout : WX}
/-- what is known of an error that has landed, the clauses ahead of it -/
structure Land (X : Cx) (Wout : WX) (pins : List (Addr × Obj)) (B hB : Heap) (sI s' : Shared) (a : Addr) (cls : Value) (d : Option Addr) (τ : L2.St) (J : Hp) : Prop where
  inv : Inv X pins τ J sI
  go : ∀ h, HandSPX.FlyingZ B (X.env :: X.outer) a (Zc cls d) h → hB.UpToSlots h → Inv X pins τ J { s' with heap := h }
  na : J a = none
  nL : a ≠ X.env.locals
  nF : a ∉ X.fs
  up : ∀ h, HandSPX.HeldZ B (X.env :: X.outer) a (Zc cls d) X.env.locals h → hB.UpToSlots h → Wout cls d τ J → X.xe (.ref a) { s' with heap := h }
theorem run_clauses {D : Ends} {pins : List (Addr × Obj)} {B hB : Heap} {sI s' : Shared} {a : Addr} {cls : Value} {d : Option Addr} {τ : L2.St} {J : Hp} (hN : X.N.Nodup) (hf : X.env.frame = some X.env.locals) (ok : X.Ok) : ∀ {hs : List ExceptHandler} {l : List Cl}, ClsOk X hs l →
    ∀ {h : Heap}, Land X Wout pins B hB sI s' a cls d τ J → hB.UpToSlots h → HandSPX.FlyingZ B (X.env :: X.outer) a (Zc cls d) h → wCls X.K Wout D l cls d τ J →
      wpAny (model X.prog X.w) X.A (handleBy (.ref a) X.env hs) (SP X pins D) X.xe { s' with heap := h } := by
  intro hs l hk
  induction hk with
  | nil =>
    intro h Ld uh fl w
    refine wpAny_handleBy_nil ?_
    obtain ⟨_, _, _, ox, vx, T, oT, tx, ex, zx, dx, e1, er⟩ := id fl
    unfold PySem.passOn
    refine wpAny_bind (wpAny_field ex dx e1 ?_)
    have tn : ¬ ((Value.ref T == Value.none) = true) := by simp
    rw [if_neg tn]
    have out : wpAny (model X.prog X.w) X.A (setFlight (.ref a) X.env.frame) (fun _ s4 => wpAny (model X.prog X.w) X.A (throw (.ref a) : Sem Flow) (SP X pins D) X.xe s4) X.xe { s' with heap := h } := by
      rw [hf]
      exact HandSPX.setFlight_upZ fl fun h4 hh4 u4 => wpAny_throw (Ld.up h4 hh4 (uh.trans u4) w)
    first
      | exact wpAny_bind (wpAny_pure (wpAny_bind out))
      | exact wpAny_bind out
  | @cons x n i c ts b0 suite np ph hds l hc hi hln hsu r ih =>
    intro h Ld uh fl w
    obtain ⟨hit, hm, hyes, hno⟩ := w
    have I3 := Ld.go h fl uh
    obtain ⟨o3, v3, e3, z3, d3⟩ := fl.there
    have S3 := I3.suite e3 d3 Ld.na Ld.nL Ld.nF
    have tyL : PySem.W.Looks (model X.prog X.w) h (typeOf (.ref a)) cls := fun A Q E s k q => wpAny_typeOf_ref (k _ _ e3) (by rw [z3.1]; exact q)
    have LM := PySem.W.exm_one (M := model X.prog X.w) I3.kIn tyL hm
    refine wpAny_handleBy_cons (codeAny_handlers_test ?_) (by intro q; cases q)
    have named : ∀ {Q : Value → Shared → Prop} {E : Value → Shared → Prop}, Q c { s' with heap := h } → wpAny (model X.prog X.w) (X.A.mark (some (.ref a))) (eval (.Name x np) X.env) Q E { s' with heap := h } := fun {Q E} q => by
      obtain ⟨k1, k2, k3 | ⟨k3, k4, k5⟩⟩ := hc
      · exact ld_glob (X := X.suite a _) S3 k1 k3 q k2
      · exact ld_blt (X := X.suite a _) S3 k1 k3 k4 q k5 k2
    refine named (LM.here ?_)
    cases hit with
    | false => exact ih Ld uh fl (hno rfl)
    | true =>
      refine codeAny_handlers_suite_as ?_
      refine HandSPX.lands_againZ fl fun h4 fl4 u4 => ?_
      obtain ⟨o4, v4, e4, z4, d4⟩ := fl4.there
      have S4 := (Ld.go h4 fl4 (uh.trans u4)).suite e4 d4 Ld.na Ld.nL Ld.nF
      refine store_ok (X := X.suite a _) (v := .ref a) S4 hN hi (.inl hln) rfl (fun s5 S5 => ?_) (.inr hln)
      refine wpAny_mono ((hsu a o4 cls d _ z4 ⟨_, d4⟩).run [] s5 _ J (gone D i) S5 (hyes rfl a Ld.na)) (fun f s6 h6 => ?_) (fun _ _ z => False.elim z)
      exact suite_end (q := (a, o4)) ok hN hi hln (fun I => I.unsuite ok) h6
theorem ps_try_cls (hs : X.stack = X.env :: X.outer) (hf : X.env.frame = some X.env.locals) (hN : X.N.Nodup) (tk : Takes X Wout)
    (hb : ∀ (W : WX) (pn : List (Addr × Obj)) (xe : Value → Shared → Prop), Takes (X.tr pn xe) W → PassesOwn (model X.prog X.w) X.A X.env xe → PSs (X.tr pn xe) body (tb W))
    (hh : ClsOk X (h0 :: hds) l) : PS X (.Try body (h0 :: hds) [] [] pos) (fun D σ H => tb (wCls X.K Wout D l) D σ H) := by
  refine ⟨fun pins s σ H D I h => ?_⟩
  have ok := I.ok
  have hfr : X.A.frames = some (X.env :: X.outer) := by rw [ok.frames, hs]
  let xe' : Value → Shared → Prop := fun e s1 => wpAny (model X.prog X.w) X.A (noteFrame e X.env) (fun _ s2 => wpAny (model X.prog X.w) X.A (setFlight e none) (fun _ s3 => wpAny (model X.prog X.w) X.A (handleBy e X.env (h0 :: hds)) (SP X pins D) X.xe s3) X.xe s2) X.xe s1
  have taken : Takes (X.tr (X.pn ++ pins) xe') (wCls X.K Wout D l) := by
    intro u s' xx
    obtain ⟨a, B, sI, pins', τ, J, cls, d, rfl, I0, nb, up, sky, na, os, ag, w⟩ := xx
    have I1 : Inv X pins τ J sI := I0.ofTry ok
    have sky1 : Sky B (X.env :: X.outer) a (Zc cls d) X.env.locals s'.heap := by rw [← hs]; exact sky
    show wpAny (model X.prog X.w) X.A (noteFrame (.ref a) X.env) _ _ _
    refine Sky.land Zc.steady hfr hf sky1 fun h3 fl3 up3 => ?_
    obtain ⟨o3, v3, e3, z3, d3⟩ := fl3.there
    have away : a ∉ frs (X.env :: X.outer) := fun hm => by
      obtain ⟨_, o', e', hnf⟩ := fl3.2.2.1.mem hm
      rw [e3] at e'
      cases e'
      exact hnf _ d3
    have nL : a ≠ X.env.locals := fun z => away (List.mem_filterMap.mpr ⟨X.env, List.mem_cons_self, by rw [hf, z]⟩)
    have nF : a ∉ X.fs := fun hm => by
      obtain ⟨e, he, q⟩ := List.mem_filterMap.mp hm
      exact away (List.mem_filterMap.mpr ⟨e, List.mem_cons_of_mem _ he, q⟩)
    refine run_clauses (B := B) (hB := s'.heap) (sI := sI) (s' := s') hN hf ok hh ⟨I1, fun h fl u => I1.landed nb fl.1 (up.trans u) os ag, na, nL, nF, fun h hh u w => tk _ _ ?_⟩ up3 fl3 w
    exact ⟨a, B, sI, pins, τ, J, cls, d, rfl, I1, nb, up.trans u, .inr (.inr (by rw [hs]; exact hh)), na, os, ag, w⟩
  refine wpAny_Try_except (wpAny_mono ((hb _ (X.pn ++ pins) xe' taken PassesOwn.looking).run [] s σ H D (I.toTry _) h) (fun f s1 h1 => ?_) fun e s1 z => z)
  cases f with
  | next =>
    obtain ⟨τ, J, I1, q⟩ := h1
    exact wpAny_execs_nil ⟨τ, J, I1.ofTry ok, q⟩
  | brk =>
    obtain ⟨τ, J, I1, q⟩ := h1
    exact ⟨τ, J, I1.ofTry ok, q⟩
  | cont =>
    obtain ⟨τ, J, I1, q⟩ := h1
    exact ⟨τ, J, I1.ofTry ok, q⟩
  | ret u =>
    obtain ⟨v, τ, J, I1, r, q⟩ := h1
    exact ⟨v, τ, J, I1.ofTry ok, r, q⟩
end
end PyT
namespace PyE
open PySem PySem.Spec PySem.Calls PyProof.Rows PySem.W
section
variable {prog : Program} {w : World} {A : Around} {E : Value → Shared → Prop} {s : Shared} {K : Frag} {x D : Addr} {ox od : Obj}
theorem find_data {C : Addr} {od : Option Obj} {nm : Str} {a g : Value} (h1 : (clsIn K C).isSome = true) (h2 : findIn K (.ref C) nm = some (some a)) (h3 : specialIn K a "__get__" = some (some g)) (h4 : takesIn K a = some true) : findObj K C od nm = some (.bind g a) := by
  obtain ⟨cd, h1⟩ := Option.isSome_iff_exists.mp h1
  unfold findObj
  rw [h1, Option.bind_some, h2, Option.bind_some]
  simp [h3, h4]
theorem cls_of_exc {Q : Option Value → Shared → Prop} (T : L2.ExcC K D) (X : K.In s.heap) (I : InstAt s.heap x ox D (some od)) (q : Q (some (.ref D)) { s with toks := s.toks + 1 }) : wpAny (model prog w) A (getAttr? (.ref x) "__class__") Q E s := by
  have hf : findObj K D (some od) "__class__" = some (.bind (.builtin "getset_descriptor.__get__") (.builtin "object.__class__")) := find_data (by obtain ⟨cd, z, _⟩ := any_some T.hd; rw [z]; rfl) T.ha T.hn T.ht
  obtain ⟨hp, g, dd, t, os⟩ := s
  have ty := I.type (M := model prog w)
  have ga := looks_findIn (M := model prog w) X T.hg
  have gt := looks_findIn (M := model prog w) X T.hk
  have fd := looks_find (M := model prog w) X I hf
  have isx : Looks (model prog w) hp (isInstance (.ref x) (.type "BaseException")) true := ty.andThen (looks_subIn X T.hs)
  have no0 : (false && onTheHeap (Value.builtin "BaseException.__getattribute__")) = false := rfl
  have no1 : (Value.builtin "BaseException.__getattribute__" == Value.builtin "object.__getattribute__") = false := by decide +kernel
  have no2 : (onTheHeap (Value.ref D) && Value.builtin "BaseException.__getattribute__" == Value.builtin "object.__getattribute__") = false := by rw [no1]; rfl
  unfold getAttr? getAttrBy? getAttrBy
  refine wpAny_bind (wpAny_mkText (wpAny_bind (wpAny_attempt (wpAny_holding (wpAny_bind (ty.at (wpAny_bind (ga.at ?_))))))))
  show wpAny _ _ (if (onTheHeap (Value.ref D) && Value.builtin "BaseException.__getattribute__" == Value.builtin "object.__getattribute__") = true then _ else _) _ _ _
  rw [no2, if_neg Bool.false_ne_true]
  unfold getAttrByItsOwn hookBefore
  refine wpAny_bind ?_
  rw [if_pos (show onTheHeap (Value.ref D) = true from rfl)]
  refine gt.at ?_
  refine wpAny_bind (wpAny_attempt (wpAny_holding ?_))
  unfold callGetattribute
  rw [no0, if_neg Bool.false_ne_true]
  unfold boundAndCalled
  rw [PySem.F.excAttr_ValueError.ga.bind (.ref x)]
  refine wpAny_bind (wpAny_pure ?_)
  show wpAny _ _ (call (.builtin "BaseException.__getattribute__") [.ref x, .str "__class__" t]) _ _ _
  refine wpAny_call (codeAny_call_builtin PySem.F.excAttr_ValueError.ga.plain PySem.F.entry_bexc_ga ?_)
  refine @check_slot (model prog w) _ _ ⟨hp, g, dd, t + 1, os⟩ "BaseException.__getattribute__" "BaseException" "__getattribute__" (.ref x) [.str "__class__" t] [] _ (by decide +kernel) (by decide +kernel) isx (PySem.F.args_bexc_ga (.ref x) (.str "__class__" t)) ?_
  unfold Builtin.«object.__getattribute__»
  refine wpAny_bind (wpAny_of_eq (a := ((Value.ref x : Value), [Value.str "__class__" t])) (by first | rfl | (simp only [slotArgs]; rfl)) ?_)
  refine wpAny_bind (wpAny_pure (wpAny_bind (ty.at (wpAny_bind (fd.at ?_)))))
  show wpAny _ _ (holding [Value.builtin "object.__class__"] (call (.builtin "getset_descriptor.__get__") [.builtin "object.__class__", .ref x, .ref D]) >>= ret) _ _ _
  refine wpAny_bind (wpAny_holding (wpAny_call (class_get (s := ⟨hp, g, dd, t + 1, os⟩) (ox := ox) (od := some od) X I T.hm ?_)))
  refine wpAny_pure ?_
  show wpAny _ _ (handedOut (.ref D)) _ _ _
  rw [handedOut_of (v := .ref D) rfl]
  first
    | exact wpAny_pure (wpAny_pure q)
    | exact wpAny_pure q
    | exact wpAny_pure (wpAny_bind (wpAny_pure (wpAny_pure q)))
theorem kitx (T : L2.ExcC K D) : KitX K (.ref x) (.ref D) (fun h => InstAt h x ox D (some od)) where
  ty := fun _ _ _ I => I.type
  it := fun _ _ X _ => by
    obtain ⟨cdD, hcD, _⟩ := any_some T.hd
    unfold clsIn at hcD
    split at hcD
    · rename_i c' d' cd' sl' ho
      intro A' Q' E' s' k q
      unfold isType loadHead
      exact wpAny_bind (wpAny_loadPart (k _ _ (X _ _ ho)) (wpAny_pure q))
    · cases hcD
  ne := fun h tp dd its n sl X htp => by
    obtain ⟨cdD, hcD, _⟩ := any_some T.hd
    refine Bool.eq_false_iff.mpr fun q => ?_
    have e : D = tp := Value.ref.inj (beq_iff_eq.mp q)
    subst e
    unfold clsIn at hcD
    split at hcD
    · rename_i c' d' cd' sl' ho
      have z := (X _ _ ho).symm.trans htp
      cases z
    · cases hcD
  ca := fun X I k => cls_of_exc T X I k
end
end PyE
namespace PyE
open PySem PySem.Spec PyProof.Rows L2 PyD PyT
/-- isinstance(e, c): e what the suite holds, of the class cls, with the dict d -/
def rIsX (K : PySem.W.Frag) (a : Addr) (cls : Value) (d : Option Addr) : List V → Hp → VK → Prop := fun xs H Q => ∃ (D dd : Addr) (fs : List (Str × V)) (c : V) (cv : Value) (b : Bool), cls = .ref D ∧ d = some dd ∧ H dd = some (.xd fs) ∧ ExcC K D ∧ xs = [.ref a, c] ∧ (∀ u, RelV c u → u = cv) ∧ PySem.W.kitOne K (.ref D) cv = some b ∧ Q (.bl b) H
theorem call_isX {X : Cx} {a : Addr} {cls : Value} {d : Option Addr} {oe : Obj} {pn : List (Addr × Obj)} (hz : Zc cls d oe) (hf : ∃ vs, oe.data = .fields vs) : CallR (X.suite a ((a, oe) :: pn)) (.builtin "isinstance") (rIsX X.K a cls d) := by
  intro pins s σ H xs us Q I r h
  obtain ⟨D, dd, fs, c, cv, b, rfl, rfl, hdd, C, rfl, hcv, e, q⟩ := h
  cases r with
  | cons rx rr =>
    cases rr with
    | cons rt rr =>
      cases rr
      cases rx
      have ec := hcv _ rt
      subst ec
      obtain ⟨hget, _⟩ := I.pin (a, oe) (List.mem_append.mpr (.inl List.mem_cons_self))
      obtain ⟨vs, hv⟩ := hf
      have hx : ObjOk X.prog X.w H s.heap dd (.xd fs) := I.hok dd _ hdd
      obtain ⟨mA, hns, _⟩ := hx
      obtain ⟨od, ho, _⟩ := lookIn_ns hns
      have J : PySem.W.InstAt s.heap a oe D (some od) := ⟨hget, hz.1, by unfold PySem.W.notCls; rw [hv] <;> rfl, by rw [hz.2]; exact ho⟩
      exact PySem.W.kia_one (kitx C) I.kIn J e (fun z => nomatch z) fun tk => ⟨.bl b, H, I.kept (t' := tk) fun _ _ z => z, rfl, q⟩
def tTry (K : PySem.W.Frag) (Wout : WX) (l : List Cl) (tb : WX → TS) : TS := fun D σ H => tb (wCls K Wout D l) D σ H
section
variable {K : PySem.W.Frag} {W : WX} {ex : Ek} {G : Gm} {O : Ow} {P : D → Ow → Prop} {E : EnD} {ta te : TE} {t u : TS} {aa : TA}
theorem wpS_raise {C : Addr} {at_ : Str} {okV : V → Prop} (h : wpA K W ex aa G O fun ds O1 => ∃ d, ds = [d] ∧ (∀ F v, Rp K F d v → okV v) ∧ ex ⟨C, [(at_, d)]⟩ G O1) : wpS K W ex (tRaiseX C at_ okV W aa) G O E := fun Z F H σ X S s D0 q =>
  h Z F H σ X S s _ fun ds vs F1 H1 O1 S1 e1 r1 ⟨d, hd, hok, he⟩ => by
    subst hd
    cases r1 with
    | cons rv rn =>
      cases rn
      refine ⟨_, rfl, hok _ _ rv, fun dd hdd => ?_⟩
      have nF := S1.ex.none hdd
      refine X ⟨C, [(at_, d)]⟩ (some dd) _ _ σ G O1 (e1.trans (Ex.new nF)) (S1.frz _ hdd) (s.mono (e1.trans (Ex.new nF))) (fun a => ?_) he
      exact .exc1 upd_same rfl (.cons (rv.mono (Ex.new nF)) .nil)
def goneE (E : EnD) (i : Nat) : EnD := { nx := fun G O => E.nx (G.set i none) O, rt := E.rt, bk := fun G O => E.bk (G.set i none) O, ct := fun G O => E.ct (G.set i none) O }
/-- what becomes of an exception at the clauses -/
def exCls (K : PySem.W.Frag) (W : WX) (ex : Ek) (E : EnD) : List Cl → Ek
  | [] => ex
  | (c, i, ts) :: r => fun x G O => ∃ hit, PySem.W.exmOne K (.ref x.cls) c = some hit ∧ (hit = true → ∀ a d, wpS K W ex (ts a (.ref x.cls) d) (G.set i (some (.exc a x.cls d x.fs))) O (goneE E i)) ∧ (hit = false → exCls K W ex E r x G O)
theorem exCls_ok {Z : En0} {F : Hp} {D0 : Ends} (X : XOk K Z F ex W) (q : EnOk K Z F E D0) : ∀ l : List Cl, XOk K Z F (exCls K W ex E l) (wCls K W D0 l)
  | [] => X
  | (c, i, ts) :: r => fun x d F1 H σ G O e1 S s xr h => by
    obtain ⟨hit, h1, h2, h3⟩ := h
    refine ⟨hit, h1, fun hh a _ => ?_, fun hh => exCls_ok X q r x d F1 H σ G O e1 S s xr (h3 hh)⟩
    exact h2 hh a d Z F1 H _ (X.mono e1) S (s.set (xr a)) _ ⟨fun F2 H2 σ2 G2 O2 e2 S2 s2 p2 => q.nx F2 H2 _ _ O2 (e1.trans e2) S2 s2.unset p2, (q.mono e1).rt, fun F2 H2 σ2 G2 O2 e2 S2 s2 p2 => q.bk F2 H2 _ _ O2 (e1.trans e2) S2 s2.unset p2,
      fun F2 H2 σ2 G2 O2 e2 S2 s2 p2 => q.ct F2 H2 _ _ O2 (e1.trans e2) S2 s2.unset p2⟩
theorem wpS_try {l : List Cl} {tb : WX → TS} (h : ∀ W', wpS K W' (exCls K W ex E l) (tb W') G O E) : wpS K W ex (tTry K W l tb) G O E := fun Z F H σ X S s D0 q => h _ Z F H σ (exCls_ok X q l) S s D0 q
/-- a caught error's attribute -/
theorem wpE_xf {a C C' : Addr} {cls : Value} {d : Option Addr} {f : Str} {fs : List (Str × D)} (hc : cls = .ref C) (h : wpE K W ex te G O fun x O1 => x = .exc a C' d fs ∧ ∃ v, fs.lookup f = some v ∧ P v O1) : wpE K W ex (tXf a cls d C f te) G O P := fun Z F H σ X S s Q q =>
  h Z F H σ X S s _ fun x vx F1 H1 O1 S1 e1 r1 ⟨hx, v, hl, p⟩ => by
    subst hx
    have look : ∀ {fs : List (Str × D)} {gs : List (Str × V)}, fs.map (·.1) = gs.map (·.1) → Rps K F1 (fs.map (·.2)) (gs.map (·.2)) → ∀ {v}, fs.lookup f = some v → ∃ u, gs.lookup f = some u ∧ Rp K F1 v u := by
      intro fs
      induction fs with
      | nil => intro gs _ _ v hv; cases hv
      | cons p fs ih =>
        intro gs e r v hv
        cases gs with
        | nil => cases e
        | cons g gs =>
          rw [List.map_cons, List.map_cons, List.cons.injEq] at e
          cases r with
          | cons ra rb =>
            obtain ⟨k, dv⟩ := p
            obtain ⟨k2, gv⟩ := g
            obtain ⟨e1, e2⟩ := e
            dsimp only at e1
            subst e1
            rw [List.lookup_cons] at hv ⊢
            cases hk : f == k with
            | true =>
              rw [hk] at hv
              cases hv
              exact ⟨gv, rfl, ra⟩
            | false =>
              rw [hk] at hv
              exact ih e2 rb hv
    cases r1 with
    | exc0 => cases hl
    | exc1 h1 h2 h3 =>
      obtain ⟨u, hu, ru⟩ := look h2 h3 hl
      exact ⟨rfl, hc, _, _, u, rfl, S1.ex _ _ h1, hu, q v u F1 H1 O1 S1 e1 ru p⟩
end
end PyE
namespace PyH
open PySem PySem.Spec PyProof.Rows L2 PySem.HandSPX
def cellB (K : PySem.W.Frag) (a C : Addr) : Bool := match K.lookup a with
  | some ⟨_, _, .cell (some (.ref b)), _⟩ => decide (b = C)
  | _ => false
abbrev FnI : Type := Option (Str × Str × Arguments × FuncBody × Scope × Addr × List (Str × Bool) × Addr)
/-- an own exception class: its name, its attribute, its __init__ -/
structure ExD where
  x : Str
  at_ : Str
  qual : Str
  st : Stmt
abbrev iAd (K : PySem.W.Frag) (x : Str) : Addr := He.ma K (He.ga K x) "__init__"
def initW (K : PySem.W.Frag) (x : Str) : FnI := match K.lookup (iAd K x) with
  | some ⟨_, _, .func fd, _⟩ => some (fd.name, fd.qualname, fd.params, fd.body, fd.scope, fd.globals, fd.closure.map fun q => (q.1, cellB K q.2 (He.ga K x)), fd.builtins)
  | _ => none
def ExD.val (d : ExD) : FnI := some ("__init__", d.qual, defArgs d.st, .stmts (defBody d.st), defScope d.st, mainGlobals, [("__class__", true)], builtinsNs)
def noneB : Value → Bool
  | .none => true
  | _ => false
theorem noneB_ok {v : Value} (h : noneB v = true) : v = .none := by
  cases v <;> first | rfl | cases h
def fileB (K : PySem.W.Frag) (cd : Value) (file : Str) : Bool := match cd with
  | .ref c => (match K.lookup c with
    | some ⟨_, _, .fields vs, _⟩ => (match (vs[2]? : Option Value) with
      | some (.str f _) => decide (file = f)
      | _ => false)
    | _ => false)
  | _ => false
theorem fileB_ok {K : PySem.W.Frag} {cd : Value} {file : Str} (h : fileB K cd file = true) : ∃ (c : Addr) (ccl : Value) (cdd : Option Addr) (vs : Array Value) (ccs : Array (Option Value)) (tf : Tok), cd = .ref c ∧ K.lookup c = some ⟨ccl, cdd, .fields vs, ccs⟩ ∧ vs[2]? = some (.str file tf) := by
  unfold fileB at h
  cases cd with
  | ref c =>
    dsimp only at h
    cases q : K.lookup c with
    | none => rw [q] at h; cases h
    | some o =>
      obtain ⟨ccl, cdd, dt, ccs⟩ := o
      rw [q] at h
      cases dt with
      | fields vs =>
        dsimp only at h
        cases e : vs[2]? with
        | none => rw [e] at h; cases h
        | some v =>
          rw [e] at h
          cases v with
          | str f tf =>
            have hf : file = f := of_decide_eq_true h
            subst hf
            exact ⟨c, ccl, cdd, vs, ccs, tf, rfl, q, e⟩
          | _ => cases h
      | _ => cases h
  | _ => cases h
def clsB (K : PySem.W.Frag) (C : Addr) : Bool := match K.lookup C with
  | some ⟨.type "type", _, .cls cd, sl⟩ => (match cd.mro, sl.toList with
    | .ref C' :: bm, [_, _, _, _, some (.builtin n), _] => decide (C' = C) && (decide (n = "ValueError.__new__") && (!cd.hasDel && (refsVE bm && cd.hasDict)))
    | _, _ => false)
  | _ => false
theorem clsB_ok {K : PySem.W.Frag} {C : Addr} (h : clsB K C = true) : ∃ nm q N bs bm sn sub ab col dd k0 k1 k2 k3 k5, K.lookup C = some (excClassObj nm q C N bs bm true sn sub ab col dd k0 k1 k2 k3 k5 "ValueError.__new__") ∧ refsVE bm = true := by
  unfold clsB at h
  split at h
  · rename_i dd cd sl ho
    split at h
    · rename_i C' bm k0 k1 k2 k3 n k5 hm hs
      obtain ⟨h1, h⟩ := He.ba h
      obtain ⟨h2, h⟩ := He.ba h
      obtain ⟨h3, h⟩ := He.ba h
      obtain ⟨h4, h5⟩ := He.ba h
      obtain rfl := of_decide_eq_true h1
      obtain rfl := of_decide_eq_true h2
      have h6 : cd.hasDel = false := by simpa using h3
      obtain ⟨nm, bs, mro, ns, qn, hd, sn, sub, ab, col, del⟩ := cd
      dsimp only at hm h6 h5
      subst hm h6 h5
      have hsl : sl = #[k0, k1, k2, k3, some (.builtin "ValueError.__new__"), k5] := by
        obtain ⟨l⟩ := sl
        simp only at hs
        rw [hs]
      subst hsl
      exact ⟨nm, qn, ns, bs, bm, sn, sub, ab, col, dd, k0, k1, k2, k3, k5, ho, h4⟩
    · cases h
  · cases h
def ExD.ok (file : Str) (K : PySem.W.Frag) (d : ExD) : Bool :=
  let C := He.ga K d.x
  let f := iAd K d.x
  clsB K C && (He.eqO (PySem.W.findIn K (.ref C) "__setattr__") (some (some (.builtin "object.__setattr__"))) && (He.eqO (PySem.W.findIn K (.ref C) d.at_) (some none) && (He.eqO (PySem.W.findIn K (.ref C) "__init__") (some (some (.ref f))) &&
  (decide (PySem.W.typeIn K (.ref f) = some (.type "function")) && (He.eqO (PySem.W.nsIn K cStatics "thirdparty.any") (some none) && (He.eqO (PySem.W.ks_superIn K C C "__init__") (some (some (.builtin "ValueError.__init__"))) &&
  (decide (PySem.W.subIn K (.ref C) (.type "ValueError") = some true) && (decide (PySem.W.mroIn K C (.ref C) = some true) && (match K.lookup f with
    | some ⟨_, _, .func fd, _⟩ => noneB fd.defaults && (noneB fd.kwdefaults && (PySem.W.codeIn K fd.code d.qual && fileB K fd.code file))
    | _ => false)))))))))
/-- an own exception class, as its instances are raised and asked -/
structure ExC2 (K : PySem.W.Frag) (C : Addr) (at_ : Str) : Prop where
  kp : PySem.W.keepIn K (.ref C) = true
  sb : PySem.W.subIn K (.ref C) (.type "BaseException") = some true
  ty : PySem.W.typeIn K (.ref C) = some (.type "type")
  xf : XfC K C
  ex : ExcC K C
  no : PySem.W.findIn K (.ref C) at_ = some none
def ex2B (K : PySem.W.Frag) (C : Addr) (at_ : Str) : Bool := PySem.W.keepIn K (.ref C) && (decide (PySem.W.subIn K (.ref C) (.type "BaseException") = some true) && (decide (PySem.W.typeIn K (.ref C) = some (.type "type")) && (xfB K C && (He.eqO (PySem.W.findIn K (.ref C) at_) (some none) &&
  (He.eqO (PySem.W.findIn K (.ref C) "__class__") (some (some (.builtin "object.__class__"))) && (He.eqO (PySem.W.specialIn K (.builtin "object.__class__") "__get__") (some (some (.builtin "getset_descriptor.__get__"))) && (decide (PySem.W.takesIn K (.builtin "object.__class__") = some true) && decide (PySem.W.mroIn K C (.type "object") = some true))))))))
theorem ex2B_ok {K : PySem.W.Frag} {C : Addr} {at_ : Str} (h : ex2B K C at_ = true) : ExC2 K C at_ := by
  obtain ⟨h1, h⟩ := He.ba h
  obtain ⟨h2, h⟩ := He.ba h
  obtain ⟨h3, h⟩ := He.ba h
  obtain ⟨h4, h⟩ := He.ba h
  obtain ⟨h5, h⟩ := He.ba h
  obtain ⟨h6, h⟩ := He.ba h
  obtain ⟨h7, h⟩ := He.ba h
  obtain ⟨h8, h9⟩ := He.ba h
  have x := xfB_ok h4
  exact ⟨h1, of_decide_eq_true h2, of_decide_eq_true h3, x, ⟨x.ga, x.gg, x.exC, x.hdC, He.eqO_ok h6, He.eqO_ok h7, of_decide_eq_true h8, of_decide_eq_true h9⟩, He.eqO_ok h5⟩
theorem ex_txt {prog : Program} {K : PySem.W.Frag} {d : ExD} {msg : Expr} {file : Str} {p1 p2 q0 q1 qq2 q3 q4 r1 r2 r3 r4 : Pos} (e : initW K d.x = d.val) (c : d.ok file K = true)
    (hA : defArgs d.st = OwnX.iA d.at_ p1 p2) (hB : defBody d.st = OwnX.iB d.at_ msg q0 q1 qq2 q3 q4 r1 r2 r3 r4) (hS : defScope d.st = OwnX.iS d.at_) (sup : OwnX.SupOk msg q0 q1 qq2 q3)
    (ok : (d.at_ == ("self" : Str)) = false ∧ (d.at_ == ("super" : Str)) = false ∧ (d.at_ == ("__class__" : Str)) = false ∧ (d.at_ == ("__debug__" : Str)) = false)
    (bnd : ∀ (qual : Str) (p1 p2 : Pos) (body : List Stmt) (doc pm : Value) (an : Option Addr) (cdv ct : Value) (cc : Addr) (a v : Value), bindArgs (PySem.W.fnX "__init__" qual (OwnX.iA d.at_ p1 p2) body (OwnX.iS d.at_) [("__class__", cc)] .none .none doc pm an cdv ct) ⟨[a, v], []⟩ = pure ([(("self" : Str), a), (d.at_, v)] : List (Str × Value)))
    (top : (prog.main.scope.names.lookup ("super" : Str)).isSome = false) (hfile : ((prog.main.file : Str) == file) = true) : OwnX.Txt prog K d.at_ msg (He.ga K d.x) (iAd K d.x) := by
  unfold ExD.ok at c
  obtain ⟨c1, c⟩ := He.ba c
  obtain ⟨c2, c⟩ := He.ba c
  obtain ⟨c3, c⟩ := He.ba c
  obtain ⟨c4, c⟩ := He.ba c
  obtain ⟨c5, c⟩ := He.ba c
  obtain ⟨c6, c⟩ := He.ba c
  obtain ⟨c7, c⟩ := He.ba c
  obtain ⟨c8, c⟩ := He.ba c
  obtain ⟨c9, c⟩ := He.ba c
  refine ⟨clsB_ok c1, He.eqO_ok c2, He.eqO_ok c3, He.eqO_ok c4, of_decide_eq_true c5, He.eqO_ok c6, He.eqO_ok c7, of_decide_eq_true c8, of_decide_eq_true c9, ok, bnd, top, ?_⟩
  unfold initW at e
  cases q : K.lookup (iAd K d.x) with
  | none => rw [q] at c; cases c
  | some o =>
    obtain ⟨oc, od, dt, osl⟩ := o
    rw [q] at c e
    cases dt with
    | func fd =>
      obtain ⟨n1, n2, n3, n4, n5, n6, n7, n8, n9, n10, n11, n12, n13, n14, n15⟩ := fd
      have e2 : (some (n1, n2, n3, n4, n5, n6, n7.map fun q => (q.1, cellB K q.2 (He.ga K d.x)), n15) : FnI) = (some ("__init__", d.qual, defArgs d.st, FuncBody.stmts (defBody d.st), defScope d.st, mainGlobals, [("__class__", true)], builtinsNs) : FnI) := e
      simp only [Option.some.injEq, Prod.mk.injEq] at e2
      obtain ⟨h1, h2, h3, h4, h5, h6, h7, h8⟩ := e2
      subst h1 h2 h3 h4 h5 h6 h8
      obtain ⟨k1, k⟩ := He.ba c
      obtain ⟨k2, k⟩ := He.ba k
      obtain ⟨k3, k4⟩ := He.ba k
      obtain rfl := noneB_ok k1
      obtain rfl := noneB_ok k2
      obtain ⟨cda, ccl, cdd, vs, ccs, tf, rfl, l1, l2⟩ := fileB_ok k4
      cases n7 with
      | nil => cases h7
      | cons p ps =>
        cases ps with
        | cons _ _ => simp at h7
        | nil =>
          obtain ⟨nm, cc⟩ := p
          simp only [List.map_cons, List.map_nil, List.cons.injEq, Prod.mk.injEq, and_true] at h7
          obtain ⟨h71, h7⟩ := h7
          unfold cellB at h7
          cases q2 : K.lookup cc with
          | none => rw [q2] at h7; cases h7
          | some o2 =>
            obtain ⟨cl, cld, dt2, csl⟩ := o2
            rw [q2] at h7
            cases dt2 with
            | cell ov =>
              cases ov with
              | none => cases h7
              | some v =>
                cases v with
                | ref b =>
                  have hb : b = He.ga K d.x := of_decide_eq_true h7
                  subst hb
                  exact ⟨oc, od, n10, n11, n12, cda, cc, n14, osl, d.qual, p1, p2, q0, q1, qq2, q3, q4, r1, r2, r3, r4, ccl, cl, cdd, cld, vs, ccs, csl, file, tf, by rw [hA, hB, hS, h71], k3, l1, l2, hfile, q2, sup⟩
                | _ => cases h7
            | _ => cases h7
    | _ => cases c
end PyH
namespace PyD
open PySem PySem.Spec L2
section
variable {K : PySem.W.Frag} {W : WX} {ex : Ek} {G : Gm} {O : Ow} {P : D → Ow → Prop} {aa : TA} {X : Cx} {i j : Int}
def rSubA : R2 := rI0 fun i j => .int (i - j)
theorem opA_sub : OpR X (binaryOp .Sub) rSubA := op_sub
theorem wpR_sub (p : P (.int (i - j)) O) : wpR K rSubA (.int i) (.int j) O P := wpR_I0i (f := fun i j => i - j) p
def rMulA : R2 := fun x y H Q => rI CMul (fun i j => .int (i * j)) x y H Q ∨ rI CMulW (fun i j => .int (i * j)) x y H Q
theorem opA_mul : OpR X (binaryOp .Mult) rMulA := OpR.or op_mul op_mulW
theorem wpR_mul (h : CMul i j) (p : P (.int (i * j)) O) : wpR K rMulA (.int i) (.int j) O P := wpR_or1 (wpR_Ii (f := fun i j => i * j) h p)
def rDivA : R2 := rI CDivW fun i j => .int (i / j)
theorem opA_div : OpR X (binaryOp .FloorDiv) rDivA := op_fdivW
theorem wpR_div (h0 : 0 < j) (h : j < 4611686018427387904) (p : P (.int (i / j)) O) : wpR K rDivA (.int i) (.int j) O P := wpR_Ii (f := fun i j => i / j) (wide_div (b := 62) h0 (by omega) (by decide) (by decide)) p
def rModA : R2 := rI (fun _ j => 0 < j) fun i j => .int (i % j)
theorem opA_mod : OpR X (binaryOp .Mod) rModA := op_mod
theorem wpR_mod (h0 : 0 < j) (p : P (.int (i % j)) O) : wpR K rModA (.int i) (.int j) O P := wpR_Ii (C := fun _ j => 0 < j) (f := fun i j => i % j) h0 p
def rLtA : R2 := rI0 fun i j => .bl (decide (i < j))
theorem opA_lt : OpR X (compareOp .Lt) rLtA := op_lt
theorem wpR_lt (p : P (.bl (decide (i < j))) O) : wpR K rLtA (.int i) (.int j) O P := wpR_I0b (f := fun i j => decide (i < j)) p
def rLeA : R2 := rI0 fun i j => .bl (decide (i ≤ j))
theorem opA_le : OpR X (compareOp .LtE) rLeA := op_le
theorem wpR_le (p : P (.bl (decide (i ≤ j))) O) : wpR K rLeA (.int i) (.int j) O P := wpR_I0b (f := fun i j => decide (i ≤ j)) p
def rGtA : R2 := rI0 fun i j => .bl (decide (j < i))
theorem opA_gt : OpR X (compareOp .Gt) rGtA := op_gt
theorem wpR_gt (p : P (.bl (decide (j < i))) O) : wpR K rGtA (.int i) (.int j) O P := wpR_I0b (f := fun i j => decide (j < i)) p
def rGeA : R2 := rI0 fun i j => .bl (decide (j ≤ i))
theorem opA_ge : OpR X (compareOp .GtE) rGeA := op_ge
theorem wpR_ge (p : P (.bl (decide (j ≤ i))) O) : wpR K rGeA (.int i) (.int j) O P := wpR_I0b (f := fun i j => decide (j ≤ i)) p
def rNegA : V → Hp → VK → Prop := rU fun i => .int (-i)
theorem unA_neg : UnR X (unaryOp .USub) rNegA := un_neg
theorem wpU_neg (p : P (.int (-i)) O) : wpU K rNegA (.int i) O P := wpU_int (f := fun i => -i) p
def rPowA : R2 := rI CPow fun i j => .int (i ^ j.toNat)
theorem opA_pow : OpR X (binaryOp .Pow) rPowA := op_pow
theorem wpR_pow (h : CPow i j) (p : P (.int (i ^ j.toNat)) O) : wpR K rPowA (.int i) (.int j) O P := wpR_Ii (f := fun i j => i ^ j.toNat) h p
theorem callOr {f : Value} {r r' : List V → Hp → VK → Prop} (h : CallR X f r) (h' : CallR X f r') : CallR X f (fun xs H Q => r xs H Q ∨ r' xs H Q) := by
  intro pins s σ H xs us Q I rv q
  rcases q with q | q
  · exact h pins s σ H xs us Q I rv q
  · exact h' pins s σ H xs us Q I rv q
/-- sorted: ints | pairs of ints -/
def rSortA (K : PySem.W.Frag) : List V → Hp → VK → Prop := fun xs H Q => rSortedI K xs H Q ∨ rSortedPQ K xs H Q
theorem callA_sorted : CallR X (.builtin "sorted") (rSortA X.K) := callOr cr_sortedI cr_sortedPQ
theorem wpC_sortAI (fr : Bool) {x : D} {ns : List Int} (hx : seqOf O x (ns.map D.int)) (p : ∀ ms : List Int, ms.Perm ns → ms.Pairwise (· ≤ ·) → lcEnd fr (ms.map D.int) O P) : wpC K (rSortA K) [x] O P := wpC_or1 (wpC_sortI fr hx p)
/-- .. where no exception is let out -/
theorem wpE_call0E {sp : DSp} {dvs : List V} {dds : List D} (hd : ∀ F, Rps K F dds dvs) (h : wpA K W ex aa G O fun ds O1 => sp (ds ++ dds) [] (fun d N => P d (N ++ O1)) (fun _ _ => False)) :
    wpE K W ex (tCallSD (toSp K sp) dvs (fun _ => E0) aa) G O P := fun Z F H σ X S s Q q =>
  h Z F H σ X S s _ fun ds vs F1 H1 O1 S1 e1 r1 p1 => by
    refine ⟨ds ++ dds, F1, [], _, _, S1.call0, fun _ h => (by cases h), r1.app (hd F1), p1, fun d N v F' H' S' r' k => ?_, fun x N dd F' H' S' r' k => k.elim⟩
    obtain ⟨S2, e2⟩ := S1.back0 S'
    exact q d v F' H' _ S2 (e1.trans e2) r' k
end
end PyD
namespace PyH
open PySem PySem.Spec PyProof.Rows L2
abbrev AlK : Type := He.AlD × (List FnI × Bool)
def obsK (fa : List He.Fa) (fn : List He.DefD) (xs : List ExD) (ex : List (PySem.W.Frag → Bool)) (K : PySem.W.Frag) : AlK := (He.obsD fa fn K, (xs.map fun d => initW K d.x, ex.all fun f => f K))
def valK (fn : List He.DefD) (xs : List ExD) : AlK := (He.valD fn, (xs.map ExD.val, true))
def SaysK (fa : List He.Fa) (fn : List He.DefD) (xs : List ExD) (ex : List (PySem.W.Frag → Bool)) (K : PySem.W.Frag) : Prop := obsK fa fn xs ex K = valK fn xs
section
variable {fa : List He.Fa} {fn : List He.DefD} {xs : List ExD} {ex : List (PySem.W.Frag → Bool)} {K : PySem.W.Frag}
theorem SaysK.d (c : SaysK fa fn xs ex K) : He.SaysD fa fn K := congrArg (fun z : AlK => z.1) c
theorem SaysK.exs (c : SaysK fa fn xs ex K) (i : Nat) {f : PySem.W.Frag → Bool} (h : ex[i]? = some f := by rfl) : f K = true := by
  have e : (ex.all fun f => f K) = true := congrArg (fun z : AlK => z.2.2) c
  exact List.all_eq_true.mp e f (List.mem_of_getElem? h)
theorem SaysK.init (c : SaysK fa fn xs ex K) (i : Nat) {d : ExD} (h : xs[i]? = some d := by rfl) : initW K d.x = d.val := by
  have e : (xs.map fun d => initW K d.x) = xs.map ExD.val := congrArg (fun z : AlK => z.2.1) c
  have h1 : (xs.map fun d => initW K d.x)[i]? = some (initW K d.x) := by rw [List.getElem?_map, h]; rfl
  have h2 : (xs.map ExD.val)[i]? = some d.val := by rw [List.getElem?_map, h]; rfl
  rw [e, h2] at h1
  exact (Option.some.inj h1).symm
end
structure FE (P : Program) (w : World) (K : PySem.W.Frag) (mg : Str → Option Value) (base : Heap) (k : Nat) (x : Str) (ps : List Str) (dvs : List V) (sp : Sp) : Prop where
  kp : PySem.W.keepIn K (.ref (He.ga K x)) = true
  g : mg x = some (.ref (He.ga K x))
  ok : ∃ (fd : FuncData) (ds : List Value), FnOk P w K mg base (L2.CX P w) k (He.ga K x) fd ps sp ∧ Binds K fd ps ds ∧ Vals dvs ds
section
variable {X : Cx} {k : Nat} {ps : List Str} {sp : Sp} {dvs : List V} {E : L2.St → XK} {x : Str} {p pos : Pos} {e : Expr} {es : List Expr} {t : TA}
theorem pe_fe (F : FE X.prog X.w X.K X.mg X.base k x ps dvs sp) (hr : Room k X.A) (hg : Gl X x) (hx : ∀ σ, PassesAt (L2.CX X.prog X.w) X σ (E σ)) (ha : PA X (e :: es) t) (hdb : (x == ("__debug__" : Str)) = false := by decide)
    (he : starEach (e :: es) X.env = (false, eval e X.env) :: starEach es X.env := by rfl) (hpl : (backTo pos (starEach es X.env)).any (·.1) = false := by rfl) : PE X (.Call (.Name x p) (e :: es) [] pos) (tCallSD sp dvs E t) := by
  obtain ⟨fd, ds, ok, hb, hd⟩ := F.ok
  exact pe_callSD ok hr hg F.g F.kp hb hd hx ha hdb he hpl
theorem passE {X : Cx} (σ : L2.St) : PassesAt (L2.CX X.prog X.w) X σ E0 := fun pins H s e s' I c => passL pins σ H s e s' I c
end
/-- a def's body: from its walk to FE -/
theorem fe_of {P : Program} {w : World} {K : PySem.W.Frag} {mg : Str → Option Value} {base : Heap} {x : Str} {st : Stmt} {N ps : List Str} {k : Nat} {dvs : List V} {sp : PyD.DSp} {ts : WX → TS} (F : ∃ fd, FunD K x x (defArgs st) (defBody st) (defScope st) dvs [] (He.ga K x) fd) (g : mg x = some (.ref (He.ga K x)))
    (S : FnScope N ps (defScope st)) (len : ∀ ds O k x, sp ds O k x → ds.length = ps.length)
    (hb : ∀ fd, FunD K x x (defArgs st) (defBody st) (defScope st) dvs [] (He.ga K x) fd → ∃ ds, Binds K fd ps ds ∧ Vals dvs ds)
    (der : ∀ (cdv : Value) (A : Around) (outer : List Env) (s : Shared) (H : Hp) (E : XK), Room k (A.deeper (envOfC x (defScope st) s.heap.objs.size (He.ga K x) cdv)) →
      PSs (cxOf (L2.CX P w) P w K mg base N x (defScope st) (He.ga K x) cdv A outer s H E) (defBody st) (ts fun cls d _ H => E cls d H))
    (walk : ∀ W ds O k x, sp ds O k x → (∀ p ∈ O, p.loc = false) → PyD.wpS K W (fun e _ O' => x e O') (ts W) (PyD.startD N.length ds) O { nx := fun _ O' => k .non O', rt := k }) : FE P w K mg base (k + 1) x ps dvs (PyD.toSp K sp) := by
  obtain ⟨fd, F⟩ := F
  obtain ⟨ds, hb1, hb2⟩ := hb fd F
  refine ⟨F.kp, g, fd, ds, F.ok S (PyD.toSp_len len) (fun cdv A outer s H vs Q E hr h => ⟨_, der cdv A outer s H E hr, PyD.body_ok walk vs H Q E h⟩), hb1, hb2⟩
theorem binds0 {K : PySem.W.Frag} {x : Str} {st : Stmt} {ps : List Str} {f : Addr} {fd : FuncData} (F : FunD K x x (defArgs st) (defBody st) (defScope st) [] [] f fd)
    (h : ∀ (kV doc pm : Value) (an : Option Addr) (cdv ct : Value) (us : List Value), us.length = ps.length → bindArgs (PySem.W.fnOf x x (defArgs st) (defBody st) (defScope st) .none kV doc pm an cdv ct) ⟨us, []⟩ = pure (ps.zip us)) : ∃ ds, Binds K fd ps ds ∧ Vals [] ds :=
  ⟨[], F.bindsN h, .nil⟩
theorem walk_ofEB {l : PySem.W.OpenLaw} {n k : Nat} {q : Program} {loose : List Str} {XP : (Str → Option Value) → Heap → Prop} {YP : World → Heap → Prop} {d : DefRec} {CX : World → CXT} {x : Str}
    (hn : l.most = some n) (hn2 : n ≤ sizeLine) (hdf : d.params.defaults = []) (hr : Room k callerA)
    (F : ∀ (w : World) (mg : Str → Option Value) (fa : Addr) (h : Heap), YP w h → h.Ns mainGlobals mg → mg d.name = some (.ref fa) →
      ∃ (K : PySem.W.Frag) (fd : FuncData) (sp : Sp), K.In h ∧ (∀ (s : Shared) (u : Value), BindsTo s fd ⟨[u], []⟩ [(x, u)]) ∧
        (∀ (H : Hp) (a : Addr) (ns : List Int), ns.length ≤ n → (∀ z ∈ ns, Builtin.Int.intBits z ≤ 1048576) → Only H → SqL K H a (ns.map V.int) → sp [.ref a] H (fun v _ => v = .bl true) fun _ _ _ => False) ∧
        ∀ base : Heap, K.In base → base.Ns mainGlobals mg → FnOk l.prog w K mg base (CX w) k fa fd [x] sp)
    (hCX : ∀ (w : World) (H : Hp) (s : Shared) (e : Value) (s' : Shared), CX w [] H s (fun _ _ _ => False) e s' → False) :
    PySem.W.WalkO q loose XP YP l.row.toRowW d [] (fun f vs => PySem.call f vs) := by
  refine Att.attach_callB hn hdf fun w s₀ s₁ mg mb fa o pm cd doc a vs ns G Y ho hd hcd hmg hobj hints hlen hbits hg => ?_
  obtain ⟨K, fd, sp, KX, hb, hsp, hF⟩ := F w mg fa _ Y G.T.g hmg
  exact law_call KX G.T.g G.T.b G.T.builtins G.T.nolimit hg hobj hints (Nat.le_trans hlen hn2) hr hF hb (fun H hO hS => hsp H a ns hlen hbits hO hS) fun H e s' => hCX w H s₁ e s'
end PyH
namespace PyD
open PySem PySem.Spec L2
section
variable {K : PySem.W.Frag} {W : WX} {ex : Ek} {G : Gm} {O : Ow} {P : D → Ow → Prop} {PT : Bool → Ow → Prop} {E : EnD} {tt uu : TT} {t u : TS} {te : TE}
/-- a test whose answer is c, nothing changed -/
theorem wpT_join (c : Bool) (h : wpT K W ex tt G O fun b O' => b = c ∧ O' = O) (p : PT c O) : wpT K W ex tt G O PT := wpT_mono h fun b O' ⟨h1, h2⟩ => by rw [h1, h2]; exact p
theorem wpE_join (d : D) (h : wpE K W ex te G O fun b O' => b = d ∧ O' = O) (p : P d O) : wpE K W ex te G O P := wpE_mono h fun b O' ⟨h1, h2⟩ => by rw [h1, h2]; exact p
theorem wpS_ite (c : Bool) (h : wpT K W ex tt G O fun b O' => b = c ∧ O' = O) (ht : c = true → wpS K W ex t G O E) (hf : c = false → wpS K W ex u G O E) : wpS K W ex (tIfS tt t u) G O E := wpS_if (wpT_join c h ⟨ht, hf⟩)
theorem atI_int {ns : List Int} {i : Int} (h0 : 0 ≤ i) (h1 : i < (ns.length : Int)) : atI (ns.map D.int) i = some (.int (ns.getD i.toNat 0)) := by
  refine atI_nn h0 ?_
  have h : i.toNat < ns.length := by omega
  rw [List.getElem?_map, List.getElem?_eq_getElem h, List.getD_eq_getElem?_getD, List.getElem?_eq_getElem h] <;> rfl
theorem wpR_ixI {x : D} {ns : List Int} {i : Int} (hx : seqOf O x (ns.map D.int)) (h0 : 0 ≤ i) (h1 : i < (ns.length : Int)) (p : P (.int (ns.getD i.toNat 0)) O) : wpR K (rIxLT K) x (.int i) O P := wpR_ixA (.inl hx) (atI_int h0 h1) p
theorem wpC_lenI {x : D} {ns : List Int} (hx : seqOf O x (ns.map D.int)) (p : P (.int (ns.length : Int)) O) : wpC K (rLenA K) [x] O P := wpC_lenL hx (by rw [List.length_map]; exact p)
/-- what stands between two parts -/
theorem wpS_mid (M : Gm → Ow → Prop) (h : wpS K W ex t G O { E with nx := M }) (k : ∀ G' O', M G' O' → wpS K W ex u G' O' E) : wpS K W ex (tSeq t u) G O E := wpS_seq (wpS_mono h k (fun _ _ z => z) (fun _ _ z => z) (fun _ _ z => z))
end
end PyD
namespace PyD
open PySem PySem.Spec L2
section
variable {K : PySem.W.Frag} {W : WX} {ex : Ek} {G : Gm} {O : Ow} {P : D → Ow → Prop} {PT : Bool → Ow → Prop} {E : EnD} {tt uu : TT} {t u : TS} {te tk tv : TE} {aa : TA} {α : Type}
theorem take_fm {β : Type} {as : List α} {f : α → Option β} {i : Nat} {a : α} (h : as[i]? = some a) : (as.take (i + 1)).filterMap f = (as.take i).filterMap f ++ (f a).toList := by
  have hl : i < as.length := (List.getElem?_eq_some_iff.mp h).1
  rw [List.take_succ, h, List.filterMap_append]
  congr 1
theorem map_get {enc : α → D} {as : List α} {i : Nat} {x : D} (h : (as.map enc)[i]? = some x) : ∃ a, as[i]? = some a ∧ x = enc a := by
  rw [List.getElem?_map] at h
  cases e : as[i]? with
  | none => rw [e] at h; cases h
  | some a =>
    rw [e] at h
    exact ⟨a, rfl, (Option.some.inj h).symm⟩
/-- for over as, coded by enc -/
theorem wpS_forA {wi : TI} {g : TG} (as : List α) (enc : α → D) (I : Nat → Gm → Ow → Prop) (h : wpI K W ex wi G O fun xs C O1 => xs = as.map enc ∧ I 0 G O1 ∧ (∀ i G' O', i ≤ as.length → I i G' O' → C O') ∧
      (∀ (i : Nat) (a : α) G' O', as[i]? = some a → I i G' O' → wpG K g (enc a) G' O' fun G2 O2 => wpS K W ex t G2 O2 { E with nx := I (i + 1), ct := I (i + 1), bk := E.nx }) ∧ ∀ G' O', I as.length G' O' → E.nx G' O') :
    wpS K W ex (tFor wi g t) G O E := by
  refine wpS_for fun Z F H σ X S s R q => h Z F H σ X S s R fun J xs C F1 H1 O1 S1 e1 w p => q J xs C F1 H1 O1 S1 e1 w ?_
  obtain ⟨rfl, h0, hC, ht, hd⟩ := p
  refine ⟨I, h0, fun i G' O' hi hI => hC i G' O' (by rw [List.length_map] at hi; exact hi) hI, fun i x G' O' hx hI => ?_, fun G' O' hI => hd G' O' (by rw [List.length_map] at hI; exact hI)⟩
  obtain ⟨a, ha, rfl⟩ := map_get hx
  exact ht i a G' O' ha hI
/-- .. as told behind the walked thing -/
theorem wpS_forE {wi : TI} {g : TG} (h : wpI K W ex wi G O fun xs C O1 => ∃ (as : List α) (enc : α → D) (I : Nat → Gm → Ow → Prop), xs = as.map enc ∧ I 0 G O1 ∧ (∀ i G' O', i ≤ as.length → I i G' O' → C O') ∧
      (∀ (i : Nat) (a : α) G' O', as[i]? = some a → I i G' O' → wpG K g (enc a) G' O' fun G2 O2 => wpS K W ex t G2 O2 { E with nx := I (i + 1), ct := I (i + 1), bk := E.nx }) ∧ ∀ G' O', I as.length G' O' → E.nx G' O') :
    wpS K W ex (tFor wi g t) G O E := by
  refine wpS_for fun Z F H σ X S s R q => h Z F H σ X S s R fun J xs C F1 H1 O1 S1 e1 w p => q J xs C F1 H1 O1 S1 e1 w ?_
  obtain ⟨as, enc, I, rfl, h0, hC, ht, hd⟩ := p
  refine ⟨I, h0, fun i G' O' hi hI => hC i G' O' (by rw [List.length_map] at hi; exact hi) hI, fun i x G' O' hx hI => ?_, fun G' O' hI => hd G' O' (by rw [List.length_map] at hI; exact hI)⟩
  obtain ⟨a, ha, rfl⟩ := map_get hx
  exact ht i a G' O' ha hI
theorem wpE_lcE {wi : TI} {g : TG} {vs : List Nat} (fr : Bool) (hg : gIn vs g) (gm : gMono g)
    (h : wpI K W ex wi G O fun xs C O1 => ∃ (as : List α) (enc : α → D) (f : α → Option D), xs = as.map enc ∧ as.length < sizeLine ∧ C O1 ∧
      (∀ (i : Nat) (a : α), as[i]? = some a → wpG K g (enc a) (wipeG G vs) O1 fun G2 O2 => O2 = O1 ∧ wpT K W ex tt G2 O1 fun b O3 => O3 = O1 ∧ (b = true → wpE K W ex te G2 O1 fun y O4 => f a = some y ∧ O4 = O1) ∧ (b = false → f a = none)) ∧
      lcEnd fr (as.filterMap f) O1 P) : wpE K W ex (tLc wi g tt te vs) G O P := by
  refine wpE_lc fr hg gm fun Z F H σ X S s R q => h Z F H σ X S s R fun J xs C F1 H1 O1 S1 e1 w p => q J xs C F1 H1 O1 S1 e1 w ?_
  obtain ⟨as, enc, f, rfl, hz, hC, ht, hd⟩ := p
  refine ⟨by rw [List.length_map]; exact hz, fun i acc O' => O' = O1 ∧ acc = (as.take i).filterMap f, ⟨rfl, by simp⟩, fun i acc O' _ hI => by rw [hI.1]; exact hC, fun i x acc O' hx hI => ?_, fun acc O' hI => ?_⟩
  · obtain ⟨rfl, rfl⟩ := hI
    obtain ⟨a, ha, rfl⟩ := map_get hx
    intro Z F H σ v S s r Q q
    refine ht i a ha Z F H σ v S s r Q fun F' H' σ' G' O' S' s' e' p' => q F' H' σ' G' O' S' s' e' ?_
    obtain ⟨rfl, p'⟩ := p'
    refine wpT_mono p' fun b O3 hb => ?_
    obtain ⟨rfl, h1, h2⟩ := hb
    refine ⟨fun hb => wpE_mono (h1 hb) fun y O4 hy => ⟨hy.2, ?_⟩, fun hb => ⟨rfl, ?_⟩⟩
    · rw [take_fm ha, hy.1] <;> rfl
    · rw [take_fm ha, h2 hb]
      simp
  · obtain ⟨rfl, rfl⟩ := hI
    rw [List.length_map, List.take_length]
    exact hd
theorem enumD_map (enc : α → D) (as : List α) : enumD (as.map enc) = as.zipIdx.map fun p => D.tup [.int (p.2 : Nat), enc p.1] := by
  unfold enumD
  rw [List.zipIdx_map, List.map_map]
  rfl
theorem rngD_map {lo : Int} {n : Nat} : rngD lo n = (List.range n).map fun (i : Nat) => D.int (lo + (i : Int)) := rfl
theorem zip_get {as : List α} {i : Nat} {p : α × Nat} (h : as.zipIdx[i]? = some p) : as[i]? = some p.1 ∧ p.2 = i := by
  rw [List.getElem?_zipIdx] at h
  cases e : as[i]? with
  | none => rw [e] at h; cases h
  | some a =>
    rw [e] at h
    have h2 := Option.some.inj h
    rw [← h2]
    exact ⟨rfl, by simp⟩
theorem range_get {n i j : Nat} (h : (List.range n)[i]? = some j) : j = i ∧ i < n := by
  by_cases hi : i < n
  · rw [List.getElem?_range hi] at h
    exact ⟨(Option.some.inj h).symm, hi⟩
  · rw [List.getElem?_eq_none (by simpa using hi)] at h
    cases h
theorem get_D {ns : List Int} {i : Nat} {z : Int} (h : ns[i]? = some z) : ns.getD i 0 = z := by
  rw [List.getD_eq_getElem?_getD, h] <;> rfl
theorem wpT_yes (p : PT true O) : wpT K W ex tYes G O PT := fun Z F H σ _ S s Q q => q true F H O S (Ex.refl F) p
theorem wpPut_I {j : Nat} {a : Addr} {b : Bool} {ns : List Int} {i z : Int} {PO : Ow → Prop} (hj : O[j]? = some ⟨a, b, .lst (ns.map D.int)⟩) (h0 : 0 ≤ i) (hi : i < (ns.length : Int)) (p : PO (O.set j ⟨a, b, L (ns.set i.toNat z)⟩)) : wpPut K rSetL (.mut a) (.int i) (.int z) O PO := by
  refine wpPut_lst hj h0 (by rw [List.length_map]; exact hi) ?_
  have e : (ns.map D.int).set i.toNat (D.int z) = (ns.set i.toNat z).map D.int := by rw [List.map_set]
  rw [e]
  exact p
theorem wpR_neLd {x y : D} {ns ms : List Int} (hx : viewOf O x (L ns)) (hy : viewOf O y (L ms)) (p : P (.bl (!decide (ns = ms))) O) : wpR K (rNeA K) x y O P := wpR_neL hx hy fun b h => by
  have e : b = decide (ns = ms) := by
    cases b with
    | true => rw [decide_eq_true (h.mp rfl)]
    | false => rw [decide_eq_false fun z => by cases h.mpr z]
  rw [e]
  exact p
theorem wpM_appendI {j : Nat} {a : Addr} {b : Bool} {ns : List Int} {z : Int} (hj : O[j]? = some ⟨a, b, .lst (ns.map D.int)⟩) (hl : ns.length < 1000) (p : P .non (O.set j ⟨a, b, L (ns ++ [z])⟩)) : wpM K rAppend (.mut a) [.int z] O P := by
  refine wpM_append hj (small1000 (by rw [List.length_map]; omega)) ?_
  have e : ns.map D.int ++ [D.int z] = (ns ++ [z]).map D.int := by rw [List.map_append] <;> rfl
  rw [e]
  exact p
theorem eraseIdx_map {β : Type} (f : α → β) : ∀ (xs : List α) (i : Nat), (xs.map f).eraseIdx i = (xs.eraseIdx i).map f
  | [], _ => rfl
  | _ :: _, 0 => rfl
  | x :: xs, i + 1 => by
    show f x :: (xs.map f).eraseIdx i = f x :: (xs.eraseIdx i).map f
    rw [eraseIdx_map f xs i]
theorem wpM_popAtI {j : Nat} {a : Addr} {b : Bool} {ns : List Int} {i : Int} (hj : O[j]? = some ⟨a, b, .lst (ns.map D.int)⟩) (h0 : 0 ≤ i) (hi : i < (ns.length : Int)) (hl : ns.length < 1000) (p : P (.int (ns.getD i.toNat 0)) (O.set j ⟨a, b, L (ns.eraseIdx i.toNat)⟩)) : wpM K rPopAt (.mut a) [.int i] O P := by
  have h : i.toNat < ns.length := by omega
  refine wpM_popAt (y := .int (ns.getD i.toNat 0)) hj h0 (by omega) ?_ ?_
  · rw [List.getElem?_map, List.getElem?_eq_getElem h, List.getD_eq_getElem?_getD, List.getElem?_eq_getElem h] <;> rfl
  · rw [eraseIdx_map]
    exact p
theorem wpM_insertI {j : Nat} {a : Addr} {b : Bool} {ns : List Int} {i z : Int} (hj : O[j]? = some ⟨a, b, .lst (ns.map D.int)⟩) (hl : ns.length < 1000) (h0 : 0 ≤ i) (hb : i < 1000) (p : P .non (O.set j ⟨a, b, L (ns.take i.toNat ++ [z] ++ ns.drop i.toNat)⟩)) : wpM K rInsert (.mut a) [.int i, .int z] O P := by
  refine wpM_insert hj (small1000 (by rw [List.length_map]; omega)) h0 (by omega) ?_
  have e : (ns.map D.int).take i.toNat ++ [D.int z] ++ (ns.map D.int).drop i.toNat = (ns.take i.toNat ++ [z] ++ ns.drop i.toNat).map D.int := by simp [List.map_append, List.map_take, List.map_drop]
  rw [e]
  exact p
theorem cut_take {ns : List Int} {n : Nat} (h : ns.length ≤ n) : cutD (ns.map D.int) none (some (n : Int)) = ns.map D.int := by
  unfold cutD
  rw [HT.sIx_nat, HT.sIx_none, List.length_map, Nat.min_eq_right h, List.drop_zero, Nat.sub_zero]
  exact List.take_of_length_le (by rw [List.length_map]; exact Nat.le_refl _)
theorem wpC_isX {a C Cc : Addr} {cls : Value} {d : Option Addr} {fs : List (Str × D)} {b : Bool} {f : Str} {v : D} (hc : cls = .ref C) (T : ExcC K C) (hk : PySem.W.kitOne K (.ref C) (.ref Cc) = some b) (p : P (.bl b) O) :
    wpC K (PyE.rIsX K a cls d) [.exc a C d ((f, v) :: fs), .ref Cc] O P := fun Z F H vs S r Q q => by
  cases r with
  | cons ra rb =>
    cases rb with
    | cons rc rd =>
      cases rc
      cases rd
      cases ra with
      | exc1 h1 h2 h3 => exact ⟨C, _, _, .ref Cc, .ref Cc, b, hc, rfl, S.ex _ _ h1, T, rfl, fun _ z => z, hk, q _ _ F H O S (Ex.refl F) (.bl b) p⟩
theorem wpE_xfA {a C C' : Addr} {cls : Value} {d : Option Addr} {f : Str} {fs : List (Str × D)} {v : D} {i : Nat} (hc : cls = .ref C) (hg : G[i]? = some (some (.exc a C' d fs))) (hl : fs.lookup f = some v) (p : P v O) : wpE K W ex (tXf a cls d C f (tVar i)) G O P :=
  PyE.wpE_xf hc (wpE_var hg ⟨rfl, v, hl, p⟩)
theorem shal_pr (p : Int × Int) : shalN 1 (prD p) := shalN_tup (n := 0) fun x hx => by
  rcases List.mem_cons.mp hx with rfl | hx
  · exact shalN_int
  · rcases List.mem_cons.mp hx with rfl | hx
    · exact shalN_int
    · cases hx
theorem toPd_pr {p q : Int × Int} (h : toPd (prD p) = toPd (prD q)) : p = q := by
  obtain ⟨a, b⟩ := p
  obtain ⟨c, d⟩ := q
  simp [prD, toPd, toPds] at h
  rw [h.1, h.2]
end
end PyD
namespace PyH
open PySem PySem.Spec PyProof.Rows L2
theorem fn_ofL {P : Program} {w : World} {K : PySem.W.Frag} {mg : Str → Option Value} {base : Heap} {x : Str} {st : Stmt} {N ps : List Str} {k : Nat} {dvs : List V} {sp : PyD.DSp} {ts : WX → TS} {fd : FuncData} (F : FunD K x x (defArgs st) (defBody st) (defScope st) dvs [] (He.ga K x) fd)
    (S : FnScope N ps (defScope st)) (len : ∀ ds O k x, sp ds O k x → ds.length = ps.length)
    (der : ∀ (cdv : Value) (A : Around) (outer : List Env) (s : Shared) (H : Hp) (E : XK), Room k (A.deeper (envOfC x (defScope st) s.heap.objs.size (He.ga K x) cdv)) →
      PSs (cxOf (L2.CX P w) P w K mg base N x (defScope st) (He.ga K x) cdv A outer s H E) (defBody st) (ts fun cls d _ H => E cls d H))
    (walk : ∀ W ds O k x, sp ds O k x → (∀ p ∈ O, p.loc = false) → PyD.wpS K W (fun e _ O' => x e O') (ts W) (PyD.startD N.length ds) O { nx := fun _ O' => k .non O', rt := k }) : FnOk P w K mg base (L2.CX P w) (k + 1) (He.ga K x) fd ps (PyD.toSp K sp) :=
  F.ok S (PyD.toSp_len len) (fun cdv A outer s H vs Q E hr h => ⟨_, der cdv A outer s H E hr, PyD.body_ok walk vs H Q E h⟩)
theorem cx_no {P : Program} {w : World} (H : Hp) (s : Shared) (e : Value) (s' : Shared) (h : L2.CX P w [] H s (fun _ _ _ => False) e s') : False := by
  obtain ⟨_, _, _, _, _, _, _, _, _, _, _, _, z⟩ := h
  exact z.elim
theorem law_sp {K : PySem.W.Frag} {sp : PyD.DSp} {H : Hp} {a : Addr} {ns : List Int} (hS : SqL K H a (ns.map V.int)) (h : sp [.kl (ns.map PyD.D.int)] [] (fun d _ => d = .bl true) (fun _ _ => False)) : PyD.toSp K sp [.ref a] H (fun v _ => v = .bl true) fun _ _ _ => False := by
  refine ⟨[.kl (ns.map PyD.D.int)], H, [], _, _, ⟨PyD.Ex.refl H, fun _ _ _ e => e, fun _ _ => .inl rfl, fun _ h => (by cases h), fun _ h => (by cases h), .nil⟩, fun _ h => (by cases h), .cons (.kl hS (PyD.Rps.of_ints ns)) .nil, h, fun d O' v F' H' _ r e => ?_, fun _ _ _ _ _ _ _ z => z.elim⟩
  subst e
  cases r
  rfl
end PyH
namespace PyI
open PySem PySem.Spec PySem.Calls PyProof.Rows L2
/-- a method as it stands, with what it promises -/
structure FM (P : Program) (w : World) (K : PySem.W.Frag) (mg : Str → Option Value) (base : Heap) (k : Nat) (C : Addr) (m : Str) (ps : List Str) (dvs : List V) (sp : Sp) : Prop where
  me : Meth K C m (He.ma K C m)
  ok : ∃ (fd : FuncData) (ds : List Value), FnOk P w K mg base (L2.CX P w) k (He.ma K C m) fd ps sp ∧ Binds K fd ps ds ∧ Vals dvs ds
section
variable {X : Cx} {k : Nat} {C f : Addr} {fd : FuncData} {ps : List Str} {sp : Sp} {dvs : List V} {ds : List Value} {E : L2.St → XK} {x m : Str} {p pos apos : Pos} {e o a b : Expr} {es : List Expr} {ta tb : TE} {t : TA}
abbrev CXr (X : Cx) : CXT := L2.CX X.prog X.w
/-- o.m(e, ..) -/
def tMethA (C : Addr) (m : Str) (sp : Sp) (dvs : List V) (E : L2.St → XK) (ta : TE) (t : TA) : TE := fun σ H Q => ta σ H fun x H1 => ∃ a dx fs, x = .ref a ∧ H1 a = some (.ins C dx fs) ∧ fs.lookup m = none ∧ t σ H1 fun vs H2 => sp (x :: (vs ++ dvs)) H2 Q (E σ)
theorem pe_methA {pl : Sem Bool} (he : PE X o ta) (c : Cls X.K C) (F : FM X.prog X.w X.K X.mg X.base k C m ps dvs sp) (hr : Room k X.A) (hx : ∀ σ, PassesAt (CXr X) X σ (E σ)) (ha : PA X (e :: es) t)
    (hst : starEach (e :: es) X.env = (false, eval e X.env) :: starEach es X.env := by rfl) (hpl : (backTo pos (starEach es X.env)).any (·.1) = false := by rfl)
    (ht : eval (.Call (.Attribute o m apos) (e :: es) [] pos) X.env = (do
      let ov ← eval o X.env
      standAt apos.atName
      let (f, first) ← holding [ov] (getMethod ov m pl)
      callWith pos f first (backTo pos (starEach (e :: es) X.env)) (backToKw pos (keywordEach [] X.env))) := by rfl) :
    PE X (.Call (.Attribute o m apos) (e :: es) [] pos) (tMethA C m sp dvs E ta t) := by
  obtain ⟨fd, ds, ok, hb, hd⟩ := F.ok
  refine ⟨fun pins s σ H Q I h => ?_⟩
  refine PySem.W.methodCall_KW (pl := pl) (thn (he.run pins s σ H _ I h) fun u s1 hh => ?_) ht
  obtain ⟨v, H1, I1, rx, a, dx, fs, ex, ea, l, q⟩ := hh
  subst ex
  obtain rfl : u = Value.ref a := rx
  refine getmeth_ok I1 ea c F.me l ?_
  refine PySem.W.callWith_K (first := [.ref a]) (h₀ := X.base) I.ok.mod.kin F.me.kp (thn (ha.run pos pins s1 σ H1 _ I1 q) fun us s2 hh => ?_) hst hpl
  obtain ⟨vs, H2, I2, r, q2⟩ := hh
  exact ⟨I2.kIn, run_fnSD (us := .ref a :: us) (vs := .ref a :: vs) ok hr hb hd (hx σ) I2 (.cons rfl r) q2⟩
theorem pe_meth0A {pl : Sem Bool} (he : PE X o ta) (c : Cls X.K C) (F : FM X.prog X.w X.K X.mg X.base k C m ps dvs sp) (hr : Room k X.A) (hx : ∀ σ, PassesAt (CXr X) X σ (E σ))
    (ht : eval (.Call (.Attribute o m apos) [] [] pos) X.env = (do
      let ov ← eval o X.env
      standAt apos.atName
      let (f, first) ← holding [ov] (getMethod ov m pl)
      callWith pos f first (backTo pos (starEach [] X.env)) (backToKw pos (keywordEach [] X.env))) := by rfl) :
    PE X (.Call (.Attribute o m apos) [] [] pos) (tMethA C m sp dvs E ta tNil) := by
  obtain ⟨fd, ds, ok, hb, hd⟩ := F.ok
  refine ⟨fun pins s σ H Q I h => ?_⟩
  refine PySem.W.methodCall_KW (pl := pl) (thn (he.run pins s σ H _ I h) fun u s1 hh => ?_) ht
  obtain ⟨v, H1, I1, rx, a, dx, fs, ex, ea, l, q⟩ := hh
  subst ex
  obtain rfl : u = Value.ref a := rx
  refine getmeth_ok I1 ea c F.me l ?_
  exact PySem.W.callWith_K0 (first := [.ref a]) I1.kIn F.me.kp (run_fnSD (us := [.ref a]) (vs := [.ref a]) ok hr hb hd (hx σ) I1 (.cons rfl .nil) q)
/-- C(e, ..) -/
def tMakeA (C : Addr) (sp : Sp) (dvs : List V) (E : L2.St → XK) (t : TA) : TE := fun σ H Q => t σ H fun vs H1 => ∀ x dx, H1 x = none → H1 dx = none → dx ≠ x → sp (.ref x :: (vs ++ dvs)) (upd (upd H1 dx (.own x)) x (.ins C dx [])) (fun v H2 => v = .non ∧ Q (.ref x) H2) (E σ)
theorem run_makeA {pins : List (Addr × Obj)} {σ : L2.St} {H : Hp} {s : Shared} {Q : VK} {us : List Value} {vs : List V} (M : Mk X.K C f) (F : FnOk X.prog X.w X.K X.mg X.base (CXr X) k f fd ps sp) (hr : Room (k + 1) X.A) (hb : Binds X.K fd ps ds) (hd : Vals dvs ds)
    (hx : PassesAt (CXr X) X σ (E σ)) (I : Inv X pins σ H s) (r : Vals vs us)
    (h : ∀ x dx, H x = none → H dx = none → dx ≠ x → sp (.ref x :: (vs ++ dvs)) (upd (upd H dx (.own x)) x (.ins C dx [])) (fun v H2 => v = .non ∧ Q (.ref x) H2) (E σ)) :
    wpAny (model X.prog X.w) X.A (call (.ref C) us) (EP X pins σ Q) X.xe s := by
  have hq := h (s.heap.objs.size + 1) s.heap.objs.size (I.hok.fresh (Nat.le_succ _)) (I.hok.fresh (Nat.le_refl _)) (Nat.ne_of_lt (Nat.lt_succ_self _))
  have J := Inv.made (C := C) I
  have rr : Vals (V.ref (s.heap.objs.size + 1) :: (vs ++ dvs)) (Value.ref (s.heap.objs.size + 1) :: (us ++ ds)) := .cons rfl (r.append hd)
  have hl : (Value.ref (s.heap.objs.size + 1) :: us ++ ds).length = ps.length := by
    have e := rr.length
    rw [F.len _ _ _ _ hq] at e
    exact e.symm
  refine wpAny_call (make_map (f := f) I.kIn M.makes M.init (beq_iff_eq.mp M.fn) (codeAny_mono (F.run _ X.stack _ _ ⟨Value.ref (s.heap.objs.size + 1) :: us, []⟩ (Value.ref (s.heap.objs.size + 1) :: (us ++ ds)) _ _ (E σ) (hr.make C us [])
    (J.env0.make C us []) (hb _ (Value.ref (s.heap.objs.size + 1) :: us) J.kIn hl) rr hq) fun r s' hq' => ?_))
  cases r with
  | error er => exact hx pins _ _ er s' J hq'
  | ok fl =>
    cases fl with
    | ret u =>
      obtain ⟨v, H', I3, rv, ev, q3⟩ := J.after hq'
      subst ev
      exact ⟨rv, ⟨V.ref (s.heap.objs.size + 1), H', I3, rfl, q3⟩⟩
    | next => exact hq'.elim
    | brk => exact hq'.elim
    | cont => exact hq'.elim
theorem pe_makeA (M : Mk X.K C (He.ma X.K C "__init__")) (F : FM X.prog X.w X.K X.mg X.base k C "__init__" ps dvs sp) (hr : Room (k + 1) X.A) (hg : Gl X x) (hm : X.mg x = some (.ref C)) (hx : ∀ σ, PassesAt (CXr X) X σ (E σ))
    (ha : PA X (e :: es) t) (hdb : (x == ("__debug__" : Str)) = false := by decide) (he : starEach (e :: es) X.env = (false, eval e X.env) :: starEach es X.env := by rfl) (hpl : (backTo pos (starEach es X.env)).any (·.1) = false := by rfl) :
    PE X (.Call (.Name x p) (e :: es) [] pos) (tMakeA C sp dvs E t) := by
  obtain ⟨fd, ds, ok, hb, hd⟩ := F.ok
  refine ⟨fun pins s σ H Q I h => ?_⟩
  refine wpAny_Call_Name_kw (ld_glob I hg hm ?_ hdb)
  refine PySem.W.callWith_K (h₀ := X.base) I.ok.mod.kin M.kp (thn (ha.run pos pins s σ H _ I h) fun us s1 hh => ?_) he hpl
  obtain ⟨vs, H1, I1, r, q⟩ := hh
  exact ⟨I1.kIn, run_makeA M ok hr hb hd (hx σ) I1 r q⟩
def tNegI (C : Addr) (sp : Sp) (E : L2.St → XK) (ta : TE) : TE := fun σ H Q => ta σ H fun x H1 => ∃ a dx fs, x = .ref a ∧ H1 a = some (.ins C dx fs) ∧ sp [x] H1 Q (E σ)
theorem pe_negI (F : FM X.prog X.w X.K X.mg X.base k C "__neg__" ps [] sp) (hr : Room k X.A) (hx : ∀ σ, PassesAt (CXr X) X σ (E σ)) (ha : PE X a ta) : PE X (.UnaryOp .USub a pos) (tNegI C sp E ta) := by
  obtain ⟨fd, ds, ok, hb, hd⟩ := F.ok
  refine ⟨fun pins s σ H Q I h => ?_⟩
  refine wpAny_UnaryOp (thn (ha.run pins s σ H _ I h) fun u s1 hh => ?_)
  obtain ⟨v, H1, I1, rx, c, dx, fs, ex, ea, q⟩ := hh
  subst ex
  obtain rfl : u = Value.ref c := rx
  obtain ⟨mA, J, _⟩ := ins_get I1.hok ea
  obtain ⟨od, J, _⟩ := J.look
  obtain ⟨m, hF⟩ := I1.fr
  exact PySem.W.ksp_neg hF I.ok.mod.kin J F.me.at_ F.me.fn (run_fnSD (us := [.ref c]) (vs := [.ref c]) (dvs := []) ok hr hb hd (hx σ) I1 (.cons rfl .nil) q)
theorem cmpBack {pins : List (Addr × Obj)} {σ : L2.St} {Q : VK} {v : Value} {s : Shared} (h : EP X pins σ Q v s) : PySem.W.CmpBack (EP X pins σ Q) v s := by
  obtain ⟨y, H, I, r, q⟩ := h
  have h : EP X pins σ Q v s := ⟨y, H, I, r, q⟩
  unfold PySem.W.CmpBack
  cases y with
  | non => cases r; exact h
  | bl b => cases r; exact h
  | int i => obtain ⟨t, rfl⟩ := r; exact h
  | str i => obtain ⟨t, rfl⟩ := r; exact h
  | byt i => obtain ⟨t, rfl⟩ := r; exact h
  | flt i => obtain ⟨t, rfl⟩ := r; exact h
  | ref c => cases r; exact h
  | ty n => cases r; exact h
/-- a op b, both of the class C -/
def tBinI (C : Addr) (sp : Sp) (E : L2.St → XK) (ta tb : TE) : TE := fun σ H Q => ta σ H fun x H1 => tb σ H1 fun y H2 => ∃ a dx fs c dy gs, x = .ref a ∧ H2 a = some (.ins C dx fs) ∧ y = .ref c ∧ H2 c = some (.ins C dy gs) ∧ sp [x, y] H2 Q (E σ)
theorem pe_binI {op : Operator} (hc : PySem.W.selfFirst X.K C = true) (hop : (PySem.dunder op.info.2 : Str) = m) (F : FM X.prog X.w X.K X.mg X.base k C m ps [] sp) (hr : Room k X.A) (hx : ∀ σ, PassesAt (CXr X) X σ (E σ)) (ha : PE X a ta) (hb' : PE X b tb) :
    PE X (.BinOp a op b pos) (tBinI C sp E ta tb) := by
  obtain ⟨fd, ds, ok, hb, hd⟩ := F.ok
  refine ⟨fun pins s σ H Q I h => ?_⟩
  refine wpAny_BinOp (binT ha hb' I h fun v u s2 x y H2 I2 rx ry q => ?_)
  obtain ⟨a1, dx, fs, c1, dy, gs, rfl, ea, rfl, ec, q⟩ := q
  cases rx
  cases ry
  obtain ⟨mA, J, _⟩ := ins_get I2.hok ea
  obtain ⟨mB, J', _⟩ := ins_get I2.hok ec
  obtain ⟨od, J, _⟩ := J.look
  obtain ⟨od', J', _⟩ := J'.look
  obtain ⟨mm, hF⟩ := I2.fr
  refine PySem.W.binop_K hF I.ok.mod.kin J J'.type hc (by rw [hop]; exact F.me.at_) F.me.fn ?_
  exact wpAny_mono (run_fnSD (us := [.ref a1, .ref c1]) (vs := [.ref a1, .ref c1]) (dvs := []) ok hr hb hd (hx σ) I2 (.cons rfl (.cons rfl .nil)) q) (fun v s' hh => cmpBack hh) fun _ _ z => z
/-- a op b, b an int -/
def tBinN (C : Addr) (sp : Sp) (E : L2.St → XK) (ta tb : TE) : TE := fun σ H Q => ta σ H fun x H1 => tb σ H1 fun y H2 => ∃ a dx fs i, x = .ref a ∧ H2 a = some (.ins C dx fs) ∧ y = .int i ∧ sp [x, y] H2 Q (E σ)
structure BinN (K : PySem.W.Frag) (C : Addr) (op : Operator) : Prop where
  sf : PySem.W.selfFirst K C = true
  ex : ∃ rc fo ro, PySem.W.findIn K (.ref C) (PySem.dunderR op.info.2) = some rc ∧ (rc = none ∨ ∃ g : Addr, rc = some (.ref g)) ∧ PySem.W.findIn K (.type "int") (PySem.dunder op.info.2) = some fo ∧ PySem.W.findIn K (.type "int") (PySem.dunderR op.info.2) = some ro ∧ PySem.W.subIn K (.type "int") (.ref C) = some false
theorem pe_binN {op : Operator} (hc : BinN X.K C op) (hop : (PySem.dunder op.info.2 : Str) = m) (F : FM X.prog X.w X.K X.mg X.base k C m ps [] sp) (hr : Room k X.A) (hx : ∀ σ, PassesAt (CXr X) X σ (E σ)) (ha : PE X a ta) (hb' : PE X b tb) :
    PE X (.BinOp a op b pos) (tBinN C sp E ta tb) := by
  obtain ⟨fd, ds, ok, hb, hd⟩ := F.ok
  obtain ⟨sf, rc, fo, ro, h1, h2, h3, h4, h5⟩ := hc
  refine ⟨fun pins s σ H Q I h => ?_⟩
  refine wpAny_BinOp (binT ha hb' I h fun v u s2 x y H2 I2 rx ry q => ?_)
  obtain ⟨a1, dx, fs, i, rfl, ea, rfl, q⟩ := q
  cases rx
  obtain ⟨ti, rfl⟩ := ry
  obtain ⟨mA, J, _⟩ := ins_get I2.hok ea
  obtain ⟨od, J, _⟩ := J.look
  obtain ⟨mm, hF⟩ := I2.fr
  refine PySem.W.ksp_binT (T := "int") hF I.ok.mod.kin J rfl sf (by rw [hop]; exact F.me.at_) F.me.fn h1 h2 h3 h4 h5 ?_
  exact wpAny_mono (run_fnSD (us := [.ref a1, .int i ti]) (vs := [.ref a1, .int i]) (dvs := []) ok hr hb hd (hx σ) I2 (.cons rfl (.cons ⟨ti, rfl⟩ .nil)) q) (fun v s' hh => cmpBack hh) fun _ _ z => z
end
end PyI
namespace PyI
open PySem PySem.Spec PySem.Calls PyProof.Rows L2
section
variable {X : Cx} {k : Nat} {C : Addr} {ps : List Str} {sp : Sp}
/-- len(x), x of the class C -/
def rLenI (C : Addr) (sp : Sp) : List V → Hp → VK → Prop := fun xs H Q => ∃ a dx fs, xs = [.ref a] ∧ H a = some (.ins C dx fs) ∧ sp [.ref a] H (fun v H' => ∃ n : Int, v = .int n ∧ 0 ≤ n ∧ n < 2 ^ 63 ∧ Q (.int n) H') E0
theorem call_lenI (F : FM X.prog X.w X.K X.mg X.base k C "__len__" ps [] sp) (hr : Room (k + 1) X.A) : CallR X (.builtin "len") (rLenI C sp) := by
  obtain ⟨fd, ds, ok, hb, hd⟩ := F.ok
  cases hd
  intro pins s σ H xs us Q I r h
  obtain ⟨a, dx, fs, rfl, ea, q⟩ := h
  cases r with
  | cons ra rb =>
    cases rb
    cases ra
    obtain ⟨mA, J, _⟩ := ins_get I.hok ea
    obtain ⟨od, J, _⟩ := J.look
    obtain ⟨mm, hF⟩ := I.fr
    refine PySem.W.len_K hF I.ok.mod.kin J F.me.at_ F.me.fn ?_
    have hl := ok.len _ _ _ _ q
    refine wpAny_call (codeAny_mono (ok.run X.A.in1 X.stack s H ⟨[.ref a], []⟩ [.ref a] [.ref a] _ E0 hr.in1 I.env0.in1 (by
      have z := hb s [.ref a] I.kIn (by simpa using hl)
      simpa using z) (.cons rfl .nil) q) fun r s' hq => ?_)
    cases r with
    | error e => exact PyH.passE (X := X) σ pins H s e s' I hq
    | ok fl =>
      cases fl with
      | ret u =>
        obtain ⟨z, H', I', rz, n, rfl, n0, n1, q3⟩ := I.after hq
        obtain ⟨t, rfl⟩ := rz
        exact ⟨⟨n0, n1⟩, .int n, H', I'.tok _, ⟨_, rfl⟩, q3⟩
      | next => exact hq.elim
      | brk => exact hq.elim
      | cont => exact hq.elim
end
end PyI
namespace PyC
open PySem PySem.Spec PySem.Calls PyProof.Rows L2
structure Cla where
  t : Expr
  i : Expr
  ifs : List Expr
  wi : TI
  g : TG
  tt : TT
  vs : List Nat
abbrev TEm := L2.St → Hp → (Hp → Prop) → Prop
end PyC
namespace PyC
open PySem PySem.Spec PySem.Calls PyProof.Rows L2
end PyC
namespace PyC
open PySem PySem.Spec PySem.Calls PyProof.Rows L2
end PyC
namespace PyD
open PySem PySem.Spec L2 PyC
section
variable {K : PySem.W.Frag} {W : WX} {ex : Ek} {G : Gm} {O : Ow} {P : D → Ow → Prop} {E : EnD} {ta tb te tc tk tv : TE} {tt uu tt1 : TT} {aa : TA}
theorem Mu.at_ {F H : Hp} {a : Addr} {d : D} (h : Mu K F H a d) : ∃ o, H a = Option.some o ∧ (∀ vs, o ≠ .tup vs) ∧ ∀ F' H', Ex F F' → H' a = Option.some o → Mu K F' H' a d := by
  obtain ⟨o, ho⟩ := h.some
  exact ⟨o, ho, fun vs e => h.notup vs (by rw [ho, e]), fun F' H' e h' => h.mono e fun u hu => by rw [ho] at hu; cases hu; exact h'⟩
/-- a new entry -/
def putEnd (acc y z : D) (N : D → Prop) : Prop := (∃ kds k, acc = .dK kds ∧ y = kD k ∧ kds.length < sizeLine ∧ N (.dK (putD kds k z))) ∨ ∃ kds k, acc = .dT kds ∧ y = .tup (k.map kD) ∧ kds.length < sizeLine ∧ N (.dT (putD kds k z))
theorem putEnd.put {F H : Hp} {Dl : Addr} {acc y z : D} {vy vz : V} {N : D → Prop} (h : putEnd acc y z N) (e : Ex F H) (m : Mu K F H Dl acc) (ry : Rp K F y vy) (rz : Rp K F z vz) : ∃ o acc', N acc' ∧ DPut H Dl vy vz (upd H Dl o) ∧ Mu K F (upd H Dl o) Dl acc' := by
  rcases h with ⟨kds, k, rfl, rfl, hl, n⟩ | ⟨kds, k, rfl, rfl, hl, n⟩
  · obtain ⟨kvs, h1, h2, h3⟩ := m
    obtain rfl := kD_v ry
    have rk : RKv K F kds kvs := ⟨h2, h3⟩
    have rp := rk.put (k := k) rz
    exact ⟨_, _, n, .inl ⟨kvs, k, h1, rfl, by rw [← rk.len]; exact hl, rfl⟩, ⟨_, upd_same, rp.1, rp.2⟩⟩
  · obtain ⟨kvs, h1, h2, h3⟩ := m
    have rk : RKv K F kds kvs := ⟨h2, h3⟩
    have rp := rk.put (k := k) rz
    cases ry with
    | @tup b vs _ ht rv =>
      obtain rfl := kDs_v rv
      exact ⟨_, _, n, .inr ⟨kvs, k, b, h1, rfl, e _ _ ht, by rw [← rk.len]; exact hl, rfl⟩, ⟨_, upd_same, rp.1, rp.2⟩⟩
theorem Mu.freeze {F H : Hp} {a : Addr} {d : D} (m : Mu K F H a d) (hF : F a = none) (hd : ∀ C fs, d ≠ .ins C fs) : ∃ o, H a = Option.some o ∧ Rp K (upd F a o) d (.ref a) := by
  cases d <;> first
    | exact m.elim
    | (obtain ⟨vs, h1, h2⟩ := m; exact ⟨_, h1, .lst upd_same (h2.mono (Ex.new hF))⟩)
    | (obtain ⟨vs, h1, h2, h3⟩ := m; exact ⟨_, h1, .dK (.inl upd_same) h2 (h3.mono (Ex.new hF))⟩)
    | (obtain ⟨vs, h1, h2, h3⟩ := m; exact ⟨_, h1, .dT (.inl upd_same) h2 (h3.mono (Ex.new hF))⟩)
    | exact absurd rfl (hd _ _)
end
end PyD
namespace PyD
open PySem PySem.Spec L2 PyC PyI
section
variable {K : PySem.W.Frag} {W : WX} {ex : Ek} {G : Gm} {O : Ow} {P : D → Ow → Prop} {PT : Bool → Ow → Prop} {E : EnD} {ta tb te tc tk tv td : TE} {tt uu tt1 : TT} {t u : TS} {aa : TA}
/-- A: what of O is handed over -/
structure Lent (O A : Ow) : Prop where
  mem : ∀ p ∈ A, ∃ b, (⟨p.a, b, p.d⟩ : Ob) ∈ O
  nd : (A.map Ob.a).Nodup
  lo : ∀ p ∈ A, p.loc = false
theorem S0.callN {Z : En0} {F H : Hp} (S : S0 K Z F H O) {A : Ow} (hA : Lent O A) : S0 K (entry F H A) F H A where
  ex := S.ex
  frame := fun _ _ _ e => e
  fz := fun _ _ => .inl rfl
  alive := fun x hx => by
    obtain ⟨p, hp, rfl⟩ := List.mem_map.mp hx
    obtain ⟨b, hb⟩ := hA.mem p hp
    obtain ⟨o, ho⟩ := (S.own _ hb).2.1.some
    have ho : H p.a = some o := ho
    rw [ho]
    intro z
    cases z
  own := fun p hp => by
    obtain ⟨b, hb⟩ := hA.mem p hp
    obtain ⟨h1, h2, _⟩ := S.own _ hb
    exact ⟨h1, h2, (fun e => by rw [hA.lo p hp] at e; cases e), fun _ => List.mem_map_of_mem hp⟩
  nd := hA.nd
/-- what has been written into what was handed over -/
def putO (O A : Ow) : Ow := O.map fun p => match A.find? (fun q => decide (q.a = p.a)) with
  | some q => ⟨p.a, p.loc, q.d⟩
  | none => p
theorem putO_a (O A : Ow) : (putO O A).map Ob.a = O.map Ob.a := by
  unfold putO
  rw [List.map_map]
  refine List.map_congr_left fun p _ => ?_
  show Ob.a (match A.find? (fun q => decide (q.a = p.a)) with
    | some q => ⟨p.a, p.loc, q.d⟩
    | none => p) = p.a
  split <;> rfl
theorem nd_one {O : Ow} (nd : (O.map Ob.a).Nodup) {p q : Ob} (hp : p ∈ O) (hq : q ∈ O) (e : p.a = q.a) : p = q := by
  obtain ⟨j, hj, rfl⟩ := List.getElem_of_mem hq
  have h : O[j]? = some ⟨O[j].a, O[j].loc, O[j].d⟩ := List.getElem?_eq_getElem hj
  exact nd_idx nd h hp e
theorem putO_same {O A : Ow} (nd : (O.map Ob.a).Nodup) (hA : Lent O A) : putO O A = O := by
  unfold putO
  conv => rhs; rw [← List.map_id O]
  refine List.map_congr_left fun p hp => ?_
  show (match A.find? (fun q => decide (q.a = p.a)) with
    | some q => (⟨p.a, p.loc, q.d⟩ : Ob)
    | none => p) = p
  cases e : A.find? (fun q => decide (q.a = p.a)) with
  | none => rfl
  | some q =>
    have h1 := List.mem_of_find?_eq_some e
    have h2 : q.a = p.a := by simpa using List.find?_some e
    obtain ⟨b, hb⟩ := hA.mem q h1
    have h3 := nd_one nd hb hp h2
    show (⟨p.a, p.loc, q.d⟩ : Ob) = p
    rw [← h3]
theorem S0.backN {Z : En0} {F H F' H' : Hp} {N A A' : Ow} (S : S0 K Z F H O) (hA : Lent O A) (ea : A'.map Ob.a = A.map Ob.a) (S' : S0 K (entry F H A) F' H' (N ++ A')) : S0 K Z F' H' (N ++ putO O A') ∧ Ex F F' := by
  have inM : ∀ x, x ∈ (entry F H A).M ↔ x ∈ A.map Ob.a := fun x => Iff.rfl
  have keep : ∀ x o, x ∉ A.map Ob.a → H x = some o → H' x = some o := fun x o hx e => S'.frame x o hx e
  have eF : Ex F F' := fun x o e => by
    have h1 := S.ex x o e
    exact S'.fzk e (by show H x ≠ none; rw [h1]; intro z; cases z)
  have nd' := S'.nd
  rw [List.map_append, ea] at nd'
  have nda : ∀ p ∈ N, p.a ∉ A.map Ob.a := fun p hp h => (List.nodup_append.mp nd').2.2 p.a (List.mem_map_of_mem hp) p.a h rfl
  have loc : ∀ p ∈ N, p.loc = true ∧ H p.a = none := fun p hp => by
    obtain ⟨_, _, h3, h4⟩ := S'.own p (List.mem_append_left _ hp)
    cases hb : p.loc with
    | true => exact ⟨rfl, h3 hb⟩
    | false => exact absurd (h4 hb) (nda p hp)
  have alive' : ∀ x ∈ A.map Ob.a, H' x ≠ none := fun x hx => S'.alive x hx
  have inZ : ∀ x ∈ A.map Ob.a, ∀ o, Z.H x = some o → x ∈ Z.M := fun x hx o e => by
    obtain ⟨p, hp, rfl⟩ := List.mem_map.mp hx
    obtain ⟨b, hb⟩ := hA.mem p hp
    obtain ⟨_, _, h3, h4⟩ := S.own _ hb
    cases b with
    | true =>
      have h5 : Z.H p.a = none := h3 rfl
      rw [h5] at e
      cases e
    | false => exact h4 rfl
  refine ⟨⟨S'.ex, fun x o hm e => ?_, fun x e => ?_, fun x hm e => ?_, fun p hp => ?_, ?_⟩, eF⟩
  · exact keep x o (fun hx => hm (inZ x hx o e)) (S.frame x o hm e)
  · have h1 : H x ≠ none := fun z => e (S.fresh z)
    exact S.fzt S' e h1
  · by_cases hx : x ∈ A.map Ob.a
    · exact alive' x hx e
    · cases e2 : H x with
      | none => exact S.alive x hm e2
      | some o =>
        rw [keep x o hx e2] at e
        cases e
  · rcases List.mem_append.mp hp with hp | hp
    · obtain ⟨h1, h2, _, _⟩ := S'.own p (List.mem_append_left _ hp)
      obtain ⟨l1, l2⟩ := loc p hp
      exact ⟨h1, h2, fun _ => S.fresh l2, fun e => by rw [l1] at e; cases e⟩
    · obtain ⟨r, hr, rfl⟩ := List.mem_map.mp hp
      obtain ⟨k1, k2, k3⟩ := S.own r hr
      obtain ⟨o, ho⟩ := k2.some
      have hn : H r.a ≠ none := by rw [ho]; intro z; cases z
      cases e : A'.find? (fun q => decide (q.a = r.a)) with
      | some q =>
        have h1 := List.mem_of_find?_eq_some e
        have h2 : q.a = r.a := by simpa using List.find?_some e
        obtain ⟨_, m2, _, _⟩ := S'.own q (List.mem_append_right _ h1)
        rw [h2] at m2
        exact ⟨S'.fzn k1 hn m2 rfl, m2, k3⟩
      | none =>
        have hx : r.a ∉ A.map Ob.a := fun hx => by
          rw [← ea] at hx
          obtain ⟨q, hq, e2⟩ := List.mem_map.mp hx
          have h3 := List.find?_eq_none.mp e q hq
          simp [e2] at h3
        have hk := keep _ o hx ho
        refine ⟨S'.fzn k1 hn k2 (by show H r.a = H' r.a; rw [ho, hk]), k2.mono eF (fun u hu => keep _ u hx hu), k3⟩
  · rw [List.map_append, putO_a]
    refine List.nodup_append.mpr ⟨(List.nodup_append.mp nd').1, S.nd, fun x hx y hy e => ?_⟩
    subst e
    obtain ⟨p, hp, rfl⟩ := List.mem_map.mp hx
    obtain ⟨r, hr, e⟩ := List.mem_map.mp hy
    obtain ⟨o, ho⟩ := (S.own r hr).2.1.some
    rw [e, (loc p hp).2] at ho
    cases ho
theorem lent_nil : Lent O [] := ⟨fun _ h => (by cases h), .nil, fun _ h => (by cases h)⟩
/-- a promise is called upon: A is handed over, none of it is written -/
theorem sp_goN {sp : DSp} {Z : En0} {F H : Hp} {A : Ow} {ds : List D} {vs : List V} {k : D → Ow → Prop} {x : Xc → Ow → Prop} {Q : VK} {E0 : XK} (S : S0 K Z F H O) (hA : Lent O A) (r : Rps K F ds vs)
    (h : sp ds A (fun d N => ∃ M, N = M ++ A ∧ k d (M ++ O)) (fun e N => ∃ M, N = M ++ A ∧ x e (M ++ O))) (qk : ∀ d O' v F' H', S0 K Z F' H' O' → Ex F F' → Rp K F' d v → k d O' → Q v H')
    (qx : ∀ e O' dd F' H', S0 K Z F' H' O' → Ex F F' → XR K F' e dd → x e O' → E0 (.ref e.cls) dd H') : toSp K sp vs H Q E0 := by
  refine ⟨ds, F, A, _, _, S.callN hA, hA.lo, r, h, fun d N v F' H' S' r' hk => ?_, fun e N dd F' H' S' r' hk => ?_⟩
  · obtain ⟨M, rfl, hk⟩ := hk
    obtain ⟨S2, e2⟩ := S.backN hA rfl S'
    rw [putO_same S.nd hA] at S2
    exact qk d _ v F' H' S2 e2 r' hk
  · obtain ⟨M, rfl, hk⟩ := hk
    obtain ⟨S2, e2⟩ := S.backN hA rfl S'
    rw [putO_same S.nd hA] at S2
    exact qx e _ dd F' H' S2 e2 r' hk
theorem sp_go0 {sp : DSp} {Z : En0} {F H : Hp} {ds : List D} {vs : List V} {k : D → Ow → Prop} {x : Xc → Ow → Prop} {Q : VK} {E0 : XK} (S : S0 K Z F H O) (r : Rps K F ds vs)
    (h : sp ds [] (fun d N => k d (N ++ O)) (fun e N => x e (N ++ O))) (qk : ∀ d O' v F' H', S0 K Z F' H' O' → Ex F F' → Rp K F' d v → k d O' → Q v H')
    (qx : ∀ e O' dd F' H', S0 K Z F' H' O' → Ex F F' → XR K F' e dd → x e O' → E0 (.ref e.cls) dd H') : toSp K sp vs H Q E0 := by
  refine ⟨ds, F, [], _, _, S.call0, fun _ h => (by cases h), r, h, fun d N v F' H' S' r' hk => ?_, fun e N dd F' H' S' r' hk => ?_⟩
  · obtain ⟨S2, e2⟩ := S.back0 S'
    exact qk d _ v F' H' S2 e2 r' hk
  · obtain ⟨S2, e2⟩ := S.back0 S'
    exact qx e _ dd F' H' S2 e2 r' hk
/-- a call that is handed A and writes none of it -/
theorem wpE_callN {sp : DSp} {dvs : List V} {dds : List D} (hd : ∀ F, Rps K F dds dvs) (h : wpA K W ex aa G O fun ds O1 => ∃ A, Lent O1 A ∧ sp (ds ++ dds) A (fun d N => ∃ M, N = M ++ A ∧ P d (M ++ O1)) (fun x N => ∃ M, N = M ++ A ∧ ex x G (M ++ O1))) :
    wpE K W ex (tCallSD (toSp K sp) dvs (WE W) aa) G O P := fun Z F H σ X S s Q q =>
  h Z F H σ X S s _ fun ds vs F1 H1 O1 S1 e1 r1 p1 => by
    obtain ⟨A, hA, p1⟩ := p1
    exact sp_goN (x := fun e O' => ex e G O') S1 hA (r1.app (hd F1)) p1 (fun d O' v F' H' S' e' r' hk => q d v F' H' O' S' (e1.trans e') r' hk) fun e O' dd F' H' S' e' r' hk => X e dd F' H' σ G O' (e1.trans e') S' (s.mono (e1.trans e')) r' hk
def insOf (O : Ow) (x : D) (C : Addr) (fs : List (Str × D)) : Prop := x = .ins C fs ∨ ∃ a b, x = .mut a ∧ (⟨a, b, .ins C fs⟩ : Ob) ∈ O
theorem ins_l {C : Addr} {fs : List (Str × D)} : insOf O (.ins C fs) C fs := .inl rfl
theorem insOf.at {Z : En0} {F H : Hp} {x : D} {C : Addr} {fs : List (Str × D)} {v : V} (h : insOf O x C fs) (S : S0 K Z F H O) (r : Rp K F x v) : ∃ a dx gs, v = .ref a ∧ H a = some (.ins C dx gs) ∧ fs.map (·.1) = gs.map (·.1) ∧ Rps K F (fs.map (·.2)) (gs.map (·.2)) := by
  rcases h with rfl | ⟨a, b, rfl, hm⟩
  · cases r with
    | ins h1 h2 h3 => exact ⟨_, _, _, rfl, S.ex _ _ h1, h2, h3⟩
  · cases r
    obtain ⟨_, ⟨dx, vs, h2, h3, h4⟩, _⟩ := S.own _ hm
    exact ⟨_, dx, vs, rfl, h2, h3, h4⟩
theorem fld_some {F : Hp} {f : Str} : ∀ {fs : List (Str × D)} {gs : List (Str × V)}, fs.map (·.1) = gs.map (·.1) → Rps K F (fs.map (·.2)) (gs.map (·.2)) → ∀ {v}, fs.lookup f = some v → ∃ u, gs.lookup f = some u ∧ Rp K F v u
  | [], _, _, _, v, hv => by cases hv
  | p :: fs, [], e, _, v, hv => by cases e
  | (k, dv) :: fs, (k2, gv) :: gs, e, r, v, hv => by
    rw [List.map_cons, List.map_cons, List.cons.injEq] at e
    obtain ⟨e1, e2⟩ := e
    dsimp only at e1
    subst e1
    cases r with
    | cons ra rb =>
      rw [List.lookup_cons] at hv ⊢
      cases hk : f == k with
      | true =>
        rw [hk] at hv
        cases hv
        exact ⟨gv, rfl, ra⟩
      | false =>
        rw [hk] at hv
        exact fld_some e2 rb hv
theorem fld_none {f : Str} : ∀ {fs : List (Str × D)} {gs : List (Str × V)}, fs.map (·.1) = gs.map (·.1) → fs.lookup f = none → gs.lookup f = none
  | [], [], _, _ => rfl
  | [], _ :: _, e, _ => by cases e
  | _ :: _, [], e, _ => by cases e
  | (k, dv) :: fs, (k2, gv) :: gs, e, h => by
    rw [List.map_cons, List.map_cons, List.cons.injEq] at e
    obtain ⟨e1, e2⟩ := e
    dsimp only at e1
    subst e1
    rw [List.lookup_cons] at h ⊢
    cases hk : f == k with
    | true => rw [hk] at h; cases h
    | false =>
      rw [hk] at h
      exact fld_none e2 h
def putA (f : Str) (v : D) : List (Str × D) → List (Str × D)
  | [] => [(f, v)]
  | (g, x) :: r => if g = f then (g, v) :: r else (g, x) :: putA f v r
theorem putA_rp {F : Hp} {f : Str} {v : D} {u : V} (rv : Rp K F v u) : ∀ {fs : List (Str × D)} {gs : List (Str × V)}, fs.map (·.1) = gs.map (·.1) → Rps K F (fs.map (·.2)) (gs.map (·.2)) → (putA f v fs).map (·.1) = (putF f u gs).map (·.1) ∧ Rps K F ((putA f v fs).map (·.2)) ((putF f u gs).map (·.2))
  | [], [], _, _ => ⟨rfl, .cons rv .nil⟩
  | [], _ :: _, e, _ => by cases e
  | _ :: _, [], e, _ => by cases e
  | (k, dv) :: fs, (k2, gv) :: gs, e, r => by
    rw [List.map_cons, List.map_cons, List.cons.injEq] at e
    obtain ⟨e1, e2⟩ := e
    dsimp only at e1
    subst e1
    cases r with
    | cons ra rb =>
      unfold putA putF
      by_cases hk : k = f
      · rw [if_pos hk, if_pos hk]
        exact ⟨by rw [List.map_cons, List.map_cons, e2], .cons rv rb⟩
      · rw [if_neg hk, if_neg hk]
        obtain ⟨h1, h2⟩ := putA_rp rv e2 rb
        exact ⟨by rw [List.map_cons, List.map_cons, h1], .cons ra h2⟩
/-- x.f -/
theorem wpE_fld {f : Str} {C : Addr} (c : Cls K C) (n : NoAttr K C f) (h : wpE K W ex ta G O fun x O1 => ∃ fs v, insOf O1 x C fs ∧ fs.lookup f = some v ∧ P v O1) : wpE K W ex (tFld K ta f) G O P := fun Z F H σ X S s Q q =>
  h Z F H σ X S s _ fun x vx F1 H1 O1 S1 e1 r1 ⟨fs, v, hi, hl, p⟩ => by
    obtain ⟨a, dx, gs, rfl, ha, h2, h3⟩ := hi.at S1 r1
    obtain ⟨w, hw, rw'⟩ := fld_some h2 h3 hl
    exact ⟨a, C, dx, gs, w, rfl, ha, c, n, hw, q v w F1 H1 O1 S1 e1 rw' p⟩
/-- x.f = v -/
theorem wpS_fld {f : Str} {C : Addr} (c : Cls K C) (n : NoAttr K C f) (h : wpE K W ex tv G O fun v O1 => wpE K W ex ta G O1 fun x O2 => ∃ (j : Nat) (a : Addr) (b : Bool) (fs : List (Str × D)), x = .mut a ∧ O2[j]? = some ⟨a, b, .ins C fs⟩ ∧ fs.length < 1000 ∧ E.nx G (O2.set j ⟨a, b, .ins C (putA f v fs)⟩)) :
    wpS K W ex (sFld K ta tv f) G O E := fun Z F H σ X S s D0 q =>
  h Z F H σ X S s _ fun v vv F1 H1 O1 S1 e1 r1 p1 => p1 Z F1 H1 σ (X.mono e1) S1 (s.mono e1) _ fun x vx F2 H2 O2 S2 e2 r2 ⟨j, a, b, fs, hx, hj, hl, p⟩ => by
    subst hx
    cases r2
    obtain ⟨_, ⟨dx, gs, h2, h3, h4⟩, _⟩ := S2.own _ (List.mem_of_getElem? hj)
    obtain ⟨k1, k2⟩ := putA_rp (f := f) (r1.mono e2) h3 h4
    have hlen : gs.length < 1000 := by
      have e := congrArg List.length h3
      simp only [List.length_map] at e
      omega
    exact ⟨a, C, dx, gs, rfl, h2, c, n, hlen, q.nx F2 _ σ G _ (e1.trans e2) (S2.write hj (d' := .ins C (putA f v fs)) ⟨dx, _, upd_same, k1, k2⟩) (s.mono (e1.trans e2)) p⟩
theorem putO_head {O A : Ow} {x : Addr} {d d' : D} (nd : ((⟨x, true, d⟩ :: O : Ow).map Ob.a).Nodup) (hA : Lent O A) : putO (⟨x, true, d⟩ :: O) (⟨x, false, d'⟩ :: A) = ⟨x, true, d'⟩ :: O := by
  have nd2 : (O.map Ob.a).Nodup := (List.nodup_cons.mp nd).2
  have nx : ∀ p ∈ O, p.a ≠ x := fun p hp e => (List.nodup_cons.mp nd).1 (List.mem_map.mpr ⟨p, hp, e⟩)
  have e := putO_same nd2 hA
  have h1 : putO (⟨x, true, d⟩ :: O) (⟨x, false, d'⟩ :: A) = ⟨x, true, d'⟩ :: putO O (⟨x, false, d'⟩ :: A) := by
    unfold putO
    rw [List.map_cons]
    simp
  have h2 : putO O (⟨x, false, d'⟩ :: A) = putO O A := by
    unfold putO
    refine List.map_congr_left fun p hp => ?_
    have h3 : decide (x = p.a) = false := decide_eq_false fun z => nx p hp z.symm
    rw [List.find?_cons]
    simp only [h3]
  rw [h1, h2, e]
theorem lent_head {A : Ow} {x : Addr} {d : D} (hA : Lent O A) (nx : ∀ q ∈ O, q.a ≠ x) : Lent (⟨x, true, d⟩ :: O) (⟨x, false, d⟩ :: A) where
  mem := fun p hp => by
    rcases List.mem_cons.mp hp with rfl | hp
    · exact ⟨true, List.mem_cons_self⟩
    · obtain ⟨b, hb⟩ := hA.mem p hp
      exact ⟨b, List.mem_cons_of_mem _ hb⟩
  nd := by
    rw [List.map_cons, List.nodup_cons]
    refine ⟨fun h => ?_, hA.nd⟩
    obtain ⟨p, hp, e⟩ := List.mem_map.mp h
    obtain ⟨b, hb⟩ := hA.mem p hp
    exact nx _ hb e
  lo := fun p hp => by
    rcases List.mem_cons.mp hp with rfl | hp
    · rfl
    · exact hA.lo p hp
/-- C(e, ..): the new instance stays as its __init__ leaves it -/
theorem wpE_make {C : Addr} {sp : DSp} {dvs : List V} {dds : List D} (hd : ∀ F, Rps K F dds dvs) (h : wpA K W ex aa G O fun ds O1 => ∃ A, Lent O1 A ∧ ∀ x, (∀ q ∈ O1, q.a ≠ x) → sp (.mut x :: (ds ++ dds)) (⟨x, false, .ins C []⟩ :: A)
      (fun r N => r = .non ∧ ∃ M fs, N = M ++ ⟨x, false, .ins C fs⟩ :: A ∧ P (.ins C fs) (M ++ O1)) (fun e N => ∃ M d, N = M ++ ⟨x, false, d⟩ :: A ∧ ex e G (M ++ O1))) : wpE K W ex (tMakeA C (toSp K sp) dvs (WE W) aa) G O P := fun Z F H σ X S s Q q =>
  h Z F H σ X S s _ fun ds vs F1 H1 O1 S1 e1 r1 p1 x dx hx hdx hne => by
    obtain ⟨A, hA, p1⟩ := p1
    have nx := S1.freshO hx
    have hx2 : (upd H1 dx (.own x)) x = none := by rw [upd_ne (fun z => hne z.symm)]; exact hx
    have Sn := (S1.junk (.own x) hdx).new (.ins C dx []) (.ins C []) hx2 ⟨dx, [], upd_same, rfl, .nil⟩
    have hA2 : Lent (⟨x, true, .ins C []⟩ :: O1) (⟨x, false, .ins C []⟩ :: A) := lent_head hA nx
    refine ⟨.mut x :: (ds ++ dds), F1, _, _, _, Sn.callN hA2, hA2.lo, .cons (.mut x) (r1.app (hd F1)), p1 x nx, fun d N v F' H' S' r' hk => ?_, fun e N dd F' H' S' r' hk => ?_⟩
    · obtain ⟨rfl, M, fs, rfl, hk⟩ := hk
      obtain ⟨S2, e2⟩ := Sn.backN (A' := ⟨x, false, .ins C fs⟩ :: A) hA2 rfl S'
      rw [putO_head Sn.nd hA] at S2
      cases r'
      have hj : (M ++ ⟨x, true, .ins C fs⟩ :: O1)[M.length]? = some ⟨x, true, .ins C fs⟩ := by rw [List.getElem?_append_right (Nat.le_refl _), Nat.sub_self] <;> rfl
      obtain ⟨F3, e3, S3, r3⟩ := S2.freeze hj
      have er : (M ++ ⟨x, true, .ins C fs⟩ :: O1).eraseIdx M.length = M ++ O1 := by
        rw [List.eraseIdx_append_of_length_le (Nat.le_refl _), Nat.sub_self] <;> rfl
      rw [er] at S3
      exact ⟨rfl, q _ _ F3 H' _ S3 (e1.trans (e2.trans e3)) r3 hk⟩
    · obtain ⟨M, d, rfl, hk⟩ := hk
      obtain ⟨S2, e2⟩ := Sn.backN (A' := ⟨x, false, d⟩ :: A) hA2 rfl S'
      rw [putO_head Sn.nd hA] at S2
      have S3 := S2.sub (O' := M ++ O1) ((List.Sublist.refl M).append (List.sublist_cons_self _ _))
      exact X e dd F' H' σ G _ (e1.trans e2) S3 (s.mono (e1.trans e2)) r' hk
/-- x.m(e, ..), x an instance that stays -/
theorem wpE_meth {C : Addr} {m : Str} {sp : DSp} {dvs : List V} {dds : List D} (hd : ∀ F, Rps K F dds dvs) (h : wpE K W ex ta G O fun x O1 => ∃ fs, x = .ins C fs ∧ fs.lookup m = none ∧ wpA K W ex aa G O1 fun ds O2 => ∃ A, Lent O2 A ∧
      sp (x :: (ds ++ dds)) A (fun d N => ∃ M, N = M ++ A ∧ P d (M ++ O2)) (fun e N => ∃ M, N = M ++ A ∧ ex e G (M ++ O2))) : wpE K W ex (tMethA C m (toSp K sp) dvs (WE W) ta aa) G O P := fun Z F H σ X S s Q q =>
  h Z F H σ X S s _ fun x vx F1 H1 O1 S1 e1 r1 ⟨fs, hx, hm, p1⟩ => by
    subst hx
    obtain ⟨a, dx, gs, rfl, ha, h2, h3⟩ := (ins_l (O := O1)).at S1 r1
    refine ⟨a, dx, gs, rfl, ha, fld_none h2 hm, p1 Z F1 H1 σ (X.mono e1) S1 (s.mono e1) _ fun ds vs F2 H2 O2 S2 e2 r2 hp => ?_⟩
    obtain ⟨A, hA, p2⟩ := hp
    have e12 := e1.trans e2
    exact sp_goN (x := fun e O' => ex e G O') S2 hA (.cons (r1.mono e2) (r2.app (hd F2))) p2 (fun d O' v F' H' S' e' r' hk => q d v F' H' O' S' (e12.trans e') r' hk) fun e O' dd F' H' S' e' r' hk => X e dd F' H' σ G O' (e12.trans e') S' (s.mono (e12.trans e')) r' hk
/-- -x -/
theorem wpE_negI {C : Addr} {sp : DSp} (h : wpE K W ex ta G O fun x O1 => ∃ fs, x = .ins C fs ∧ sp [x] [] (fun d N => P d (N ++ O1)) (fun e N => ex e G (N ++ O1))) : wpE K W ex (tNegI C (toSp K sp) (WE W) ta) G O P := fun Z F H σ X S s Q q =>
  h Z F H σ X S s _ fun x vx F1 H1 O1 S1 e1 r1 ⟨fs, hx, p1⟩ => by
    subst hx
    obtain ⟨a, dx, gs, rfl, ha, h2, h3⟩ := (ins_l (O := O1)).at S1 r1
    exact ⟨a, dx, gs, rfl, ha, sp_go0 (x := fun e O' => ex e G O') S1 (.cons r1 .nil) p1 (fun d O' v F' H' S' e' r' hk => q d v F' H' O' S' (e1.trans e') r' hk) fun e O' dd F' H' S' e' r' hk => X e dd F' H' σ G O' (e1.trans e') S' (s.mono (e1.trans e')) r' hk⟩
/-- x op y, both of the class C -/
theorem wpE_binI {C : Addr} {sp : DSp} (h : wpE K W ex ta G O fun x O1 => wpE K W ex tb G O1 fun y O2 => ∃ fs gs, x = .ins C fs ∧ y = .ins C gs ∧ sp [x, y] [] (fun d N => P d (N ++ O2)) (fun e N => ex e G (N ++ O2))) : wpE K W ex (tBinI C (toSp K sp) (WE W) ta tb) G O P := fun Z F H σ X S s Q q =>
  h Z F H σ X S s _ fun x vx F1 H1 O1 S1 e1 r1 p0 => p0 Z F1 H1 σ (X.mono e1) S1 (s.mono e1) _ fun y vy F2 H2 O2 S2 e2 r2 ⟨fs, fs2, hx, hy, p1⟩ => by
    subst hx
    subst hy
    have r1 := r1.mono e2
    obtain ⟨a, dx, gs, rfl, ha, _, _⟩ := (ins_l (O := O2)).at S2 r1
    obtain ⟨c, dy, gs2, rfl, hc, _, _⟩ := (ins_l (O := O2)).at S2 r2
    have e12 := e1.trans e2
    exact ⟨a, dx, gs, c, dy, gs2, rfl, ha, rfl, hc, sp_go0 (x := fun e O' => ex e G O') S2 (.cons r1 (.cons r2 .nil)) p1 (fun d O' v F' H' S' e' r' hk => q d v F' H' O' S' (e12.trans e') r' hk) fun e O' dd F' H' S' e' r' hk => X e dd F' H' σ G O' (e12.trans e') S' (s.mono (e12.trans e')) r' hk⟩
/-- x op n, n an int -/
theorem wpE_binN {C : Addr} {sp : DSp} (h : wpE K W ex ta G O fun x O1 => wpE K W ex tb G O1 fun y O2 => ∃ fs i, x = .ins C fs ∧ y = .int i ∧ sp [x, y] [] (fun d N => P d (N ++ O2)) (fun e N => ex e G (N ++ O2))) : wpE K W ex (tBinN C (toSp K sp) (WE W) ta tb) G O P := fun Z F H σ X S s Q q =>
  h Z F H σ X S s _ fun x vx F1 H1 O1 S1 e1 r1 p0 => p0 Z F1 H1 σ (X.mono e1) S1 (s.mono e1) _ fun y vy F2 H2 O2 S2 e2 r2 ⟨fs, i, hx, hy, p1⟩ => by
    subst hx
    subst hy
    have r1 := r1.mono e2
    obtain ⟨a, dx, gs, rfl, ha, _, _⟩ := (ins_l (O := O2)).at S2 r1
    cases r2
    have e12 := e1.trans e2
    exact ⟨a, dx, gs, i, rfl, ha, rfl, sp_go0 (x := fun e O' => ex e G O') S2 (.cons r1 (.cons (.int i) .nil)) p1 (fun d O' v F' H' S' e' r' hk => q d v F' H' O' S' (e12.trans e') r' hk) fun e O' dd F' H' S' e' r' hk => X e dd F' H' σ G O' (e12.trans e') S' (s.mono (e12.trans e')) r' hk⟩
/-- len(x), x of the class C -/
theorem wpC_lenO {C : Addr} {sp : DSp} {fs : List (Str × D)} (h : sp [.ins C fs] [] (fun d N => ∃ n : Int, d = .int n ∧ 0 ≤ n ∧ n < 2 ^ 63 ∧ P (.int n) (N ++ O)) (fun _ _ => False)) : wpC K (rLenI C (toSp K sp)) [.ins C fs] O P := fun Z F H vs S r Q q => by
  cases r with
  | cons r1 rb =>
    cases rb
    obtain ⟨a, dx, gs, rfl, ha, _, _⟩ := (ins_l (O := O)).at S r1
    refine ⟨a, dx, gs, rfl, ha, sp_go0 (k := fun d O' => ∃ n : Int, d = .int n ∧ 0 ≤ n ∧ n < 2 ^ 63 ∧ P (.int n) O') (x := fun _ _ => False) S (.cons r1 .nil) h (fun d O' v F' H' S' e' r' hk => ?_) fun e O' dd F' H' S' e' r' hk => hk.elim⟩
    obtain ⟨n, rfl, n0, n1, hk⟩ := hk
    cases r'
    exact ⟨n, rfl, n0, n1, q _ _ F' H' O' S' e' (.int n) hk⟩
end
end PyD
namespace PyD
open PySem PySem.Spec L2 PyC
def DictH (u : HO) : Prop := (∃ kvs, u = .dK kvs) ∨ ∃ kvs, u = .dT kvs
/-- the same but for locks -/
def Like (F F2 : Hp) : Prop := ∀ x o, F x = some o → F2 x = some o ∨ ∃ od u, DictH u ∧ (o = u ∨ ∃ od0, o = .frz od0 u) ∧ (F2 x = some u ∨ F2 x = some (.frz od u))
theorem Like.of {F F2 : Hp} {a : Addr} {o : HO} (l : Like F F2) (h : F a = some o) (n1 : ∀ u, DictH u → o ≠ u) (n2 : ∀ od u, DictH u → o ≠ .frz od u) : F2 a = some o := by
  rcases l a o h with k | ⟨od, u, hu, k | ⟨od0, k⟩, _⟩
  · exact k
  · exact absurd k (n1 u hu)
  · exact absurd k (n2 od0 u hu)
theorem DictH.no {u : HO} {P : Prop} (h : DictH u) (k1 : ∀ kvs, u ≠ .dK kvs) (k2 : ∀ kvs, u ≠ .dT kvs) : P := by
  rcases h with ⟨kvs, e⟩ | ⟨kvs, e⟩
  · exact absurd e (k1 kvs)
  · exact absurd e (k2 kvs)
theorem Like.dict {F F2 : Hp} {a : Addr} {u : HO} (l : Like F F2) (hu : DictH u) (h : Rd F a u) : Rd F2 a u := by
  rcases h with h | ⟨od, h⟩
  · rcases l a _ h with k | ⟨od, u2, h2, k, k2⟩
    · exact .inl k
    · have e : u = u2 := by
        rcases k with k | ⟨od0, k⟩
        · exact k
        · subst k
          rcases hu with ⟨_, e⟩ | ⟨_, e⟩ <;> cases e
      subst e
      rcases k2 with k2 | k2
      · exact .inl k2
      · exact .inr ⟨_, k2⟩
  · rcases l a _ h with k | ⟨od, u2, h2, k, k2⟩
    · exact .inr ⟨_, k⟩
    · have e : u = u2 := by
        rcases k with k | ⟨od0, k⟩
        · subst k
          rcases h2 with ⟨_, e⟩ | ⟨_, e⟩ <;> cases e
        · cases k
          rfl
      subst e
      rcases k2 with k2 | k2
      · exact .inl k2
      · exact .inr ⟨_, k2⟩
theorem Like.seq {K : PySem.W.Frag} {F F2 : Hp} {a : Addr} {vs : List V} (l : Like F F2) (h : SqL K F a vs) : SqL K F2 a vs := by
  rcases h with (h | ⟨o, h⟩) | h
  · exact .inl (.inl (l.of h (fun u hu e => hu.no (fun _ z => by rw [z] at e; cases e) fun _ z => by rw [z] at e; cases e) fun _ u hu e => by cases e))
  · refine .inl (.inr ⟨o, l.of h (fun u hu e => hu.no (fun _ z => by rw [z] at e; cases e) fun _ z => by rw [z] at e; cases e) fun _ u hu e => ?_⟩)
    cases e
    exact hu.no (fun _ z => by cases z) fun _ z => by cases z
  · exact .inr h
end PyD
namespace PyD
open PySem PySem.Spec L2 PyC PyI
section
variable {K : PySem.W.Frag} {W : WX} {ex : Ek} {G : Gm} {O : Ow} {P : D → Ow → Prop} {PT : Bool → Ow → Prop} {E : EnD} {ta tb te tc tk tv td : TE} {tt uu tt1 : TT} {t u : TS} {aa : TA}
def pick (O : Ow) : List Nat → Ow
  | [] => []
  | j :: js => match O[j]? with
    | some p => ⟨p.a, false, p.d⟩ :: pick O js
    | none => pick O js
def bk : Ow → List D → Ow
  | p :: A, d :: ds => ⟨p.a, false, d⟩ :: bk A ds
  | A, _ => A
def setO (O : Ow) : List Nat → List D → Ow
  | j :: js, d :: ds => match O[j]? with
    | some p => setO (O.set j ⟨p.a, p.loc, d⟩) js ds
    | none => setO O js ds
  | _, _ => O
theorem bk_a : ∀ (A : Ow) (ds : List D), (bk A ds).map Ob.a = A.map Ob.a
  | [], [] => rfl
  | [], _ :: _ => rfl
  | _ :: _, [] => rfl
  | p :: A, d :: ds => by
    show p.a :: (bk A ds).map Ob.a = _
    rw [bk_a A ds] <;> rfl
theorem pick_mem {O : Ow} : ∀ {js : List Nat} {p : Ob}, p ∈ pick O js → ∃ j ∈ js, ∃ b, O[j]? = some ⟨p.a, b, p.d⟩ ∧ p.loc = false
  | [], p, h => by cases h
  | j :: js, p, h => by
    unfold pick at h
    cases e : O[j]? with
    | none =>
      rw [e] at h
      obtain ⟨i, hi, k⟩ := pick_mem h
      exact ⟨i, List.mem_cons_of_mem _ hi, k⟩
    | some q =>
      rw [e] at h
      rcases List.mem_cons.mp h with rfl | h
      · exact ⟨j, List.mem_cons_self, q.loc, e, rfl⟩
      · obtain ⟨i, hi, k⟩ := pick_mem h
        exact ⟨i, List.mem_cons_of_mem _ hi, k⟩
theorem pick_lent {O : Ow} (nd : (O.map Ob.a).Nodup) : ∀ {js : List Nat}, js.Nodup → Lent O (pick O js)
  | [], _ => lent_nil
  | j :: js, h => by
    have ih := pick_lent nd (List.nodup_cons.mp h).2
    unfold pick
    cases e : O[j]? with
    | none => exact ih
    | some q =>
      refine ⟨fun p hp => ?_, ?_, fun p hp => ?_⟩
      · rcases List.mem_cons.mp hp with rfl | hp
        · exact ⟨q.loc, List.mem_of_getElem? e⟩
        · exact ih.mem p hp
      · rw [List.map_cons, List.nodup_cons]
        refine ⟨fun z => ?_, ih.nd⟩
        obtain ⟨p, hp, z⟩ := List.mem_map.mp z
        obtain ⟨i, hi, b, k, _⟩ := pick_mem hp
        have h1 : (O.map Ob.a)[i]? = some q.a := by rw [List.getElem?_map, k]; exact congrArg some z
        have h2 : (O.map Ob.a)[j]? = some q.a := by rw [List.getElem?_map, e]; rfl
        have h3 := nd_ix nd h1 h2
        subst h3
        exact (List.nodup_cons.mp h).1 hi
      · rcases List.mem_cons.mp hp with rfl | hp
        · rfl
        · exact ih.lo p hp
theorem putO_nil {O : Ow} : putO O [] = O := by
  unfold putO
  conv => rhs; rw [← List.map_id O]
  rfl
theorem putO_cons {O A : Ow} (nd : (O.map Ob.a).Nodup) {j : Nat} {p : Ob} {d : D} (hj : O[j]? = some p) (nA : p.a ∉ A.map Ob.a) : putO O (⟨p.a, false, d⟩ :: A) = putO (O.set j ⟨p.a, p.loc, d⟩) A := by
  have hl : j < O.length := (List.getElem?_eq_some_iff.mp hj).1
  apply List.ext_getElem?
  intro i
  unfold putO
  rw [List.getElem?_map, List.getElem?_map]
  by_cases h : j = i
  · subst h
    rw [List.getElem?_set_self hl, hj]
    have hn : A.find? (fun q => decide (q.a = p.a)) = none := List.find?_eq_none.mpr fun q hq z => nA (List.mem_map.mpr ⟨q, hq, by simpa using z⟩)
    simp [List.find?_cons, hn]
  · rw [List.getElem?_set_ne h]
    cases e : O[i]? with
    | none => rfl
    | some r =>
      have hne : p.a ≠ r.a := fun z => h (nd_ix (l := O.map Ob.a) nd (by rw [List.getElem?_map, hj]; rfl) (by rw [List.getElem?_map, e]; exact congrArg some z.symm))
      simp [List.find?_cons, hne]
theorem putO_pick {O : Ow} (nd : (O.map Ob.a).Nodup) : ∀ {js : List Nat} {ds : List D} (A : Ow), js.Nodup → (∀ j ∈ js, j < O.length) → ds.length = js.length → A = pick O js → putO O (bk A ds) = setO O js ds := by
  intro js
  induction js generalizing O with
  | nil =>
    intro ds A _ _ hl e
    subst e
    cases ds with
    | nil => exact putO_nil
    | cons _ _ => cases hl
  | cons j js ih =>
    intro ds A hn hb hl e
    cases ds with
    | nil => cases hl
    | cons d ds =>
      have hj : j < O.length := hb j List.mem_cons_self
      have ej : O[j]? = some O[j] := List.getElem?_eq_getElem hj
      have hn2 := List.nodup_cons.mp hn
      subst e
      unfold pick setO
      rw [ej]
      show putO O (⟨O[j].a, false, d⟩ :: bk (pick O js) ds) = setO (O.set j ⟨O[j].a, O[j].loc, d⟩) js ds
      have nA : O[j].a ∉ (bk (pick O js) ds).map Ob.a := fun z => by
        rw [bk_a] at z
        obtain ⟨p, hp, z⟩ := List.mem_map.mp z
        obtain ⟨i, hi, b, k, _⟩ := pick_mem hp
        have h3 := nd_ix (l := O.map Ob.a) nd (i := i) (j := j) (by rw [List.getElem?_map, k]; exact congrArg some z) (by rw [List.getElem?_map, ej]; rfl)
        subst h3
        exact hn2.1 hi
      rw [putO_cons nd ej nA]
      have nd2 : ((O.set j ⟨O[j].a, O[j].loc, d⟩).map Ob.a).Nodup := by
        have e2 : (O.set j ⟨O[j].a, O[j].loc, d⟩).map Ob.a = O.map Ob.a := map_a_set (b := O[j].loc) (d := O[j].d) ej
        rw [e2]
        exact nd
      have ep : pick O js = pick (O.set j ⟨O[j].a, O[j].loc, d⟩) js := by
        have key : ∀ l : List Nat, j ∉ l → pick O l = pick (O.set j ⟨O[j].a, O[j].loc, d⟩) l := by
          intro l
          induction l with
          | nil => intro _; rfl
          | cons i l ihl =>
            intro hm
            have h1 : j ≠ i := fun z => hm (by rw [z]; exact List.mem_cons_self)
            unfold pick
            rw [List.getElem?_set_ne h1, ihl fun z => hm (List.mem_cons_of_mem _ z)]
        exact key js hn2.1
      exact ih nd2 (pick O js) hn2.2 (fun i hi => by rw [List.length_set]; exact hb i (List.mem_cons_of_mem _ hi)) (by simpa using hl) ep
/-- a call that is handed the owned objects at js, and may write them -/
theorem wpE_callJ (js : List Nat) {sp : DSp} {dvs : List V} {dds : List D} (hd : ∀ F, Rps K F dds dvs) (h : wpA K W ex aa G O fun ds O1 => js.Nodup ∧ (∀ j ∈ js, j < O1.length) ∧ sp (ds ++ dds) (pick O1 js)
      (fun d N => ∃ M es, es.length = js.length ∧ N = M ++ bk (pick O1 js) es ∧ P d (M ++ setO O1 js es)) (fun x N => ∃ M es, es.length = js.length ∧ N = M ++ bk (pick O1 js) es ∧ ex x G (M ++ setO O1 js es))) :
    wpE K W ex (tCallSD (toSp K sp) dvs (WE W) aa) G O P := fun Z F H σ X S s Q q =>
  h Z F H σ X S s _ fun ds vs F1 H1 O1 S1 e1 r1 p1 => by
    obtain ⟨hn, hb, p1⟩ := p1
    have hA := pick_lent S1.nd hn
    refine ⟨ds ++ dds, F1, pick O1 js, _, _, S1.callN hA, hA.lo, r1.app (hd F1), p1, fun d N v F' H' S' r' hk => ?_, fun e N dd F' H' S' r' hk => ?_⟩
    · obtain ⟨M, es, hl, rfl, hk⟩ := hk
      obtain ⟨S2, e2⟩ := S1.backN hA (bk_a _ _) S'
      rw [putO_pick S1.nd _ hn hb hl rfl] at S2
      exact q d v F' H' _ S2 (e1.trans e2) r' hk
    · obtain ⟨M, es, hl, rfl, hk⟩ := hk
      obtain ⟨S2, e2⟩ := S1.backN hA (bk_a _ _) S'
      rw [putO_pick S1.nd _ hn hb hl rfl] at S2
      exact X e dd F' H' σ G _ (e1.trans e2) S2 (s.mono (e1.trans e2)) r' hk
mutual
def subD (a : Addr) (c : D) : D → D
  | .mut b => if b = a then c else .mut b
  | .lst xs => .lst (subDs a c xs)
  | .tup xs => .tup (subDs a c xs)
  | d => d
def subDs (a : Addr) (c : D) : List D → List D
  | [] => []
  | x :: xs => subD a c x :: subDs a c xs
end
mutual
theorem Rp.sub {F : Hp} {a : Addr} {c : D} (hc : Rp K F c (.ref a)) : ∀ {d : D} {v : V}, Rp K F d v → Rp K F (subD a c d) v
  | _, _, .non => .non
  | _, _, .bl b => .bl b
  | _, _, .int i => .int i
  | _, _, .str s => .str s
  | _, _, .ref a => .ref a
  | _, _, .mut b => by
    unfold subD
    by_cases h : b = a
    · rw [if_pos h, h]
      exact hc
    · rw [if_neg h]
      exact .mut b
  | _, _, .ty n => .ty n
  | _, _, .lst h r => .lst h (Rps.sub hc r)
  | _, _, .kl h r => .kl h r
  | _, _, .tup h r => .tup h (Rps.sub hc r)
  | _, _, .dK h k r => .dK h k r
  | _, _, .dT h k r => .dT h k r
  | _, _, .ins h k r => .ins h k r
  | _, _, .exc0 a C => .exc0 a C
  | _, _, .exc1 h k r => .exc1 h k r
theorem Rps.sub {F : Hp} {a : Addr} {c : D} (hc : Rp K F c (.ref a)) : ∀ {ds : List D} {vs : List V}, Rps K F ds vs → Rps K F (subDs a c ds) vs
  | _, _, .nil => .nil
  | _, _, .cons h r => .cons (Rp.sub hc h) (Rps.sub hc r)
end
theorem subDs_ints {a : Addr} {c : D} : ∀ ns : List Int, subDs a c (ns.map D.int) = ns.map D.int
  | [] => rfl
  | n :: ns => by
    show subD a c (.int n) :: subDs a c (ns.map D.int) = _
    rw [subDs_ints ns] <;> rfl
def subG (a : Addr) (c : D) (G : Gm) : Gm := G.map fun x => x.map (subD a c)
theorem Slots.sub {F : Hp} {σ : L2.St} {a : Addr} {c : D} (hc : Rp K F c (.ref a)) (s : Slots K F G σ) : Slots K F (subG a c G) σ := by
  refine ⟨by unfold subG; rw [List.length_map]; exact s.len, fun i d h => ?_⟩
  unfold subG at h
  rw [List.getElem?_map] at h
  cases e : G[i]? with
  | none => rw [e] at h; cases h
  | some x =>
    rw [e] at h
    cases x with
    | none => cases h
    | some d0 =>
      have h2 : subD a c d0 = d := by simpa using h
      obtain ⟨v, h3, h4⟩ := s.at_ i d0 e
      exact ⟨v, h3, h2 ▸ Rp.sub hc h4⟩
/-- the owned object at j stays as it is from now on, wherever it stands in the slots -/
theorem wpS_frzA (j : Nat) {a : Addr} {d : D} (hj : O[j]? = some ⟨a, true, d⟩) (h : wpS K W ex t (subG a d G) (O.eraseIdx j) E) : wpS K W ex t G O E := fun Z F H σ X S s D0 q => by
  obtain ⟨F', e, S', r⟩ := S.freeze hj
  exact h Z F' H σ (X.mono e) S' (Slots.sub r (s.mono e)) D0 (q.mono e)
/-- what is owned stands at different places -/
theorem wpS_nd (h : (O.map Ob.a).Nodup → wpS K W ex t G O E) : wpS K W ex t G O E := fun Z F H σ X S s D0 q => h S.nd Z F H σ X S s D0 q
def tOrE (t u : TE) : TE := fun σ H Q => t σ H Q ∨ u σ H Q
theorem pc_or {X : Cx} {op : CmpOp} {a b : Expr} (h : PC X op a b ta) (h' : PC X op a b tb) : PC X op a b (tOrE ta tb) := ⟨fun pins s σ H Q I q => by
  rcases q with q | q
  · exact h.run pins s σ H Q I q
  · exact h'.run pins s σ H Q I q⟩
theorem wpE_or1 (h : wpE K W ex ta G O P) : wpE K W ex (tOrE ta tb) G O P := fun Z F H σ X S s Q q => .inl (h Z F H σ X S s Q q)
theorem wpE_or2 (h : wpE K W ex tb G O P) : wpE K W ex (tOrE ta tb) G O P := fun Z F H σ X S s Q q => .inr (h Z F H σ X S s Q q)
theorem wpG_lst {n : Nat} {gs : TGs} {x : D} {ds : List D} {PG : Gm → Ow → Prop} (hx : seqOf O x ds) (hn : ds.length = n) (h : wpGs K gs ds G O PG) : wpG K (gLst K n gs) x G O PG := fun Z F H σ v S s r Q q => by
  obtain ⟨a, vs, rfl, ha, rv⟩ := hx.at S r
  exact ⟨a, vs, rfl, ha, by rw [← rv.length]; exact hn, h Z F H σ _ S s rv Q q⟩
theorem wpE_chain {r r' : R2} (h : wpE K W ex ta G O fun x O1 => wpE K W ex tb G O1 fun y O2 => wpR K r x y O2 fun z O3 => ∃ k, z = .bl k ∧ (k = true → wpE K W ex tc G O3 fun w O4 => wpR K r' y w O4 P) ∧ (k = false → P (.bl false) O3)) : wpE K W ex (tChain r r' ta tb tc) G O P := fun Z F H σ X S s Q q =>
  h Z F H σ X S s _ fun x vx F1 H1 O1 S1 e1 r1 p1 => p1 Z F1 H1 σ (X.mono e1) S1 (s.mono e1) _ fun y vy F2 H2 O2 S2 e2 r2 p2 => p2 Z F2 H2 vx vy S2 (r1.mono e2) r2 _ fun z vz F3 H3 O3 S3 e3 r3 p3 => by
    obtain ⟨k, rfl, pt, pf⟩ := p3
    cases r3
    have e13 := e1.trans (e2.trans e3)
    refine ⟨k, rfl, ?_⟩
    cases k with
    | false => exact q _ _ F3 H3 O3 S3 e13 (.bl false) (pf rfl)
    | true => exact pt rfl Z F3 H3 σ (X.mono e13) S3 (s.mono e13) _ fun w vw F4 H4 O4 S4 e4 r4 p4 => p4 Z F4 H4 vy vw S4 ((r2.mono e3).mono e4) r4 Q fun d v F5 H5 O5 S5 e5 r5 p5 => q d v F5 H5 O5 S5 (e13.trans (e4.trans e5)) r5 p5
theorem Rps.reverse {F : Hp} : ∀ {ds : List D} {vs : List V}, Rps K F ds vs → Rps K F ds.reverse vs.reverse
  | _, _, .nil => .nil
  | _, _, .cons a r => by
    rw [List.reverse_cons, List.reverse_cons]
    exact (Rps.reverse r).app (.one a)
theorem wpE_revL (fr : Bool) (h : wpE K W ex te G O fun x O1 => ∃ xs, seqOf O1 x xs ∧ lcEnd fr xs.reverse O1 P) : wpE K W ex (tRevL K te) G O P := fun Z F H σ X S s Q q =>
  h Z F H σ X S s _ fun x vx F1 H1 O1 S1 e1 r1 ⟨xs, hx, p⟩ => by
    obtain ⟨a, vs, rfl, ha, rv⟩ := hx.at S1 r1
    exact ⟨a, vs, rfl, ha, mk_new S1 rv.reverse p fun d v F' H' O' S' e r p => q d v F' H' O' S' (e1.trans e) r p⟩
theorem wpE_cval {f : Str} {C : Addr} {mc : Value} {v : V} {u : Value} {d : D} (c : ClX.CRead K C mc) (k : ClX.CVal K C mc f v u) (hd : ∀ F, Rp K F d v) (h : wpE K W ex ta G O fun x O1 => x = .ref C ∧ P d O1) : wpE K W ex (ClX.tCVal K ta f) G O P := fun Z F H σ X S s Q q =>
  h Z F H σ X S s _ fun x vx F1 H1 O1 S1 e1 r1 ⟨hx, p⟩ => by
    subst hx
    cases r1
    exact ⟨C, mc, v, u, rfl, c, k, q d v F1 H1 O1 S1 e1 (hd F1) p⟩
/-- isinstance(x, C), x an instance of C -/
def rIsC (C : Addr) : List V → Hp → VK → Prop := fun xs H Q => ∃ a dx fs, xs = [.ref a, .ref C] ∧ H a = some (.ins C dx fs) ∧ Q (.bl true) H
theorem wpC_isC {C : Addr} {fs : List (Str × D)} (p : P (.bl true) O) : wpC K (rIsC C) [.ins C fs, .ref C] O P := fun Z F H vs S r Q q => by
  cases r with
  | cons ra rb =>
    cases rb with
    | cons rc rd =>
      cases rd
      cases rc
      obtain ⟨a, dx, gs, rfl, ha, _, _⟩ := (ins_l (O := O)).at S ra
      exact ⟨a, dx, gs, rfl, ha, q _ _ F H O S (Ex.refl F) (.bl _) p⟩
end
end PyD
namespace PyH
open PySem PySem.Spec PyProof.Rows L2 PyI
/-- a method's body: from its walk to FM -/
theorem fm_of {P : Program} {w : World} {K : PySem.W.Frag} {mg : Str → Option Value} {base : Heap} {C : Addr} {m qual : Str} {st : Stmt} {N ps : List Str} {k : Nat} {dvs : List V} {sp : PyD.DSp} {ts : WX → TS} (F : ∃ fd, FunD K m qual (defArgs st) (defBody st) (defScope st) dvs [] (He.ma K C m) fd) (M : Meth K C m (He.ma K C m))
    (S : FnScope N ps (defScope st)) (len : ∀ ds O k x, sp ds O k x → ds.length = ps.length)
    (hb : ∀ fd, FunD K m qual (defArgs st) (defBody st) (defScope st) dvs [] (He.ma K C m) fd → ∃ ds, Binds K fd ps ds ∧ Vals dvs ds)
    (der : ∀ (cdv : Value) (A : Around) (outer : List Env) (s : Shared) (H : Hp) (E : XK), Room k (A.deeper (envOfC qual (defScope st) s.heap.objs.size (He.ma K C m) cdv)) →
      PSs (cxOf (L2.CX P w) P w K mg base N qual (defScope st) (He.ma K C m) cdv A outer s H E) (defBody st) (ts fun cls d _ H => E cls d H))
    (walk : ∀ W ds O k x, sp ds O k x → (∀ p ∈ O, p.loc = false) → PyD.wpS K W (fun e _ O' => x e O') (ts W) (PyD.startD N.length ds) O { nx := fun _ O' => k .non O', rt := k }) : FM P w K mg base (k + 1) C m ps dvs (PyD.toSp K sp) := by
  obtain ⟨fd, F⟩ := F
  obtain ⟨ds, hb1, hb2⟩ := hb fd F
  exact ⟨M, fd, ds, F.ok S (PyD.toSp_len len) (fun cdv A outer s H vs Q E hr h => ⟨_, der cdv A outer s H E hr, PyD.body_ok walk vs H Q E h⟩), hb1, hb2⟩
theorem bindsM {K : PySem.W.Frag} {x qual : Str} {st : Stmt} {ps : List Str} {f : Addr} {fd : FuncData} (F : FunD K x qual (defArgs st) (defBody st) (defScope st) [] [] f fd)
    (h : ∀ (kV doc pm : Value) (an : Option Addr) (cdv ct : Value) (us : List Value), us.length = ps.length → bindArgs (PySem.W.fnOf x qual (defArgs st) (defBody st) (defScope st) .none kV doc pm an cdv ct) ⟨us, []⟩ = pure (ps.zip us)) : ∃ ds, Binds K fd ps ds ∧ Vals [] ds :=
  ⟨[], F.bindsN h, .nil⟩
def insCB (K : PySem.W.Frag) (C : Addr) : Bool := He.eqO (PySem.W.findIn K (.ref C) "__class__") (some (some (.builtin "object.__class__"))) && (He.eqO (PySem.W.specialIn K (.builtin "object.__class__") "__get__") (some (some (.builtin "getset_descriptor.__get__"))) && (decide (PySem.W.takesIn K (.builtin "object.__class__") = some true) && (decide (PySem.W.mroIn K C (.type "object") = some true) && decide (PySem.W.kitOne K (.ref C) (.ref C) = some true))))
theorem insCB_ok {K : PySem.W.Frag} {C : Addr} (h : insCB K C = true) (c : Cls K C) : C8.InsC K C := by
  obtain ⟨h1, h⟩ := He.ba h
  obtain ⟨h2, h⟩ := He.ba h
  obtain ⟨h3, h⟩ := He.ba h
  obtain ⟨h4, h5⟩ := He.ba h
  exact ⟨c, He.eqO_ok h1, He.eqO_ok h2, of_decide_eq_true h3, of_decide_eq_true h4, of_decide_eq_true h5⟩
def binNB (K : PySem.W.Frag) (C : Addr) (op : Operator) : Bool := PySem.W.selfFirst K C && ((match PySem.W.findIn K (.ref C) (PySem.dunderR op.info.2) with
  | some none => true
  | some (some (.ref _)) => true
  | _ => false) && ((PySem.W.findIn K (.type "int") (PySem.dunder op.info.2)).isSome && ((PySem.W.findIn K (.type "int") (PySem.dunderR op.info.2)).isSome && decide (PySem.W.subIn K (.type "int") (.ref C) = some false))))
theorem binNB_ok {K : PySem.W.Frag} {C : Addr} {op : Operator} (h : binNB K C op = true) : BinN K C op := by
  obtain ⟨h1, h⟩ := He.ba h
  obtain ⟨h2, h⟩ := He.ba h
  obtain ⟨h3, h⟩ := He.ba h
  obtain ⟨h4, h5⟩ := He.ba h
  obtain ⟨fo, h3⟩ := Option.isSome_iff_exists.mp h3
  obtain ⟨ro, h4⟩ := Option.isSome_iff_exists.mp h4
  refine ⟨h1, ?_⟩
  cases e : PySem.W.findIn K (.ref C) (PySem.dunderR op.info.2) with
  | none => rw [e] at h2; cases h2
  | some o =>
    rw [e] at h2
    cases o with
    | none => exact ⟨none, fo, ro, rfl, .inl rfl, h3, h4, of_decide_eq_true h5⟩
    | some v =>
      cases v with
      | ref g => exact ⟨some (.ref g), fo, ro, rfl, .inr ⟨g, rfl⟩, h3, h4, of_decide_eq_true h5⟩
      | _ => cases h2
def cvalB (K : PySem.W.Frag) (C : Addr) (f : Str) (i : Int) : Bool := PySem.W.readsIn K C (.type "type") && (He.eqO (PySem.W.specialIn K (.ref C) "__getattribute__") (some (some (.builtin "type.__getattribute__"))) && (match PySem.W.findCls K (.ref C) (.type "type") f with
  | some (.val (.int j _)) => decide (j = i)
  | _ => false))
theorem cvalB_ok {K : PySem.W.Frag} {C : Addr} {f : Str} {i : Int} (h : cvalB K C f i = true) : ClX.CRead K C (.type "type") ∧ ∃ u, ClX.CVal K C (.type "type") f (.int i) u := by
  obtain ⟨h1, h⟩ := He.ba h
  obtain ⟨h2, h⟩ := He.ba h
  refine ⟨⟨h1, He.eqO_ok h2⟩, ?_⟩
  split at h
  · rename_i j t e
    have hj : j = i := of_decide_eq_true h
    subst hj
    exact ⟨_, e, ⟨t, rfl⟩⟩
  · cases h
end PyH
namespace PyD
open PySem PySem.Spec L2 PyC PyI
theorem pc_R {X : Cx} {op : CmpOp} {r : R2} {a b : Expr} {ta tb : TE} (ho : OpR X (compareOp op) r) (ha : PE X a ta) (hb : PE X b tb) : PC X op a b (tOp r ta tb) :=
  ⟨fun pins s σ H Q I h => binT ha hb I h fun v u s2 x y H2 I2 rx ry q => ho pins s2 σ H2 x y v u Q I2 rx ry q⟩
theorem blkOk_in {N : List Str} {scope0 sc0 scope sc : Scope} {own : List (Str × Nat)} (e : sc = relS scope0 sc0) (h : blkC N (relS scope0 sc0) scope own = true) : BlkOk N sc scope own := by
  rw [e]
  exact blkOk_by h
section
variable {K : PySem.W.Frag} {W : WX} {ex : Ek} {G : Gm} {O : Ow} {P : D → Ow → Prop} {ta te : TE} {aa : TA}
theorem wpE_callJE (js : List Nat) {sp : DSp} {dvs : List V} {dds : List D} (hd : ∀ F, Rps K F dds dvs) (h : wpA K W ex aa G O fun ds O1 => js.Nodup ∧ (∀ j ∈ js, j < O1.length) ∧ sp (ds ++ dds) (pick O1 js)
      (fun d N => ∃ M es, es.length = js.length ∧ N = M ++ bk (pick O1 js) es ∧ P d (M ++ setO O1 js es)) (fun _ _ => False)) :
    wpE K W ex (tCallSD (toSp K sp) dvs (fun _ => E0) aa) G O P := fun Z F H σ X S s Q q =>
  h Z F H σ X S s _ fun ds vs F1 H1 O1 S1 e1 r1 p1 => by
    obtain ⟨hn, hb, p1⟩ := p1
    have hA := pick_lent S1.nd hn
    refine ⟨ds ++ dds, F1, pick O1 js, _, _, S1.callN hA, hA.lo, r1.app (hd F1), p1, fun d N v F' H' S' r' hk => ?_, fun e N dd F' H' S' r' hk => hk.elim⟩
    obtain ⟨M, es, hl, rfl, hk⟩ := hk
    obtain ⟨S2, e2⟩ := S1.backN hA (bk_a _ _) S'
    rw [putO_pick S1.nd _ hn hb hl rfl] at S2
    exact q d v F' H' _ S2 (e1.trans e2) r' hk
/-- a method called where no exception is let out -/
theorem wpE_methE {C : Addr} {m : Str} {sp : DSp} {dvs : List V} {dds : List D} (hd : ∀ F, Rps K F dds dvs) (h : wpE K W ex ta G O fun x O1 => ∃ fs, x = .ins C fs ∧ fs.lookup m = none ∧ wpA K W ex aa G O1 fun ds O2 => ∃ A, Lent O2 A ∧
      sp (x :: (ds ++ dds)) A (fun d N => ∃ M, N = M ++ A ∧ P d (M ++ O2)) (fun _ _ => False)) : wpE K W ex (tMethA C m (toSp K sp) dvs (fun _ => E0) ta aa) G O P := fun Z F H σ X S s Q q =>
  h Z F H σ X S s _ fun x vx F1 H1 O1 S1 e1 r1 ⟨fs, hx, hm, p1⟩ => by
    subst hx
    obtain ⟨a, dx, gs, rfl, ha, h2, h3⟩ := (ins_l (O := O1)).at S1 r1
    refine ⟨a, dx, gs, rfl, ha, fld_none h2 hm, p1 Z F1 H1 σ (X.mono e1) S1 (s.mono e1) _ fun ds vs F2 H2 O2 S2 e2 r2 hp => ?_⟩
    obtain ⟨A, hA, p2⟩ := hp
    have e12 := e1.trans e2
    refine ⟨.ins C fs :: (ds ++ dds), F2, A, _, _, S2.callN hA, hA.lo, .cons (r1.mono e2) (r2.app (hd F2)), p2, fun d N v F' H' S' r' hk => ?_, fun e N dd F' H' S' r' hk => hk.elim⟩
    obtain ⟨M, rfl, hk⟩ := hk
    obtain ⟨S3, e3⟩ := S2.backN hA rfl S'
    rw [putO_same S2.nd hA] at S3
    exact q d v F' H' _ S3 (e12.trans e3) r' hk
end
end PyD
namespace L2
open PySem PySem.Spec PyProof.Rows
section
variable {X : Cx} {tg : Expr} {pos : Pos}
/-- a list or a tuple is walked -/
def iSeq (K : PySem.W.Frag) (tl : TE) : TI := fun σ H R => tl σ H fun x H1 => ∃ a, x = .ref a ∧ (((∃ xs, SqL K H1 a xs) ∧ R (Itl K a) H1) ∨ ((∃ xs, SqT K H1 a xs) ∧ R (Itt K a) H1))
/-- a, b, .. = a list or a tuple -/
def gSeq (K : PySem.W.Frag) (n : Nat) (t : TGs) : TG := fun v σ H Q => gLst K n t v σ H Q ∨ gTup K n t v σ H Q
end
end L2
namespace PyD
open PySem PySem.Spec L2
section
variable {K : PySem.W.Frag} {W : WX} {ex : Ek} {G : Gm} {O : Ow} {te : TE}
def sqOf (O : Ow) (d : D) (xs : List D) : Prop := seqOf O d xs ∨ d = .tup xs
theorem wpI_seq {PI : List D → (Ow → Prop) → Ow → Prop} (h : wpE K W ex te G O fun d O1 => ∃ xs, sqOf O1 d xs ∧ PI xs (fun O' => sqOf O' d xs) O1) : wpI K W ex (iSeq K te) G O PI := fun Z F H σ X S s R q =>
  h Z F H σ X S s _ fun d v F1 H1 O1 S1 e1 r1 ⟨xs, hsq, p⟩ => by
    rcases hsq with hsq | rfl
    · obtain ⟨a, vs, rfl, hv, rv⟩ := hsq.at S1 r1
      refine ⟨a, rfl, .inl ⟨⟨vs, hv⟩, q _ xs _ F1 H1 O1 S1 e1 ⟨fun Z F2 H2 O2 i x S2 e2 hC hx => ?_, fun Z F2 H2 O2 S2 e2 hC => ?_⟩ p⟩⟩
      · have hC : seqOf O2 d xs := hC.elim id fun e => by
          subst e
          rcases hsq with h | h | ⟨a, b, h, _⟩ <;> cases h
        obtain ⟨a', vs', ea, hv', rv'⟩ := hC.at S2 (r1.mono e2)
        cases ea
        obtain ⟨y, hy, ry⟩ := rv'.get hx
        refine ⟨⟨vs', y, hv', hy⟩, fun z H3 hz => ?_⟩
        obtain ⟨rfl, fz⟩ := hz
        have ez : z = y := Option.some.inj ((fz _ hv').symm.trans hy)
        subst ez
        exact ⟨F2, S2, Ex.refl _, ry⟩
      · have hC : seqOf O2 d xs := hC.elim id fun e => by
          subst e
          rcases hsq with h | h | ⟨a, b, h, _⟩ <;> cases h
        obtain ⟨a', vs', ea, hv', rv'⟩ := hC.at S2 (r1.mono e2)
        cases ea
        exact ⟨vs', hv', by rw [rv'.length]; exact Nat.le_refl _⟩
    · cases r1 with
      | @tup a vs _ ht0 rv =>
      have ht : SqT K F1 a vs := SqT.of ht0
      refine ⟨a, rfl, .inr ⟨⟨vs, ex_t S1.ex ht⟩, q _ xs _ F1 H1 O1 S1 e1 ⟨fun Z F2 H2 O2 i x S2 e2 hC hx => ?_, fun Z F2 H2 O2 S2 e2 hC => ?_⟩ p⟩⟩
      · obtain ⟨y, hy, ry⟩ := rv.get hx
        have hv' := ex_t S2.ex (ex_t e2 ht)
        refine ⟨⟨vs, y, hv', hy⟩, fun z H3 hz => ?_⟩
        obtain ⟨rfl, fz⟩ := hz
        have ez : z = y := Option.some.inj ((fz _ hv').symm.trans hy)
        subst ez
        exact ⟨F2, S2, Ex.refl _, ry.mono e2⟩
      · exact ⟨vs, ex_t S2.ex (ex_t e2 ht), by rw [rv.length]; exact Nat.le_refl _⟩
end
section
variable {K : PySem.W.Frag} {G : Gm} {O : Ow}
theorem wpG_seqL {n : Nat} {gs : TGs} {x : D} {ds : List D} {PG : Gm → Ow → Prop} (hx : seqOf O x ds) (hn : ds.length = n) (h : wpGs K gs ds G O PG) : wpG K (gSeq K n gs) x G O PG := fun Z F H σ v S s r Q q => .inl (wpG_lst hx hn h Z F H σ v S s r Q q)
theorem wpG_seqT {n : Nat} {gs : TGs} {ds : List D} {PG : Gm → Ow → Prop} (hn : ds.length = n) (h : wpGs K gs ds G O PG) : wpG K (gSeq K n gs) (.tup ds) G O PG := fun Z F H σ v S s r Q q => .inr (wpG_tup hn h Z F H σ v S s r Q q)
end
section
variable {K : PySem.W.Frag} {W : WX} {ex : Ek} {G : Gm} {O : Ow} {P : D → Ow → Prop} {PT : Bool → Ow → Prop} {E : EnD} {tt uu : TT} {t u : TS} {te tk tv : TE} {aa : TA} {α : Type}
theorem wpT_andP {c1 c2 : Bool} (h : wpT K W ex tt G O fun b O' => b = c1 ∧ O' = O) (h2 : c1 = true → wpT K W ex uu G O fun b O' => b = c2 ∧ O' = O) : wpT K W ex (tAnd tt uu) G O fun b O' => b = (c1 && c2) ∧ O' = O :=
  wpT_and (wpT_mono h fun b O' ⟨e1, e2⟩ => by
    subst e2
    refine ⟨fun hb => ?_, fun hb => ?_⟩
    · rw [hb] at e1
      refine wpT_mono (h2 e1.symm) fun b' O'' ⟨e3, e4⟩ => ⟨?_, e4⟩
      rw [← e1, e3]
      rfl
    · rw [hb] at e1
      rw [← e1]
      exact ⟨rfl, rfl⟩)
theorem wpT_orP {c1 c2 : Bool} (h : wpT K W ex tt G O fun b O' => b = c1 ∧ O' = O) (h2 : c1 = false → wpT K W ex uu G O fun b O' => b = c2 ∧ O' = O) : wpT K W ex (tOr tt uu) G O fun b O' => b = (c1 || c2) ∧ O' = O :=
  wpT_or (wpT_mono h fun b O' ⟨e1, e2⟩ => by
    subst e2
    refine ⟨fun hb => ?_, fun hb => ?_⟩
    · rw [hb] at e1
      rw [← e1]
      exact ⟨rfl, rfl⟩
    · rw [hb] at e1
      refine wpT_mono (h2 e1.symm) fun b' O'' ⟨e3, e4⟩ => ⟨?_, e4⟩
      rw [← e1, e3]
      rfl)
theorem wpS_iteP {c : Bool} (h : wpT K W ex tt G O fun b O' => b = c ∧ O' = O) (hk : (c = true → wpS K W ex t G O E) ∧ (c = false → wpS K W ex u G O E)) : wpS K W ex (tIfS tt t u) G O E := wpS_ite c h hk.1 hk.2
theorem wpE_joinP {d : D} (h : wpE K W ex te G O fun b O' => b = d ∧ O' = O) (p : P d O) : wpE K W ex te G O P := wpE_join d h p
theorem wpE_andP {ta tb : TE} {c1 c2 : Bool} (h : wpE K W ex ta G O fun d O' => d = .bl c1 ∧ O' = O) (h2 : c1 = true → wpE K W ex tb G O fun d O' => d = .bl c2 ∧ O' = O) : wpE K W ex (tAndV ta tb) G O fun d O' => d = .bl (c1 && c2) ∧ O' = O :=
  wpE_andV (wpE_mono h fun d O' ⟨e1, e2⟩ => by
    subst e1 e2
    refine ⟨c1, rfl, fun hb => ?_, fun hb => ?_⟩
    · refine wpE_mono (h2 hb) fun d' O'' ⟨e3, e4⟩ => ⟨?_, e4⟩
      rw [hb, e3]
      rfl
    · rw [hb]
      exact ⟨rfl, rfl⟩)
/-- [f a for a in as] -/
theorem wpE_mapP {wi : TI} {g : TG} {vs : List Nat} (fr : Bool) {as : List α} {enc : α → D} {f : α → D} (hg : gIn vs g) (gm : gMono g)
    (h : wpI K W ex wi G O fun xs C O1 => xs = as.map enc ∧ as.length < sizeLine ∧ C O1 ∧ (∀ (i : Nat) (a : α), as[i]? = some a → wpG K g (enc a) (wipeG G vs) O1 fun G2 O2 => O2 = O1 ∧ wpE K W ex te G2 O1 fun y O4 => y = f a ∧ O4 = O1) ∧ lcEnd fr (as.map f) O1 P) :
    wpE K W ex (tLc wi g tYes te vs) G O P := by
  refine wpE_lcE (α := α) fr hg gm fun Z F H σ X S s R q => h Z F H σ X S s R fun J xs C F1 H1 O1 S1 e1 w p => q J xs C F1 H1 O1 S1 e1 w ?_
  obtain ⟨h1, h2, h3, h4, h5⟩ := p
  refine ⟨as, enc, fun a => some (f a), h1, h2, h3, fun i a ha Z F H σ v S s r Q q => h4 i a ha Z F H σ v S s r Q fun F' H' σ' G' O' S' s' e' ⟨k1, k2⟩ => q F' H' σ' G' O' S' s' e' ⟨k1, wpT_yes ⟨rfl, fun _ => wpE_mono k2 fun y O4 ⟨z1, z2⟩ => ⟨by rw [z1], z2⟩, fun h => (by cases h)⟩⟩, ?_⟩
  rw [List.filterMap_eq_map']
  exact h5
theorem filt_map (as : List α) (c : α → Bool) {β : Type} (f : α → β) : as.filterMap (fun a => if c a = true then some (f a) else none) = (as.filter c).map f := by
  induction as with
  | nil => rfl
  | cons a as ih =>
    rw [List.filterMap_cons, List.filter_cons]
    cases c a <;> simp [ih]
/-- [f a for a in as if c a] -/
theorem wpE_filP {wi : TI} {g : TG} {vs : List Nat} (fr : Bool) {as : List α} {enc : α → D} {f : α → D} {c : α → Bool} (hg : gIn vs g) (gm : gMono g)
    (h : wpI K W ex wi G O fun xs C O1 => xs = as.map enc ∧ as.length < sizeLine ∧ C O1 ∧ (∀ (i : Nat) (a : α), as[i]? = some a → wpG K g (enc a) (wipeG G vs) O1 fun G2 O2 => O2 = O1 ∧ wpT K W ex tt G2 O1 (fun b O3 => b = c a ∧ O3 = O1) ∧ (c a = true → wpE K W ex te G2 O1 fun y O4 => y = f a ∧ O4 = O1)) ∧ lcEnd fr ((as.filter c).map f) O1 P) :
    wpE K W ex (tLc wi g tt te vs) G O P := by
  refine wpE_lcE (α := α) fr hg gm fun Z F H σ X S s R q => h Z F H σ X S s R fun J xs C F1 H1 O1 S1 e1 w p => q J xs C F1 H1 O1 S1 e1 w ?_
  obtain ⟨h1, h2, h3, h4, h5⟩ := p
  refine ⟨as, enc, fun a => if c a = true then some (f a) else none, h1, h2, h3, fun i a ha Z F H σ v S s r Q q => h4 i a ha Z F H σ v S s r Q fun F' H' σ' G' O' S' s' e' ⟨k1, k2, k3⟩ => q F' H' σ' G' O' S' s' e' ⟨k1, wpT_mono k2 fun b O3 ⟨z1, z2⟩ => ⟨z2, fun hb => wpE_mono (k3 (by rw [← z1]; exact hb)) fun y O4 ⟨y1, y2⟩ => ⟨?_, y2⟩, fun hb => ?_⟩⟩, ?_⟩
  · show (if c a = true then some (f a) else none) = some y
    rw [if_pos (by rw [← z1]; exact hb), y1]
  · show (if c a = true then some (f a) else none) = none
    rw [← z1, hb]
    rfl
  · rw [filt_map]
    exact h5
section
variable {wi : TI} {g : TG}
theorem set_selfG (G : Gm) (j : Nat) : G.set j (G[j]?).join = G := by
  apply List.ext_getElem?
  intro i
  rw [List.getElem?_set]
  by_cases h : j = i
  · subst h
    rw [if_pos rfl]
    by_cases hl : j < G.length
    · rw [if_pos hl, List.getElem?_eq_getElem hl] <;> rfl
    · rw [if_neg hl, List.getElem?_eq_none (by omega)]
  · rw [if_neg h]
theorem wpS_for1 (j1 : Nat) (J : Nat → Option D → Ow → Prop) {as : List α} {enc : α → D} (h : wpI K W ex wi G O fun xs C O1 => xs = as.map enc ∧ J 0 (G[j1]?).join O1 ∧ (∀ i q O', i ≤ as.length → J i q O' → C O') ∧
      (∀ (i : Nat) (a : α) q O', as[i]? = some a → J i q O' → wpG K g (enc a) (G.set j1 q) O' fun G2 O2 => wpS K W ex t G2 O2 { E with nx := fun G' O' => ∃ q, G' = G.set j1 q ∧ J (i + 1) q O', ct := fun G' O' => ∃ q, G' = G.set j1 q ∧ J (i + 1) q O', bk := E.nx }) ∧ ∀ q O', J as.length q O' → E.nx (G.set j1 q) O') :
    wpS K W ex (tFor wi g t) G O E := by
  refine wpS_forA as enc (fun i G' O' => ∃ q, G' = G.set j1 q ∧ J i q O') fun Z F H σ X S s R q => h Z F H σ X S s R fun J0 xs C F1 H1 O1 S1 e1 w p => q J0 xs C F1 H1 O1 S1 e1 w ?_
  obtain ⟨h1, h2, h3, h4, h5⟩ := p
  refine ⟨h1, ⟨_, (set_selfG G j1).symm, h2⟩, fun i G' O' hi ⟨q, _, hJ⟩ => h3 i q O' hi hJ, fun i a G' O' ha ⟨q, e, hJ⟩ => ?_, fun G' O' ⟨q, e, hJ⟩ => ?_⟩
  · subst e
    exact h4 i a q O' ha hJ
  · subst e
    exact h5 q O' hJ
theorem wpS_for2 (j1 j2 : Nat) (J : Nat → Option D → Option D → Ow → Prop) {as : List α} {enc : α → D} (h : wpI K W ex wi G O fun xs C O1 => xs = as.map enc ∧ J 0 (G[j1]?).join (G[j2]?).join O1 ∧ (∀ i q r O', i ≤ as.length → J i q r O' → C O') ∧
      (∀ (i : Nat) (a : α) q r O', as[i]? = some a → J i q r O' → wpG K g (enc a) ((G.set j1 q).set j2 r) O' fun G2 O2 => wpS K W ex t G2 O2 { E with nx := fun G' O' => ∃ q r, G' = (G.set j1 q).set j2 r ∧ J (i + 1) q r O', ct := fun G' O' => ∃ q r, G' = (G.set j1 q).set j2 r ∧ J (i + 1) q r O', bk := E.nx }) ∧ ∀ q r O', J as.length q r O' → E.nx ((G.set j1 q).set j2 r) O') :
    wpS K W ex (tFor wi g t) G O E := by
  refine wpS_forA as enc (fun i G' O' => ∃ q r, G' = (G.set j1 q).set j2 r ∧ J i q r O') fun Z F H σ X S s R q => h Z F H σ X S s R fun J0 xs C F1 H1 O1 S1 e1 w p => q J0 xs C F1 H1 O1 S1 e1 w ?_
  obtain ⟨h1, h2, h3, h4, h5⟩ := p
  refine ⟨h1, ⟨_, _, by rw [set_selfG, set_selfG], h2⟩, fun i G' O' hi ⟨q, r, _, hJ⟩ => h3 i q r O' hi hJ, fun i a G' O' ha ⟨q, r, e, hJ⟩ => ?_, fun G' O' ⟨q, r, e, hJ⟩ => ?_⟩
  · subst e
    exact h4 i a q r O' ha hJ
  · subst e
    exact h5 q r O' hJ
theorem wpS_for3 (j1 j2 j3 : Nat) (J : Nat → Option D → Option D → Option D → Ow → Prop) {as : List α} {enc : α → D} (h : wpI K W ex wi G O fun xs C O1 => xs = as.map enc ∧ J 0 (G[j1]?).join (G[j2]?).join (G[j3]?).join O1 ∧ (∀ i q r s O', i ≤ as.length → J i q r s O' → C O') ∧
      (∀ (i : Nat) (a : α) q r s O', as[i]? = some a → J i q r s O' → wpG K g (enc a) (((G.set j1 q).set j2 r).set j3 s) O' fun G2 O2 => wpS K W ex t G2 O2 { E with nx := fun G' O' => ∃ q r s, G' = ((G.set j1 q).set j2 r).set j3 s ∧ J (i + 1) q r s O', ct := fun G' O' => ∃ q r s, G' = ((G.set j1 q).set j2 r).set j3 s ∧ J (i + 1) q r s O', bk := E.nx }) ∧ ∀ q r s O', J as.length q r s O' → E.nx (((G.set j1 q).set j2 r).set j3 s) O') :
    wpS K W ex (tFor wi g t) G O E := by
  refine wpS_forA as enc (fun i G' O' => ∃ q r s, G' = ((G.set j1 q).set j2 r).set j3 s ∧ J i q r s O') fun Z F H σ X S s R q => h Z F H σ X S s R fun J0 xs C F1 H1 O1 S1 e1 w p => q J0 xs C F1 H1 O1 S1 e1 w ?_
  obtain ⟨h1, h2, h3, h4, h5⟩ := p
  refine ⟨h1, ⟨_, _, _, by rw [set_selfG, set_selfG, set_selfG], h2⟩, fun i G' O' hi ⟨q, r, s, _, hJ⟩ => h3 i q r s O' hi hJ, fun i a G' O' ha ⟨q, r, s, e, hJ⟩ => ?_, fun G' O' ⟨q, r, s, e, hJ⟩ => ?_⟩
  · subst e
    exact h4 i a q r s O' ha hJ
  · subst e
    exact h5 q r s O' hJ
theorem wpS_for4 (j1 j2 j3 j4 : Nat) (J : Nat → Option D → Option D → Option D → Option D → Ow → Prop) {as : List α} {enc : α → D} (h : wpI K W ex wi G O fun xs C O1 => xs = as.map enc ∧ J 0 (G[j1]?).join (G[j2]?).join (G[j3]?).join (G[j4]?).join O1 ∧ (∀ i q r s t O', i ≤ as.length → J i q r s t O' → C O') ∧
      (∀ (i : Nat) (a : α) q r s t' O', as[i]? = some a → J i q r s t' O' → wpG K g (enc a) ((((G.set j1 q).set j2 r).set j3 s).set j4 t') O' fun G2 O2 => wpS K W ex t G2 O2 { E with nx := fun G' O' => ∃ q r s t, G' = (((G.set j1 q).set j2 r).set j3 s).set j4 t ∧ J (i + 1) q r s t O', ct := fun G' O' => ∃ q r s t, G' = (((G.set j1 q).set j2 r).set j3 s).set j4 t ∧ J (i + 1) q r s t O', bk := E.nx }) ∧ ∀ q r s t O', J as.length q r s t O' → E.nx ((((G.set j1 q).set j2 r).set j3 s).set j4 t) O') :
    wpS K W ex (tFor wi g t) G O E := by
  refine wpS_forA as enc (fun i G' O' => ∃ q r s t, G' = (((G.set j1 q).set j2 r).set j3 s).set j4 t ∧ J i q r s t O') fun Z F H σ X S s R q => h Z F H σ X S s R fun J0 xs C F1 H1 O1 S1 e1 w p => q J0 xs C F1 H1 O1 S1 e1 w ?_
  obtain ⟨h1, h2, h3, h4, h5⟩ := p
  refine ⟨h1, ⟨_, _, _, _, by rw [set_selfG, set_selfG, set_selfG, set_selfG], h2⟩, fun i G' O' hi ⟨q, r, s, t, _, hJ⟩ => h3 i q r s t O' hi hJ, fun i a G' O' ha ⟨q, r, s, t, e, hJ⟩ => ?_, fun G' O' ⟨q, r, s, t, e, hJ⟩ => ?_⟩
  · subst e
    exact h4 i a q r s t O' ha hJ
  · subst e
    exact h5 q r s t O' hJ
end
theorem wpS_asg {g : TG} (h : wpE K W ex te G O fun d O1 => wpG K g d G O1 fun G2 O2 => E.nx G2 O2) : wpS K W ex (tAsg te g) G O E := fun Z F H σ X S s D0 q =>
  h Z F H σ X S s _ fun d v F1 H1 O1 S1 e1 r1 p1 => p1 Z F1 H1 σ v S1 (s.mono e1) r1 _ fun F2 H2 σ2 G2 O2 S2 s2 e2 p2 => q.nx F2 H2 σ2 G2 O2 (e1.trans e2) S2 s2 p2
theorem k_nil {k : D → Ow → Prop} {O1 : Ow} : (fun (d : D) (N : Ow) => ∃ M, N = M ++ [] ∧ k d (M ++ O1)) = fun d N => k d (N ++ O1) := by
  funext d N
  exact propext ⟨fun ⟨M, e, p⟩ => by rw [List.append_nil] at e; subst e; exact p, fun p => ⟨N, by rw [List.append_nil], p⟩⟩
theorem x_nil {k : Xc → Ow → Prop} {O1 : Ow} : (fun (d : Xc) (N : Ow) => ∃ M, N = M ++ [] ∧ k d (M ++ O1)) = fun d N => k d (N ++ O1) := by
  funext d N
  exact propext ⟨fun ⟨M, e, p⟩ => by rw [List.append_nil] at e; subst e; exact p, fun p => ⟨N, by rw [List.append_nil], p⟩⟩
/-- x.m(e, ..), nothing owned handed over -/
theorem wpE_meth0 {C : Addr} {m : Str} {sp : DSp} {dvs : List V} {dds : List D} {ta : TE} (hd : ∀ F, Rps K F dds dvs) (h : wpE K W ex ta G O fun x O1 => ∃ fs, x = .ins C fs ∧ fs.lookup m = none ∧ wpA K W ex aa G O1 fun ds O2 =>
      sp (x :: (ds ++ dds)) [] (fun d N => P d (N ++ O2)) (fun e N => ex e G (N ++ O2))) : wpE K W ex (PyI.tMethA C m (toSp K sp) dvs (WE W) ta aa) G O P := by
  refine wpE_meth hd (wpE_mono h fun x O1 ⟨fs, h1, h2, h3⟩ => ⟨fs, h1, h2, ?_⟩)
  intro Z F H σ X S s Q q
  refine h3 Z F H σ X S s Q fun d v F' H' O' S' e r p => q d v F' H' O' S' e r ⟨[], lent_nil, ?_⟩
  rw [k_nil, x_nil (k := fun e N => ex e G N)]
  exact p
theorem wpE_meth0E {C : Addr} {m : Str} {sp : DSp} {dvs : List V} {dds : List D} {ta : TE} (hd : ∀ F, Rps K F dds dvs) (h : wpE K W ex ta G O fun x O1 => ∃ fs, x = .ins C fs ∧ fs.lookup m = none ∧ wpA K W ex aa G O1 fun ds O2 =>
      sp (x :: (ds ++ dds)) [] (fun d N => P d (N ++ O2)) (fun _ _ => False)) : wpE K W ex (PyI.tMethA C m (toSp K sp) dvs (fun _ => E0) ta aa) G O P := by
  refine wpE_methE hd (wpE_mono h fun x O1 ⟨fs, h1, h2, h3⟩ => ⟨fs, h1, h2, ?_⟩)
  intro Z F H σ X S s Q q
  refine h3 Z F H σ X S s Q fun d v F' H' O' S' e r p => q d v F' H' O' S' e r ⟨[], lent_nil, ?_⟩
  rw [k_nil]
  exact p
theorem wpM_appendC {f : α → D} {xs : List α} {x : α} {y : D} {j : Nat} {a : Addr} {b : Bool} (hj : O[j]? = some ⟨a, b, .lst (xs.map f)⟩) (e : y = f x) (hl : xs.length < sizeLine) (p : P .non (O.set j ⟨a, b, .lst ((xs ++ [x]).map f)⟩)) : wpM K rAppend (.mut a) [y] O P := by
  subst e
  refine wpM_append hj (by rw [List.length_map]; exact hl) ?_
  rw [List.map_append] at p
  exact p
theorem wpE_fz (h : wpE K W ex te G O fun d O1 => ∃ c e O2, d = .mut c ∧ O1 = ⟨c, true, e⟩ :: O2 ∧ P e O2) : wpE K W ex te G O P := fun Z F H σ X S s Q q =>
  h Z F H σ X S s Q fun d v F1 H1 O1 S1 e1 r1 ⟨c, e, O2, hd, hO, p⟩ => by
    subst hd hO
    cases r1
    obtain ⟨F', ex', S', r'⟩ := S1.freeze (j := 0) rfl
    exact q e _ F' H1 _ S' (e1.trans ex') r' p
/-- some of what is owned is let go -/
theorem wpE_fgt (h : wpE K W ex te G O fun d O1 => ∃ O2, O2.Sublist O1 ∧ P d O2) : wpE K W ex te G O P := fun Z F H σ X S s Q q =>
  h Z F H σ X S s Q fun d v F1 H1 O1 S1 e1 r1 ⟨O2, hO, p⟩ => q d v F1 H1 O2 (S1.sub hO) e1 r1 p
end
end PyD
namespace PyH
open PySem PySem.Spec PyProof.Rows L2
noncomputable def mapO (K : PySem.W.Frag) (l : List He.DefD) : List He.FnW := List.rec (motive := fun _ => List He.FnW) [] (fun d _ r => He.fnW K d.at_ :: r) l
noncomputable def mapDV (l : List He.DefD) : List He.FnW := List.rec (motive := fun _ => List He.FnW) [] (fun d _ r => d.val :: r) l
noncomputable def mapX (K : PySem.W.Frag) (l : List ExD) : List FnI := List.rec (motive := fun _ => List FnI) [] (fun d _ r => initW K d.x :: r) l
noncomputable def mapXV (l : List ExD) : List FnI := List.rec (motive := fun _ => List FnI) [] (fun d _ r => d.val :: r) l
theorem mapO_eq (K : PySem.W.Frag) : ∀ fn : List He.DefD, mapO K fn = fn.map fun d => He.fnW K d.at_
  | [] => rfl
  | d :: ds => by rw [List.map_cons, ← mapO_eq K ds] <;> rfl
theorem mapDV_eq : ∀ fn : List He.DefD, mapDV fn = fn.map He.DefD.val
  | [] => rfl
  | d :: ds => by rw [List.map_cons, ← mapDV_eq ds] <;> rfl
theorem mapX_eq (K : PySem.W.Frag) : ∀ fn : List ExD, mapX K fn = fn.map fun d => initW K d.x
  | [] => rfl
  | d :: ds => by rw [List.map_cons, ← mapX_eq K ds] <;> rfl
theorem mapXV_eq : ∀ fn : List ExD, mapXV fn = fn.map ExD.val
  | [] => rfl
  | d :: ds => by rw [List.map_cons, ← mapXV_eq ds] <;> rfl
noncomputable def obsM (fa : List He.Fa) (fn : List He.DefD) (xs : List ExD) (ex : List (PySem.W.Frag → Bool)) (K : PySem.W.Frag) : AlK := (((fa.all fun f => f.ok K) && fn.all fun d => d.ok K, mapO K fn), (mapX K xs, ex.all fun f => f K))
noncomputable def valM (fn : List He.DefD) (xs : List ExD) : AlK := ((true, mapDV fn), (mapXV xs, true))
theorem obsM_eq {fa : List He.Fa} {fn : List He.DefD} {xs : List ExD} {ex : List (PySem.W.Frag → Bool)} {K : PySem.W.Frag} : obsM fa fn xs ex K = obsK fa fn xs ex K := by
  unfold obsM obsK He.obsD
  rw [mapO_eq, mapX_eq]
theorem valM_eq {fn : List He.DefD} {xs : List ExD} : valM fn xs = valK fn xs := by
  unfold valM valK He.valD
  rw [mapDV_eq, mapXV_eq]
/-- the objects that are reached from some, level by level; what is known stands in a number's bits -/
noncomputable def addN (as : List Addr) : Nat → List Addr → (Nat → List Addr → List Addr) → List Addr :=
  List.rec (motive := fun _ => Nat → List Addr → (Nat → List Addr → List Addr) → List Addr) (fun m acc k => k m acc)
    (fun a _ r m acc k => match Nat.testBit m a with
      | true => r m acc k
      | false => HandSHeadRun.frNat (Nat.lor m (Nat.shiftLeft 1 a)) fun m' => r m' (a :: acc) k) as
noncomputable def refsN (g : Addr → Option Obj) (fr : List Addr) : Nat → List Addr → (Nat → List Addr → List Addr) → List Addr :=
  List.rec (motive := fun _ => Nat → List Addr → (Nat → List Addr → List Addr) → List Addr) (fun m acc k => k m acc)
    (fun a _ r m acc k => match g a with
      | some o => addN (He.refsD o) m acc fun m' acc' => r m' acc' k
      | none => r m acc k) fr
noncomputable def bfs (g : Addr → Option Obj) : Nat → List Addr → Nat → List Addr := fun n =>
  Nat.rec (motive := fun _ => List Addr → Nat → List Addr) (fun fr _ => fr) (fun _ r fr m => fr ++ refsN g fr m [] fun m' nx => r nx m') n
noncomputable def asM (g : Addr → Option Obj) (n : Nat) : List Addr := addN [mainGlobals, cStatics] 0 [] fun m fr => bfs g n fr m
noncomputable def obsMG (n : Nat) (fa : List He.Fa) (fn : List He.DefD) (xs : List ExD) (ex : List (PySem.W.Frag → Bool)) (g : Addr → Option Obj) : AlK := obsM fa fn xs ex (He.frG g (asM g n))
noncomputable def hookM (n : Nat) (fa : List He.Fa) (fn : List He.DefD) (xs : List ExD) (ex : List (PySem.W.Frag → Bool)) : PySem.W.Hook where
  α := AlK
  obs := fun s => obsMG n fa fn xs ex s.heap.get?
  val := fun _ => valM fn xs
  says := fun _ h => ∃ K : PySem.W.Frag, K.In h ∧ SaysK fa fn xs ex K
  of := fun _ _ e => ⟨_, He.frG_in, obsM_eq.symm.trans (e.trans valM_eq)⟩
  keeps := fun _ _ _ ⟨K, hK, c⟩ k => ⟨K, PySem.W.Frag.In.keeps hK k, c⟩
theorem obsMG_eq {n : Nat} {fa : List He.Fa} {fn : List He.DefD} {xs : List ExD} {ex : List (PySem.W.Frag → Bool)} {g : Addr → Option Obj} {s : Shared} (h : ∀ a, g a = s.heap.get? a) : obsMG n fa fn xs ex g = (hookM n fa fn xs ex).obs s := by
  have e : g = s.heap.get? := funext h
  rw [e] <;> rfl
end PyH
namespace PyD
open PySem PySem.Spec L2
section
variable {K : PySem.W.Frag} {O : Ow} {P : D → Ow → Prop}
mutual
/-- data without objects -/
def plainB : D → Bool
  | .non => true
  | .bl _ => true
  | .int _ => true
  | .str s => PySem.PyData.strOk s
  | .lst xs => plainBs xs
  | .kl xs => plainBs xs
  | .tup xs => plainBs xs
  | _ => false
def plainBs : List D → Bool
  | [] => true
  | x :: xs => plainB x && plainBs xs
end
mutual
theorem Rp.dpB {F H : Hp} (e : Ex F H) : ∀ {d : D} {v : V}, Rp K F d v → plainB d = true → Dp K H v (toPd d)
  | _, _, .non, _ => .non
  | _, _, .bl b, _ => .bl b
  | _, _, .int i, _ => .int i
  | _, _, .str s, _ => .str s
  | _, _, .lst h r, p => .lst (SqL.of (e _ _ h)) (Rps.dpB e r p)
  | _, _, .kl h r, p => .lst (ex_l e h) (Rps.dpB e r p)
  | _, _, .tup h r, p => .tup (SqT.of (e _ _ h)) (Rps.dpB e r p)
  | _, _, .ref _, p => by cases p
  | _, _, .mut _, p => by cases p
  | _, _, .ty _, p => by cases p
  | _, _, .dK _ _ _, p => by cases p
  | _, _, .dT _ _ _, p => by cases p
  | _, _, .ins _ _ _, p => by cases p
  | _, _, .exc0 _ _, p => by cases p
  | _, _, .exc1 _ _ _, p => by cases p
theorem Rps.dpB {F H : Hp} (e : Ex F H) : ∀ {ds : List D} {vs : List V}, Rps K F ds vs → plainBs ds = true → DpAll K H vs (toPds ds)
  | _, _, .nil, _ => .nil
  | _, _, .cons a r, p => .cons (Rp.dpB e a (Bool.and_eq_true_iff.mp p).1) (Rps.dpB e r (Bool.and_eq_true_iff.mp p).2)
end
mutual
theorem canLay_pb : ∀ d : D, plainB d = true → (toPd d).canLay0 = true
  | .non, _ => rfl
  | .bl _, _ => rfl
  | .int _, _ => rfl
  | .str s, p => p
  | .lst xs, p => canLay_pbs xs p
  | .kl xs, p => canLay_pbs xs p
  | .tup xs, p => canLay_pbs xs p
  | .ref _, p => by cases p
  | .mut _, p => by cases p
  | .ty _, p => by cases p
  | .dK _, p => by cases p
  | .dT _, p => by cases p
  | .ins _ _, p => by cases p
  | .exc _ _ _ _, p => by cases p
theorem canLay_pbs : ∀ ds : List D, plainBs ds = true → PyData.canLayAll0 (toPds ds) = true
  | [], _ => rfl
  | d :: ds, p => Bool.and_eq_true_iff.mpr ⟨canLay_pb d (Bool.and_eq_true_iff.mp p).1, canLay_pbs ds (Bool.and_eq_true_iff.mp p).2⟩
end
mutual
theorem eqv_same : ∀ d : D, plainB d = true → PyData.eqv (toPd d) (toPd d) = true
  | .non, _ => by simp [toPd, PyData.eqv]
  | .bl b, _ => by simp [toPd, PyData.eqv]
  | .int i, _ => by simp [toPd, PyData.eqv]
  | .str s, _ => by simp [toPd, PyData.eqv]
  | .lst xs, p => by simp only [toPd, PyData.eqv]; exact eqvs_same xs p
  | .kl xs, p => by simp only [toPd, PyData.eqv]; exact eqvs_same xs p
  | .tup xs, p => by simp only [toPd, PyData.eqv]; exact eqvs_same xs p
  | .ref _, p => by cases p
  | .mut _, p => by cases p
  | .ty _, p => by cases p
  | .dK _, p => by cases p
  | .dT _, p => by cases p
  | .ins _ _, p => by cases p
  | .exc _ _ _ _, p => by cases p
theorem eqvs_same : ∀ ds : List D, plainBs ds = true → PyData.eqvAll (toPds ds) (toPds ds) = true
  | [], _ => by simp [toPds, PyData.eqvAll]
  | d :: ds, p => by
    simp only [toPds, PyData.eqvAll, Bool.and_eq_true]
    exact ⟨eqv_same d (Bool.and_eq_true_iff.mp p).1, eqvs_same ds (Bool.and_eq_true_iff.mp p).2⟩
end
theorem viewOf.dpB {Z : En0} {F H : Hp} {d e : D} {v : V} (h : viewOf O d e) (S : S0 K Z F H O) (r : Rp K F d v) (p : plainB e = true) : Dp K H v (toPd e) := by
  rcases h with rfl | ⟨a, b, xs, rfl, hm, rfl⟩
  · exact r.dpB S.ex p
  · cases r
    obtain ⟨_, ⟨vs, h2, h3⟩, _⟩ := S.own _ hm
    exact .lst (SqL.of h2) (h3.dpB S.ex p)
def shalB (d : D) : Prop := plainB d = true ∧ (toPd d).depth ≤ 64
theorem shalB.ok {d : D} (h : shalB d) : SeqAt.shaped (toPd d) = true := Bool.and_eq_true_iff.mpr ⟨canLay_pb d h.1, decide_eq_true h.2⟩
theorem wpR_eqV {x y d e : D} (hx : viewOf O x d) (hy : viewOf O y e) (sd : shalB d) (se : shalB e) (p : P (.bl (PyData.eqv (toPd d) (toPd e))) O) : wpR K (rEqA K) x y O P := fun Z F H vx vy S rx ry Q q =>
  .inr ⟨_, _, hx.dpB S rx sd.1, hy.dpB S ry se.1, sd.ok, se.ok, q _ _ F H O S (Ex.refl F) (.bl _) p⟩
theorem wpR_neV {x y d e : D} (hx : viewOf O x d) (hy : viewOf O y e) (sd : shalB d) (se : shalB e) (p : P (.bl (!PyData.eqv (toPd d) (toPd e))) O) : wpR K (rNeA K) x y O P := fun Z F H vx vy S rx ry Q q =>
  .inr ⟨_, _, hx.dpB S rx sd.1, hy.dpB S ry se.1, sd.ok, se.ok, q _ _ F H O S (Ex.refl F) (.bl _) p⟩
theorem wpR_eqSame {x y d : D} (hx : viewOf O x d) (hy : viewOf O y d) (sd : shalB d) (p : P (.bl true) O) : wpR K (rEqA K) x y O P := wpR_eqV hx hy sd sd (by rw [eqv_same d sd.1]; exact p)
theorem wpR_neSame {x y d : D} (hx : viewOf O x d) (hy : viewOf O y d) (sd : shalB d) (p : P (.bl false) O) : wpR K (rNeA K) x y O P := wpR_neV hx hy sd sd (by rw [eqv_same d sd.1]; exact p)
end
end PyD
namespace K53
open PySem PySem.Spec L2
abbrev top (i : Nat) : Stmt := PySem.Challenge.pw_quorumdrift_k53_whole_key_taken_out.main.body.getD i (.Pass ⟨0, 0, 0, 0⟩)
def msgOf (s : Stmt) : Expr := match defBody s with
  | .Expr (.Call _ [m] _ _) _ :: _ => m
  | _ => .Constant .none 0 ⟨0, 0, 0, 0⟩
abbrev s_Run___init__ : Stmt := inClass (top 34) 0
abbrev s_Run_steps : Stmt := inClass (top 34) 3
abbrev s_State_lists : Stmt := inClass (top 25) 6
abbrev s__law_box : Stmt := top 42
abbrev s_Run___add__ : Stmt := inClass (top 34) 9
abbrev s_Run___neg__ : Stmt := inClass (top 34) 10
abbrev s__law_take : Stmt := top 43
abbrev s_check_replica : Stmt := top 14
abbrev s_require_key : Stmt := top 22
abbrev s_State_says : Stmt := inClass (top 25) 8
abbrev s__other_replicas : Stmt := top 30
abbrev s_State_list_of : Stmt := inClass (top 25) 5
abbrev s_State___len__ : Stmt := inClass (top 25) 13
abbrev s_is_swap : Stmt := top 27
abbrev s_swap_pair : Stmt := top 28
abbrev s_is_silent : Stmt := top 29
abbrev s_first_wrong_place : Stmt := top 15
abbrev s__wrong_replica : Stmt := top 23
abbrev s_index_of : Stmt := top 17
abbrev s_State___init__ : Stmt := inClass (top 25) 1
abbrev s_State_all_keys : Stmt := inClass (top 25) 7
abbrev s_State_with_list : Stmt := inClass (top 25) 10
abbrev s_check_list : Stmt := top 16
abbrev s_swap_at : Stmt := top 18
abbrev s_swapped_state : Stmt := top 31
abbrev s__state_after : Stmt := top 37
abbrev s_play : Stmt := top 38
abbrev s_State_position : Stmt := inClass (top 25) 9
abbrev s_project_run : Stmt := top 40
abbrev s__law_cut_run : Stmt := top 60
abbrev s_Run___len__ : Stmt := inClass (top 34) 8
abbrev s_State___sub__ : Stmt := inClass (top 25) 16
abbrev s__law_silent : Stmt := top 47
abbrev s__law_swapped : Stmt := top 48
abbrev s__law_pairs : Stmt := top 57
abbrev s__law_whole : Stmt := top 46
abbrev s__law_steps : Stmt := top 56
abbrev s__law_without : Stmt := top 54
abbrev s__law_key_out : Stmt := top 59
abbrev s__law_order : Stmt := top 45
abbrev s__law_keys : Stmt := top 44
abbrev s__law_made : Stmt := top 55
abbrev s__law_answer : Stmt := top 63
abbrev s__law_bad_swap : Stmt := top 62
abbrev s__law_played : Stmt := top 49
abbrev s__law_strange : Stmt := top 58
abbrev s__law_refused : Stmt := top 64
abbrev s__law_put_in : Stmt := top 52
abbrev s__law_ways : Stmt := top 50
abbrev s__law_walk : Stmt := top 51
abbrev s__law_state : Stmt := top 53
abbrev s__law_two_out : Stmt := top 61
abbrev s_law : Stmt := top 65
abbrev i_AudibleSwap : Stmt := inClass (top 10) 0
abbrev i_InvalidList : Stmt := inClass (top 3) 0
abbrev i_InvalidState : Stmt := inClass (top 6) 0
abbrev i_InvalidSwap : Stmt := inClass (top 9) 0
abbrev i_UnknownKey : Stmt := inClass (top 4) 0
abbrev i_UnknownReplica : Stmt := inClass (top 5) 0
abbrev N_Run___init__ : List Str := ["self", "swaps"]
theorem sc_Run___init__ : FnScope N_Run___init__ ["self", "swaps"] (defScope s_Run___init__) := ⟨rfl, rfl, rfl, by decide +kernel, rfl, by decide +kernel, by decide +kernel⟩
abbrev N_Run_steps : List Str := ["self"]
theorem sc_Run_steps : FnScope N_Run_steps ["self"] (defScope s_Run_steps) := ⟨rfl, rfl, rfl, by decide +kernel, rfl, by decide +kernel, by decide +kernel⟩
abbrev N_State_lists : List Str := ["self", "order"]
theorem sc_State_lists : FnScope N_State_lists ["self"] (defScope s_State_lists) := ⟨rfl, rfl, rfl, by decide +kernel, rfl, by decide +kernel, by decide +kernel⟩
abbrev N__law_box : List Str := ["_law_script"]
theorem sc__law_box : FnScope N__law_box ["_law_script"] (defScope s__law_box) := ⟨rfl, rfl, rfl, by decide +kernel, rfl, by decide +kernel, by decide +kernel⟩
abbrev N_Run___add__ : List Str := ["self", "other"]
theorem sc_Run___add__ : FnScope N_Run___add__ ["self", "other"] (defScope s_Run___add__) := ⟨rfl, rfl, rfl, by decide +kernel, rfl, by decide +kernel, by decide +kernel⟩
abbrev N_Run___neg__ : List Str := ["self"]
theorem sc_Run___neg__ : FnScope N_Run___neg__ ["self"] (defScope s_Run___neg__) := ⟨rfl, rfl, rfl, by decide +kernel, rfl, by decide +kernel, by decide +kernel⟩
abbrev N__law_take : List Str := ["_law_box_here", "_law_size", "_law_rest", "_law_turn", "_law_cells", "_law_cell", "_law_mixed"]
theorem sc__law_take : FnScope N__law_take ["_law_box_here", "_law_size"] (defScope s__law_take) := ⟨rfl, rfl, rfl, by decide +kernel, rfl, by decide +kernel, by decide +kernel⟩
abbrev N_check_replica : List Str := ["replica"]
theorem sc_check_replica : FnScope N_check_replica ["replica"] (defScope s_check_replica) := ⟨rfl, rfl, rfl, by decide +kernel, rfl, by decide +kernel, by decide +kernel⟩
abbrev N_require_key : List Str := ["keys", "key"]
theorem sc_require_key : FnScope N_require_key ["keys", "key"] (defScope s_require_key) := ⟨rfl, rfl, rfl, by decide +kernel, rfl, by decide +kernel, by decide +kernel⟩
abbrev N_State_says : List Str := ["self", "replica", "x", "y", "place"]
theorem sc_State_says : FnScope N_State_says ["self", "replica", "x", "y"] (defScope s_State_says) := ⟨rfl, rfl, rfl, by decide +kernel, rfl, by decide +kernel, by decide +kernel⟩
abbrev N__other_replicas : List Str := ["replica", "other"]
theorem sc__other_replicas : FnScope N__other_replicas ["replica"] (defScope s__other_replicas) := ⟨rfl, rfl, rfl, by decide +kernel, rfl, by decide +kernel, by decide +kernel⟩
abbrev N_State_list_of : List Str := ["self", "replica"]
theorem sc_State_list_of : FnScope N_State_list_of ["self", "replica"] (defScope s_State_list_of) := ⟨rfl, rfl, rfl, by decide +kernel, rfl, by decide +kernel, by decide +kernel⟩
abbrev N_State___len__ : List Str := ["self"]
theorem sc_State___len__ : FnScope N_State___len__ ["self"] (defScope s_State___len__) := ⟨rfl, rfl, rfl, by decide +kernel, rfl, by decide +kernel, by decide +kernel⟩
abbrev N_is_swap : List Str := ["state", "swap", "last", "replica", "index"]
theorem sc_is_swap : FnScope N_is_swap ["state", "swap"] (defScope s_is_swap) := ⟨rfl, rfl, rfl, by decide +kernel, rfl, by decide +kernel, by decide +kernel⟩
abbrev N_swap_pair : List Str := ["state", "swap", "order", "replica", "index"]
theorem sc_swap_pair : FnScope N_swap_pair ["state", "swap"] (defScope s_swap_pair) := ⟨rfl, rfl, rfl, by decide +kernel, rfl, by decide +kernel, by decide +kernel⟩
abbrev N_is_silent : List Str := ["state", "swap", "x", "y", "first", "second"]
theorem sc_is_silent : FnScope N_is_silent ["state", "swap"] (defScope s_is_silent) := ⟨rfl, rfl, rfl, by decide +kernel, rfl, by decide +kernel, by decide +kernel⟩
abbrev N_first_wrong_place : List Str := ["order", "seen", "place", "key"]
theorem sc_first_wrong_place : FnScope N_first_wrong_place ["order"] (defScope s_first_wrong_place) := ⟨rfl, rfl, rfl, by decide +kernel, rfl, by decide +kernel, by decide +kernel⟩
abbrev N__wrong_replica : List Str := ["orders", "keys", "replica", "order"]
theorem sc__wrong_replica : FnScope N__wrong_replica ["orders"] (defScope s__wrong_replica) := ⟨rfl, rfl, rfl, by decide +kernel, rfl, by decide +kernel, by decide +kernel⟩
abbrev N_index_of : List Str := ["order", "place", "key"]
theorem sc_index_of : FnScope N_index_of ["order"] (defScope s_index_of) := ⟨rfl, rfl, rfl, by decide +kernel, rfl, by decide +kernel, by decide +kernel⟩
abbrev N_State___init__ : List Str := ["self", "first", "second", "third", "orders", "wrong", "order"]
theorem sc_State___init__ : FnScope N_State___init__ ["self", "first", "second", "third"] (defScope s_State___init__) := ⟨rfl, rfl, rfl, by decide +kernel, rfl, by decide +kernel, by decide +kernel⟩
abbrev N_State_all_keys : List Str := ["self"]
theorem sc_State_all_keys : FnScope N_State_all_keys ["self"] (defScope s_State_all_keys) := ⟨rfl, rfl, rfl, by decide +kernel, rfl, by decide +kernel, by decide +kernel⟩
abbrev N_State_with_list : List Str := ["self", "replica", "order", "orders", "first", "second", "third"]
theorem sc_State_with_list : FnScope N_State_with_list ["self", "replica", "order"] (defScope s_State_with_list) := ⟨rfl, rfl, rfl, by decide +kernel, rfl, by decide +kernel, by decide +kernel⟩
abbrev N_check_list : List Str := ["order", "place"]
theorem sc_check_list : FnScope N_check_list ["order"] (defScope s_check_list) := ⟨rfl, rfl, rfl, by decide +kernel, rfl, by decide +kernel, by decide +kernel⟩
abbrev N_swap_at : List Str := ["order", "index", "swapped"]
theorem sc_swap_at : FnScope N_swap_at ["order", "index"] (defScope s_swap_at) := ⟨rfl, rfl, rfl, by decide +kernel, rfl, by decide +kernel, by decide +kernel⟩
abbrev N_swapped_state : List Str := ["state", "swap", "replica", "index"]
theorem sc_swapped_state : FnScope N_swapped_state ["state", "swap"] (defScope s_swapped_state) := ⟨rfl, rfl, rfl, by decide +kernel, rfl, by decide +kernel, by decide +kernel⟩
abbrev N__state_after : List Str := ["state", "swap", "step"]
theorem sc__state_after : FnScope N__state_after ["state", "swap", "step"] (defScope s__state_after) := ⟨rfl, rfl, rfl, by decide +kernel, rfl, by decide +kernel, by decide +kernel⟩
abbrev N_play : List Str := ["state", "run", "here", "step", "swap"]
theorem sc_play : FnScope N_play ["state", "run"] (defScope s_play) := ⟨rfl, rfl, rfl, by decide +kernel, rfl, by decide +kernel, by decide +kernel⟩
abbrev N_State_position : List Str := ["self", "replica", "key", "place"]
theorem sc_State_position : FnScope N_State_position ["self", "replica", "key"] (defScope s_State_position) := ⟨rfl, rfl, rfl, by decide +kernel, rfl, by decide +kernel, by decide +kernel⟩
abbrev N_project_run : List Str := ["state", "run", "key", "left", "now", "replica", "index", "place"]
theorem sc_project_run : FnScope N_project_run ["state", "run", "key"] (defScope s_project_run) := ⟨rfl, rfl, rfl, by decide +kernel, rfl, by decide +kernel, by decide +kernel⟩
abbrev N__law_cut_run : List Str := ["_law_box_here", "_law_state_here", "_law_run", "_law_steps_here", "_law_key", "_law_cut", "_law_first", "_law_second", "_law_whole_here", "_law_both", "_law_back"]
theorem sc__law_cut_run : FnScope N__law_cut_run ["_law_box_here", "_law_state_here", "_law_run", "_law_steps_here", "_law_key"] (defScope s__law_cut_run) := ⟨rfl, rfl, rfl, by decide +kernel, rfl, by decide +kernel, by decide +kernel⟩
abbrev N_Run___len__ : List Str := ["self"]
theorem sc_Run___len__ : FnScope N_Run___len__ ["self"] (defScope s_Run___len__) := ⟨rfl, rfl, rfl, by decide +kernel, rfl, by decide +kernel, by decide +kernel⟩
abbrev N_State___sub__ : List Str := ["self", "key", "first", "second", "third", "order", "other"]
theorem sc_State___sub__ : FnScope N_State___sub__ ["self", "key"] (defScope s_State___sub__) := ⟨rfl, rfl, rfl, by decide +kernel, rfl, by decide +kernel, by decide +kernel⟩
abbrev N__law_silent : List Str := ["_law_lists", "_law_h", "_law_i", "_law_x", "_law_y", "_law_one", "_law_two"]
theorem sc__law_silent : FnScope N__law_silent ["_law_lists", "_law_h", "_law_i"] (defScope s__law_silent) := ⟨rfl, rfl, rfl, by decide +kernel, rfl, by decide +kernel, by decide +kernel⟩
abbrev N__law_swapped : List Str := ["_law_lists", "_law_h", "_law_i", "_law_now", "_law_order_here"]
theorem sc__law_swapped : FnScope N__law_swapped ["_law_lists", "_law_h", "_law_i"] (defScope s__law_swapped) := ⟨rfl, rfl, rfl, by decide +kernel, rfl, by decide +kernel, by decide +kernel⟩
abbrev N__law_pairs : List Str := ["_law_lists", "_law_steps_here", "_law_now", "_law_pairs_here", "_law_swap", "_law_h", "_law_i"]
theorem sc__law_pairs : FnScope N__law_pairs ["_law_lists", "_law_steps_here"] (defScope s__law_pairs) := ⟨rfl, rfl, rfl, by decide +kernel, rfl, by decide +kernel, by decide +kernel⟩
abbrev N__law_whole : List Str := ["_law_value"]
theorem sc__law_whole : FnScope N__law_whole ["_law_value"] (defScope s__law_whole) := ⟨rfl, rfl, rfl, by decide +kernel, rfl, by decide +kernel, by decide +kernel⟩
abbrev N__law_steps : List Str := ["_law_run", "_law_told", "_law_swap"]
theorem sc__law_steps : FnScope N__law_steps ["_law_run"] (defScope s__law_steps) := ⟨rfl, rfl, rfl, by decide +kernel, rfl, by decide +kernel, by decide +kernel⟩
abbrev N__law_without : List Str := ["_law_lists", "_law_key", "_law_rows", "_law_order_here", "_law_other"]
theorem sc__law_without : FnScope N__law_without ["_law_lists", "_law_key"] (defScope s__law_without) := ⟨rfl, rfl, rfl, by decide +kernel, rfl, by decide +kernel, by decide +kernel⟩
abbrev N__law_key_out : List Str := ["_law_state_here", "_law_run", "_law_lists", "_law_steps_here", "_law_key", "_law_whole_here", "_law_got", "_law_told", "_law_less", "_law_rest", "_law_kept", "_law_step", "_law_end", "_law_small"]
theorem sc__law_key_out : FnScope N__law_key_out ["_law_state_here", "_law_run", "_law_lists", "_law_steps_here", "_law_key"] (defScope s__law_key_out) := ⟨rfl, rfl, rfl, by decide +kernel, rfl, by decide +kernel, by decide +kernel⟩
abbrev N__law_order : List Str := ["_law_box_here", "_law_keys_here", "_law_left", "_law_order_here", "_law_k"]
theorem sc__law_order : FnScope N__law_order ["_law_box_here", "_law_keys_here"] (defScope s__law_order) := ⟨rfl, rfl, rfl, by decide +kernel, rfl, by decide +kernel, by decide +kernel⟩
abbrev N__law_keys : List Str := ["_law_box_here", "_law_count", "_law_keys_here", "_law_last", "_law_k"]
theorem sc__law_keys : FnScope N__law_keys ["_law_box_here", "_law_count"] (defScope s__law_keys) := ⟨rfl, rfl, rfl, by decide +kernel, rfl, by decide +kernel, by decide +kernel⟩
abbrev N__law_made : List Str := ["_law_lists"]
theorem sc__law_made : FnScope N__law_made ["_law_lists"] (defScope s__law_made) := ⟨rfl, rfl, rfl, by decide +kernel, rfl, by decide +kernel, by decide +kernel⟩
abbrev N__law_answer : List Str := ["_law_state_here", "_law_run", "_law_key", "raised"]
theorem sc__law_answer : FnScope N__law_answer ["_law_state_here", "_law_run", "_law_key"] (defScope s__law_answer) := ⟨rfl, rfl, rfl, by decide +kernel, rfl, by decide +kernel, by decide +kernel⟩
abbrev N__law_bad_swap : List Str := ["_law_box_here", "_law_lists", "_law_loud", "_law_count", "_law_h", "_law_odd", "_law_i"]
theorem sc__law_bad_swap : FnScope N__law_bad_swap ["_law_box_here", "_law_lists"] (defScope s__law_bad_swap) := ⟨rfl, rfl, rfl, by decide +kernel, rfl, by decide +kernel, by decide +kernel⟩
abbrev N__law_played : List Str := ["_law_lists", "_law_steps_here", "_law_now", "_law_swap"]
theorem sc__law_played : FnScope N__law_played ["_law_lists", "_law_steps_here"] (defScope s__law_played) := ⟨rfl, rfl, rfl, by decide +kernel, rfl, by decide +kernel, by decide +kernel⟩
abbrev N__law_strange : List Str := ["_law_box_here", "_law_keys_here", "_law_strange_here", "_law_k"]
theorem sc__law_strange : FnScope N__law_strange ["_law_box_here", "_law_keys_here"] (defScope s__law_strange) := ⟨rfl, rfl, rfl, by decide +kernel, rfl, by decide +kernel, by decide +kernel⟩
abbrev N__law_refused : List Str := ["_law_box_here", "_law_state_here", "_law_run", "_law_lists", "_law_steps_here", "_law_keys_here", "_law_cut", "_law_bad", "_law_broken", "_law_strange_here", "_law_key"]
theorem sc__law_refused : FnScope N__law_refused ["_law_box_here", "_law_state_here", "_law_run", "_law_lists", "_law_steps_here", "_law_keys_here"] (defScope s__law_refused) := ⟨rfl, rfl, rfl, by decide +kernel, rfl, by decide +kernel, by decide +kernel⟩
abbrev N__law_put_in : List Str := ["_law_box_here", "_law_lists", "_law_key", "_law_together", "_law_spot", "_law_row"]
theorem sc__law_put_in : FnScope N__law_put_in ["_law_box_here", "_law_lists", "_law_key"] (defScope s__law_put_in) := ⟨rfl, rfl, rfl, by decide +kernel, rfl, by decide +kernel, by decide +kernel⟩
abbrev N__law_ways : List Str := ["_law_lists", "_law_lot", "_law_ways_here", "_law_h", "_law_i"]
theorem sc__law_ways : FnScope N__law_ways ["_law_lists", "_law_lot"] (defScope s__law_ways) := ⟨rfl, rfl, rfl, by decide +kernel, rfl, by decide +kernel, by decide +kernel⟩
abbrev N__law_walk : List Str := ["_law_box_here", "_law_lists", "_law_count", "_law_lot", "_law_now", "_law_steps_here", "_law_k", "_law_ways_here", "_law_swap"]
theorem sc__law_walk : FnScope N__law_walk ["_law_box_here", "_law_lists", "_law_count", "_law_lot"] (defScope s__law_walk) := ⟨rfl, rfl, rfl, by decide +kernel, rfl, by decide +kernel, by decide +kernel⟩
abbrev N__law_state : List Str := ["_law_box_here", "_law_keys_here", "_law_way", "_law_base", "_law_lists", "_law_steps_here", "_law_key", "_law_k"]
theorem sc__law_state : FnScope N__law_state ["_law_box_here", "_law_keys_here"] (defScope s__law_state) := ⟨rfl, rfl, rfl, by decide +kernel, rfl, by decide +kernel, by decide +kernel⟩
abbrev N__law_two_out : List Str := ["_law_state_here", "_law_run", "_law_lists", "_law_steps_here", "_law_a", "_law_b", "_law_one", "_law_two", "_law_told", "_law_whole_here", "_law_rest"]
theorem sc__law_two_out : FnScope N__law_two_out ["_law_state_here", "_law_run", "_law_lists", "_law_steps_here", "_law_a", "_law_b"] (defScope s__law_two_out) := ⟨rfl, rfl, rfl, by decide +kernel, rfl, by decide +kernel, by decide +kernel⟩
abbrev N_law : List Str := ["_law_script", "_law_box_here", "_law_count", "_law_keys_here", "_law_lists", "_law_steps_here", "_law_state_here", "_law_run", "_law_key"]
theorem sc_law : FnScope N_law ["_law_script"] (defScope s_law) := ⟨rfl, rfl, rfl, by decide +kernel, rfl, by decide +kernel, by decide +kernel⟩
structure TX (P : Program) (K : PySem.W.Frag) (mg : Str → Option Value) : Prop where
  F_Run___init__ : ∃ fd, FunD K "__init__" "Run.__init__" (defArgs s_Run___init__) (defBody s_Run___init__) (defScope s_Run___init__) [] [] (He.ma K (He.ga K "Run") "__init__") fd
  M_Run___init__ : Meth K (He.ga K "Run") "__init__" (He.ma K (He.ga K "Run") "__init__")
  F_Run_steps : ∃ fd, FunD K "steps" "Run.steps" (defArgs s_Run_steps) (defBody s_Run_steps) (defScope s_Run_steps) [] [] (He.ma K (He.ga K "Run") "steps") fd
  M_Run_steps : Meth K (He.ga K "Run") "steps" (He.ma K (He.ga K "Run") "steps")
  F_State_lists : ∃ fd, FunD K "lists" "State.lists" (defArgs s_State_lists) (defBody s_State_lists) (defScope s_State_lists) [] [] (He.ma K (He.ga K "State") "lists") fd
  M_State_lists : Meth K (He.ga K "State") "lists" (He.ma K (He.ga K "State") "lists")
  F__law_box : ∃ fd, FunD K "_law_box" "_law_box" (defArgs s__law_box) (defBody s__law_box) (defScope s__law_box) [] [] (He.ga K "_law_box") fd
  g__law_box : mg "_law_box" = some (.ref (He.ga K "_law_box"))
  F_Run___add__ : ∃ fd, FunD K "__add__" "Run.__add__" (defArgs s_Run___add__) (defBody s_Run___add__) (defScope s_Run___add__) [] [] (He.ma K (He.ga K "Run") "__add__") fd
  M_Run___add__ : Meth K (He.ga K "Run") "__add__" (He.ma K (He.ga K "Run") "__add__")
  F_Run___neg__ : ∃ fd, FunD K "__neg__" "Run.__neg__" (defArgs s_Run___neg__) (defBody s_Run___neg__) (defScope s_Run___neg__) [] [] (He.ma K (He.ga K "Run") "__neg__") fd
  M_Run___neg__ : Meth K (He.ga K "Run") "__neg__" (He.ma K (He.ga K "Run") "__neg__")
  F__law_take : ∃ fd, FunD K "_law_take" "_law_take" (defArgs s__law_take) (defBody s__law_take) (defScope s__law_take) [] [] (He.ga K "_law_take") fd
  g__law_take : mg "_law_take" = some (.ref (He.ga K "_law_take"))
  F_check_replica : ∃ fd, FunD K "check_replica" "check_replica" (defArgs s_check_replica) (defBody s_check_replica) (defScope s_check_replica) [] [] (He.ga K "check_replica") fd
  g_check_replica : mg "check_replica" = some (.ref (He.ga K "check_replica"))
  F_require_key : ∃ fd, FunD K "require_key" "require_key" (defArgs s_require_key) (defBody s_require_key) (defScope s_require_key) [] [] (He.ga K "require_key") fd
  g_require_key : mg "require_key" = some (.ref (He.ga K "require_key"))
  F_State_says : ∃ fd, FunD K "says" "State.says" (defArgs s_State_says) (defBody s_State_says) (defScope s_State_says) [] [] (He.ma K (He.ga K "State") "says") fd
  M_State_says : Meth K (He.ga K "State") "says" (He.ma K (He.ga K "State") "says")
  F__other_replicas : ∃ fd, FunD K "_other_replicas" "_other_replicas" (defArgs s__other_replicas) (defBody s__other_replicas) (defScope s__other_replicas) [] [] (He.ga K "_other_replicas") fd
  g__other_replicas : mg "_other_replicas" = some (.ref (He.ga K "_other_replicas"))
  F_State_list_of : ∃ fd, FunD K "list_of" "State.list_of" (defArgs s_State_list_of) (defBody s_State_list_of) (defScope s_State_list_of) [] [] (He.ma K (He.ga K "State") "list_of") fd
  M_State_list_of : Meth K (He.ga K "State") "list_of" (He.ma K (He.ga K "State") "list_of")
  F_State___len__ : ∃ fd, FunD K "__len__" "State.__len__" (defArgs s_State___len__) (defBody s_State___len__) (defScope s_State___len__) [] [] (He.ma K (He.ga K "State") "__len__") fd
  M_State___len__ : Meth K (He.ga K "State") "__len__" (He.ma K (He.ga K "State") "__len__")
  F_is_swap : ∃ fd, FunD K "is_swap" "is_swap" (defArgs s_is_swap) (defBody s_is_swap) (defScope s_is_swap) [] [] (He.ga K "is_swap") fd
  g_is_swap : mg "is_swap" = some (.ref (He.ga K "is_swap"))
  F_swap_pair : ∃ fd, FunD K "swap_pair" "swap_pair" (defArgs s_swap_pair) (defBody s_swap_pair) (defScope s_swap_pair) [] [] (He.ga K "swap_pair") fd
  g_swap_pair : mg "swap_pair" = some (.ref (He.ga K "swap_pair"))
  F_is_silent : ∃ fd, FunD K "is_silent" "is_silent" (defArgs s_is_silent) (defBody s_is_silent) (defScope s_is_silent) [] [] (He.ga K "is_silent") fd
  g_is_silent : mg "is_silent" = some (.ref (He.ga K "is_silent"))
  F_first_wrong_place : ∃ fd, FunD K "first_wrong_place" "first_wrong_place" (defArgs s_first_wrong_place) (defBody s_first_wrong_place) (defScope s_first_wrong_place) [] [] (He.ga K "first_wrong_place") fd
  g_first_wrong_place : mg "first_wrong_place" = some (.ref (He.ga K "first_wrong_place"))
  F__wrong_replica : ∃ fd, FunD K "_wrong_replica" "_wrong_replica" (defArgs s__wrong_replica) (defBody s__wrong_replica) (defScope s__wrong_replica) [] [] (He.ga K "_wrong_replica") fd
  g__wrong_replica : mg "_wrong_replica" = some (.ref (He.ga K "_wrong_replica"))
  F_index_of : ∃ fd, FunD K "index_of" "index_of" (defArgs s_index_of) (defBody s_index_of) (defScope s_index_of) [] [] (He.ga K "index_of") fd
  g_index_of : mg "index_of" = some (.ref (He.ga K "index_of"))
  F_State___init__ : ∃ fd, FunD K "__init__" "State.__init__" (defArgs s_State___init__) (defBody s_State___init__) (defScope s_State___init__) [] [] (He.ma K (He.ga K "State") "__init__") fd
  M_State___init__ : Meth K (He.ga K "State") "__init__" (He.ma K (He.ga K "State") "__init__")
  F_State_all_keys : ∃ fd, FunD K "all_keys" "State.all_keys" (defArgs s_State_all_keys) (defBody s_State_all_keys) (defScope s_State_all_keys) [] [] (He.ma K (He.ga K "State") "all_keys") fd
  M_State_all_keys : Meth K (He.ga K "State") "all_keys" (He.ma K (He.ga K "State") "all_keys")
  F_State_with_list : ∃ fd, FunD K "with_list" "State.with_list" (defArgs s_State_with_list) (defBody s_State_with_list) (defScope s_State_with_list) [] [] (He.ma K (He.ga K "State") "with_list") fd
  M_State_with_list : Meth K (He.ga K "State") "with_list" (He.ma K (He.ga K "State") "with_list")
  F_check_list : ∃ fd, FunD K "check_list" "check_list" (defArgs s_check_list) (defBody s_check_list) (defScope s_check_list) [] [] (He.ga K "check_list") fd
  g_check_list : mg "check_list" = some (.ref (He.ga K "check_list"))
  F_swap_at : ∃ fd, FunD K "swap_at" "swap_at" (defArgs s_swap_at) (defBody s_swap_at) (defScope s_swap_at) [] [] (He.ga K "swap_at") fd
  g_swap_at : mg "swap_at" = some (.ref (He.ga K "swap_at"))
  F_swapped_state : ∃ fd, FunD K "swapped_state" "swapped_state" (defArgs s_swapped_state) (defBody s_swapped_state) (defScope s_swapped_state) [] [] (He.ga K "swapped_state") fd
  g_swapped_state : mg "swapped_state" = some (.ref (He.ga K "swapped_state"))
  F__state_after : ∃ fd, FunD K "_state_after" "_state_after" (defArgs s__state_after) (defBody s__state_after) (defScope s__state_after) [] [] (He.ga K "_state_after") fd
  g__state_after : mg "_state_after" = some (.ref (He.ga K "_state_after"))
  F_play : ∃ fd, FunD K "play" "play" (defArgs s_play) (defBody s_play) (defScope s_play) [] [] (He.ga K "play") fd
  g_play : mg "play" = some (.ref (He.ga K "play"))
  F_State_position : ∃ fd, FunD K "position" "State.position" (defArgs s_State_position) (defBody s_State_position) (defScope s_State_position) [] [] (He.ma K (He.ga K "State") "position") fd
  M_State_position : Meth K (He.ga K "State") "position" (He.ma K (He.ga K "State") "position")
  F_project_run : ∃ fd, FunD K "project_run" "project_run" (defArgs s_project_run) (defBody s_project_run) (defScope s_project_run) [] [] (He.ga K "project_run") fd
  g_project_run : mg "project_run" = some (.ref (He.ga K "project_run"))
  F__law_cut_run : ∃ fd, FunD K "_law_cut_run" "_law_cut_run" (defArgs s__law_cut_run) (defBody s__law_cut_run) (defScope s__law_cut_run) [] [] (He.ga K "_law_cut_run") fd
  g__law_cut_run : mg "_law_cut_run" = some (.ref (He.ga K "_law_cut_run"))
  F_Run___len__ : ∃ fd, FunD K "__len__" "Run.__len__" (defArgs s_Run___len__) (defBody s_Run___len__) (defScope s_Run___len__) [] [] (He.ma K (He.ga K "Run") "__len__") fd
  M_Run___len__ : Meth K (He.ga K "Run") "__len__" (He.ma K (He.ga K "Run") "__len__")
  F_State___sub__ : ∃ fd, FunD K "__sub__" "State.__sub__" (defArgs s_State___sub__) (defBody s_State___sub__) (defScope s_State___sub__) [] [] (He.ma K (He.ga K "State") "__sub__") fd
  M_State___sub__ : Meth K (He.ga K "State") "__sub__" (He.ma K (He.ga K "State") "__sub__")
  F__law_silent : ∃ fd, FunD K "_law_silent" "_law_silent" (defArgs s__law_silent) (defBody s__law_silent) (defScope s__law_silent) [] [] (He.ga K "_law_silent") fd
  g__law_silent : mg "_law_silent" = some (.ref (He.ga K "_law_silent"))
  F__law_swapped : ∃ fd, FunD K "_law_swapped" "_law_swapped" (defArgs s__law_swapped) (defBody s__law_swapped) (defScope s__law_swapped) [] [] (He.ga K "_law_swapped") fd
  g__law_swapped : mg "_law_swapped" = some (.ref (He.ga K "_law_swapped"))
  F__law_pairs : ∃ fd, FunD K "_law_pairs" "_law_pairs" (defArgs s__law_pairs) (defBody s__law_pairs) (defScope s__law_pairs) [] [] (He.ga K "_law_pairs") fd
  g__law_pairs : mg "_law_pairs" = some (.ref (He.ga K "_law_pairs"))
  F__law_whole : ∃ fd, FunD K "_law_whole" "_law_whole" (defArgs s__law_whole) (defBody s__law_whole) (defScope s__law_whole) [] [] (He.ga K "_law_whole") fd
  g__law_whole : mg "_law_whole" = some (.ref (He.ga K "_law_whole"))
  F__law_steps : ∃ fd, FunD K "_law_steps" "_law_steps" (defArgs s__law_steps) (defBody s__law_steps) (defScope s__law_steps) [] [] (He.ga K "_law_steps") fd
  g__law_steps : mg "_law_steps" = some (.ref (He.ga K "_law_steps"))
  F__law_without : ∃ fd, FunD K "_law_without" "_law_without" (defArgs s__law_without) (defBody s__law_without) (defScope s__law_without) [] [] (He.ga K "_law_without") fd
  g__law_without : mg "_law_without" = some (.ref (He.ga K "_law_without"))
  F__law_key_out : ∃ fd, FunD K "_law_key_out" "_law_key_out" (defArgs s__law_key_out) (defBody s__law_key_out) (defScope s__law_key_out) [] [] (He.ga K "_law_key_out") fd
  g__law_key_out : mg "_law_key_out" = some (.ref (He.ga K "_law_key_out"))
  F__law_order : ∃ fd, FunD K "_law_order" "_law_order" (defArgs s__law_order) (defBody s__law_order) (defScope s__law_order) [] [] (He.ga K "_law_order") fd
  g__law_order : mg "_law_order" = some (.ref (He.ga K "_law_order"))
  F__law_keys : ∃ fd, FunD K "_law_keys" "_law_keys" (defArgs s__law_keys) (defBody s__law_keys) (defScope s__law_keys) [] [] (He.ga K "_law_keys") fd
  g__law_keys : mg "_law_keys" = some (.ref (He.ga K "_law_keys"))
  F__law_made : ∃ fd, FunD K "_law_made" "_law_made" (defArgs s__law_made) (defBody s__law_made) (defScope s__law_made) [] [] (He.ga K "_law_made") fd
  g__law_made : mg "_law_made" = some (.ref (He.ga K "_law_made"))
  F__law_answer : ∃ fd, FunD K "_law_answer" "_law_answer" (defArgs s__law_answer) (defBody s__law_answer) (defScope s__law_answer) [] [] (He.ga K "_law_answer") fd
  g__law_answer : mg "_law_answer" = some (.ref (He.ga K "_law_answer"))
  F__law_bad_swap : ∃ fd, FunD K "_law_bad_swap" "_law_bad_swap" (defArgs s__law_bad_swap) (defBody s__law_bad_swap) (defScope s__law_bad_swap) [] [] (He.ga K "_law_bad_swap") fd
  g__law_bad_swap : mg "_law_bad_swap" = some (.ref (He.ga K "_law_bad_swap"))
  F__law_played : ∃ fd, FunD K "_law_played" "_law_played" (defArgs s__law_played) (defBody s__law_played) (defScope s__law_played) [] [] (He.ga K "_law_played") fd
  g__law_played : mg "_law_played" = some (.ref (He.ga K "_law_played"))
  F__law_strange : ∃ fd, FunD K "_law_strange" "_law_strange" (defArgs s__law_strange) (defBody s__law_strange) (defScope s__law_strange) [] [] (He.ga K "_law_strange") fd
  g__law_strange : mg "_law_strange" = some (.ref (He.ga K "_law_strange"))
  F__law_refused : ∃ fd, FunD K "_law_refused" "_law_refused" (defArgs s__law_refused) (defBody s__law_refused) (defScope s__law_refused) [] [] (He.ga K "_law_refused") fd
  g__law_refused : mg "_law_refused" = some (.ref (He.ga K "_law_refused"))
  F__law_put_in : ∃ fd, FunD K "_law_put_in" "_law_put_in" (defArgs s__law_put_in) (defBody s__law_put_in) (defScope s__law_put_in) [] [] (He.ga K "_law_put_in") fd
  g__law_put_in : mg "_law_put_in" = some (.ref (He.ga K "_law_put_in"))
  F__law_ways : ∃ fd, FunD K "_law_ways" "_law_ways" (defArgs s__law_ways) (defBody s__law_ways) (defScope s__law_ways) [] [] (He.ga K "_law_ways") fd
  g__law_ways : mg "_law_ways" = some (.ref (He.ga K "_law_ways"))
  F__law_walk : ∃ fd, FunD K "_law_walk" "_law_walk" (defArgs s__law_walk) (defBody s__law_walk) (defScope s__law_walk) [] [] (He.ga K "_law_walk") fd
  g__law_walk : mg "_law_walk" = some (.ref (He.ga K "_law_walk"))
  F__law_state : ∃ fd, FunD K "_law_state" "_law_state" (defArgs s__law_state) (defBody s__law_state) (defScope s__law_state) [] [] (He.ga K "_law_state") fd
  g__law_state : mg "_law_state" = some (.ref (He.ga K "_law_state"))
  F__law_two_out : ∃ fd, FunD K "_law_two_out" "_law_two_out" (defArgs s__law_two_out) (defBody s__law_two_out) (defScope s__law_two_out) [] [] (He.ga K "_law_two_out") fd
  g__law_two_out : mg "_law_two_out" = some (.ref (He.ga K "_law_two_out"))
  F_law : ∃ fd, FunD K "law" "law" (defArgs s_law) (defBody s_law) (defScope s_law) [] [] (He.ga K "law") fd
  g_law : mg "law" = some (.ref (He.ga K "law"))
  C_Run : Cls K (He.ga K "Run")
  C_State : Cls K (He.ga K "State")
  mk_Run : Mk K (He.ga K "Run") (He.ma K (He.ga K "Run") "__init__")
  mk_State : Mk K (He.ga K "State") (He.ma K (He.ga K "State") "__init__")
  na_Run__swaps : NoAttr K (He.ga K "Run") "_swaps"
  na_State__lists : NoAttr K (He.ga K "State") "_lists"
  na_State__places : NoAttr K (He.ga K "State") "_places"
  isc_Run : C8.InsC K (He.ga K "Run")
  isc_State : C8.InsC K (He.ga K "State")
  sf_Run : PySem.W.selfFirst K (He.ga K "Run") = true
  bn_State_Sub : PyI.BinN K (He.ga K "State") .Sub
  cv_State_REPLICAS : ClX.CRead K (He.ga K "State") (.type "type") ∧ ∃ u, ClX.CVal K (He.ga K "State") (.type "type") "REPLICAS" (.int 3) u
  g_AudibleSwap : mg "AudibleSwap" = some (.ref (He.ga K "AudibleSwap"))
  g_DriftError : mg "DriftError" = some (.ref (He.ga K "DriftError"))
  g_InvalidList : mg "InvalidList" = some (.ref (He.ga K "InvalidList"))
  g_InvalidState : mg "InvalidState" = some (.ref (He.ga K "InvalidState"))
  g_InvalidSwap : mg "InvalidSwap" = some (.ref (He.ga K "InvalidSwap"))
  g_Run : mg "Run" = some (.ref (He.ga K "Run"))
  g_State : mg "State" = some (.ref (He.ga K "State"))
  g_UnknownKey : mg "UnknownKey" = some (.ref (He.ga K "UnknownKey"))
  g_UnknownReplica : mg "UnknownReplica" = some (.ref (He.ga K "UnknownReplica"))
  n_abs : mg "abs" = none
  n_bool : mg "bool" = none
  n_enumerate : mg "enumerate" = none
  n_int : mg "int" = none
  n_isinstance : mg "isinstance" = none
  n_len : mg "len" = none
  n_list : mg "list" = none
  n_range : mg "range" = none
  n_sorted : mg "sorted" = none
  n_super : mg "super" = none
  n_tuple : mg "tuple" = none
  i_MAX_KEY : ∃ t, mg "MAX_KEY" = some (.int 9999 t)
  i_MAX_KEYS : ∃ t, mg "MAX_KEYS" = some (.int 12 t)
  tx_AudibleSwap : OwnX.Txt P K "step" (msgOf i_AudibleSwap) (He.ga K "AudibleSwap") (PyH.iAd K "AudibleSwap")
  tx_InvalidList : OwnX.Txt P K "place" (msgOf i_InvalidList) (He.ga K "InvalidList") (PyH.iAd K "InvalidList")
  tx_InvalidState : OwnX.Txt P K "replica" (msgOf i_InvalidState) (He.ga K "InvalidState") (PyH.iAd K "InvalidState")
  tx_InvalidSwap : OwnX.Txt P K "step" (msgOf i_InvalidSwap) (He.ga K "InvalidSwap") (PyH.iAd K "InvalidSwap")
  tx_UnknownKey : OwnX.Txt P K "key" (msgOf i_UnknownKey) (He.ga K "UnknownKey") (PyH.iAd K "UnknownKey")
  tx_UnknownReplica : OwnX.Txt P K "replica" (msgOf i_UnknownReplica) (He.ga K "UnknownReplica") (PyH.iAd K "UnknownReplica")
  x_AudibleSwap : PyH.ExC2 K (He.ga K "AudibleSwap") "step"
  x_InvalidList : PyH.ExC2 K (He.ga K "InvalidList") "place"
  x_InvalidState : PyH.ExC2 K (He.ga K "InvalidState") "replica"
  x_InvalidSwap : PyH.ExC2 K (He.ga K "InvalidSwap") "step"
  x_UnknownKey : PyH.ExC2 K (He.ga K "UnknownKey") "key"
  x_UnknownReplica : PyH.ExC2 K (He.ga K "UnknownReplica") "replica"
  exm_AudibleSwap_AudibleSwap : PySem.W.exmOne K (.ref (He.ga K "AudibleSwap")) (.ref (He.ga K "AudibleSwap")) = some true
  exm_AudibleSwap_InvalidSwap : PySem.W.exmOne K (.ref (He.ga K "AudibleSwap")) (.ref (He.ga K "InvalidSwap")) = some false
  exm_AudibleSwap_UnknownKey : PySem.W.exmOne K (.ref (He.ga K "AudibleSwap")) (.ref (He.ga K "UnknownKey")) = some false
  exm_InvalidList_AudibleSwap : PySem.W.exmOne K (.ref (He.ga K "InvalidList")) (.ref (He.ga K "AudibleSwap")) = some false
  exm_InvalidList_InvalidSwap : PySem.W.exmOne K (.ref (He.ga K "InvalidList")) (.ref (He.ga K "InvalidSwap")) = some false
  exm_InvalidList_UnknownKey : PySem.W.exmOne K (.ref (He.ga K "InvalidList")) (.ref (He.ga K "UnknownKey")) = some false
  exm_InvalidState_AudibleSwap : PySem.W.exmOne K (.ref (He.ga K "InvalidState")) (.ref (He.ga K "AudibleSwap")) = some false
  exm_InvalidState_InvalidSwap : PySem.W.exmOne K (.ref (He.ga K "InvalidState")) (.ref (He.ga K "InvalidSwap")) = some false
  exm_InvalidState_UnknownKey : PySem.W.exmOne K (.ref (He.ga K "InvalidState")) (.ref (He.ga K "UnknownKey")) = some false
  exm_InvalidSwap_AudibleSwap : PySem.W.exmOne K (.ref (He.ga K "InvalidSwap")) (.ref (He.ga K "AudibleSwap")) = some false
  exm_InvalidSwap_InvalidSwap : PySem.W.exmOne K (.ref (He.ga K "InvalidSwap")) (.ref (He.ga K "InvalidSwap")) = some true
  exm_InvalidSwap_UnknownKey : PySem.W.exmOne K (.ref (He.ga K "InvalidSwap")) (.ref (He.ga K "UnknownKey")) = some false
  exm_UnknownKey_AudibleSwap : PySem.W.exmOne K (.ref (He.ga K "UnknownKey")) (.ref (He.ga K "AudibleSwap")) = some false
  exm_UnknownKey_InvalidSwap : PySem.W.exmOne K (.ref (He.ga K "UnknownKey")) (.ref (He.ga K "InvalidSwap")) = some false
  exm_UnknownKey_UnknownKey : PySem.W.exmOne K (.ref (He.ga K "UnknownKey")) (.ref (He.ga K "UnknownKey")) = some true
  exm_UnknownReplica_AudibleSwap : PySem.W.exmOne K (.ref (He.ga K "UnknownReplica")) (.ref (He.ga K "AudibleSwap")) = some false
  exm_UnknownReplica_InvalidSwap : PySem.W.exmOne K (.ref (He.ga K "UnknownReplica")) (.ref (He.ga K "InvalidSwap")) = some false
  exm_UnknownReplica_UnknownKey : PySem.W.exmOne K (.ref (He.ga K "UnknownReplica")) (.ref (He.ga K "UnknownKey")) = some false
  kit_AudibleSwap_DriftError : PySem.W.kitOne K (.ref (He.ga K "AudibleSwap")) (.ref (He.ga K "DriftError")) = some true
  kit_InvalidList_DriftError : PySem.W.kitOne K (.ref (He.ga K "InvalidList")) (.ref (He.ga K "DriftError")) = some true
  kit_InvalidState_DriftError : PySem.W.kitOne K (.ref (He.ga K "InvalidState")) (.ref (He.ga K "DriftError")) = some true
  kit_InvalidSwap_DriftError : PySem.W.kitOne K (.ref (He.ga K "InvalidSwap")) (.ref (He.ga K "DriftError")) = some true
  kit_UnknownKey_DriftError : PySem.W.kitOne K (.ref (He.ga K "UnknownKey")) (.ref (He.ga K "DriftError")) = some true
  kit_UnknownReplica_DriftError : PySem.W.kitOne K (.ref (He.ga K "UnknownReplica")) (.ref (He.ga K "DriftError")) = some true
end K53
namespace K53
open PySem PySem.Spec PyProof.Rows L2
abbrev R : PySem.W.OpenRow := PySem.W.OpenLaw.row PySem.Challenge.rw_quorumdrift_k53_whole_key_taken_out
def nm0 : List PySem.Str := [("_wall" : PySem.Str), ("DriftError" : PySem.Str), ("InvalidList" : PySem.Str), ("UnknownKey" : PySem.Str), ("UnknownReplica" : PySem.Str), ("InvalidState" : PySem.Str), ("SharedKey" : PySem.Str), ("InvalidLine" : PySem.Str), ("InvalidSwap" : PySem.Str), ("AudibleSwap" : PySem.Str), ("MAX_KEYS" : PySem.Str), ("MAX_KEY" : PySem.Str), ("check_replica" : PySem.Str), ("first_wrong_place" : PySem.Str), ("check_list" : PySem.Str), ("index_of" : PySem.Str), ("swap_at" : PySem.Str), ("DIGITS" : PySem.Str), ("SEPARATOR" : PySem.Str), ("require_key" : PySem.Str), ("_wrong_replica" : PySem.Str), ("_is_key_text" : PySem.Str), ("State" : PySem.Str), ("is_swap" : PySem.Str), ("swap_pair" : PySem.Str), ("is_silent" : PySem.Str), ("_other_replicas" : PySem.Str), ("swapped_state" : PySem.Str), ("_MOST_DIGITS" : PySem.Str), ("Run" : PySem.Str), ("_read_swap" : PySem.Str), ("_read_number" : PySem.Str), ("_state_after" : PySem.Str), ("play" : PySem.Str), ("project_run" : PySem.Str), ("_law_box" : PySem.Str), ("_law_take" : PySem.Str), ("_law_keys" : PySem.Str), ("_law_order" : PySem.Str), ("_law_whole" : PySem.Str)]
def nm1 : List PySem.Str := [("_law_silent" : PySem.Str), ("_law_swapped" : PySem.Str), ("_law_played" : PySem.Str), ("_law_ways" : PySem.Str), ("_law_walk" : PySem.Str), ("_law_put_in" : PySem.Str), ("_law_state" : PySem.Str), ("_law_without" : PySem.Str), ("_law_made" : PySem.Str), ("_law_steps" : PySem.Str), ("_law_pairs" : PySem.Str), ("_law_strange" : PySem.Str), ("_law_key_out" : PySem.Str), ("_law_cut_run" : PySem.Str), ("_law_two_out" : PySem.Str), ("_law_bad_swap" : PySem.Str), ("_law_answer" : PySem.Str), ("_law_refused" : PySem.Str)]
abbrev nms : List PySem.Str := nm0 ++ nm1
def d_Run___init__ : He.DefD := ⟨("Run", some "__init__"), "__init__", "Run.__init__", defArgs s_Run___init__, defBody s_Run___init__, defScope s_Run___init__, [], []⟩
def d_Run_steps : He.DefD := ⟨("Run", some "steps"), "steps", "Run.steps", defArgs s_Run_steps, defBody s_Run_steps, defScope s_Run_steps, [], []⟩
def d_State_lists : He.DefD := ⟨("State", some "lists"), "lists", "State.lists", defArgs s_State_lists, defBody s_State_lists, defScope s_State_lists, [], []⟩
def d__law_box : He.DefD := ⟨("_law_box", none), "_law_box", "_law_box", defArgs s__law_box, defBody s__law_box, defScope s__law_box, [], []⟩
def d_Run___add__ : He.DefD := ⟨("Run", some "__add__"), "__add__", "Run.__add__", defArgs s_Run___add__, defBody s_Run___add__, defScope s_Run___add__, [], []⟩
def d_Run___neg__ : He.DefD := ⟨("Run", some "__neg__"), "__neg__", "Run.__neg__", defArgs s_Run___neg__, defBody s_Run___neg__, defScope s_Run___neg__, [], []⟩
def d__law_take : He.DefD := ⟨("_law_take", none), "_law_take", "_law_take", defArgs s__law_take, defBody s__law_take, defScope s__law_take, [], []⟩
def d_check_replica : He.DefD := ⟨("check_replica", none), "check_replica", "check_replica", defArgs s_check_replica, defBody s_check_replica, defScope s_check_replica, [], []⟩
def d_require_key : He.DefD := ⟨("require_key", none), "require_key", "require_key", defArgs s_require_key, defBody s_require_key, defScope s_require_key, [], []⟩
def d_State_says : He.DefD := ⟨("State", some "says"), "says", "State.says", defArgs s_State_says, defBody s_State_says, defScope s_State_says, [], []⟩
def d__other_replicas : He.DefD := ⟨("_other_replicas", none), "_other_replicas", "_other_replicas", defArgs s__other_replicas, defBody s__other_replicas, defScope s__other_replicas, [], []⟩
def d_State_list_of : He.DefD := ⟨("State", some "list_of"), "list_of", "State.list_of", defArgs s_State_list_of, defBody s_State_list_of, defScope s_State_list_of, [], []⟩
def d_State___len__ : He.DefD := ⟨("State", some "__len__"), "__len__", "State.__len__", defArgs s_State___len__, defBody s_State___len__, defScope s_State___len__, [], []⟩
def d_is_swap : He.DefD := ⟨("is_swap", none), "is_swap", "is_swap", defArgs s_is_swap, defBody s_is_swap, defScope s_is_swap, [], []⟩
def d_swap_pair : He.DefD := ⟨("swap_pair", none), "swap_pair", "swap_pair", defArgs s_swap_pair, defBody s_swap_pair, defScope s_swap_pair, [], []⟩
def d_is_silent : He.DefD := ⟨("is_silent", none), "is_silent", "is_silent", defArgs s_is_silent, defBody s_is_silent, defScope s_is_silent, [], []⟩
def d_first_wrong_place : He.DefD := ⟨("first_wrong_place", none), "first_wrong_place", "first_wrong_place", defArgs s_first_wrong_place, defBody s_first_wrong_place, defScope s_first_wrong_place, [], []⟩
def d__wrong_replica : He.DefD := ⟨("_wrong_replica", none), "_wrong_replica", "_wrong_replica", defArgs s__wrong_replica, defBody s__wrong_replica, defScope s__wrong_replica, [], []⟩
def d_index_of : He.DefD := ⟨("index_of", none), "index_of", "index_of", defArgs s_index_of, defBody s_index_of, defScope s_index_of, [], []⟩
def d_State___init__ : He.DefD := ⟨("State", some "__init__"), "__init__", "State.__init__", defArgs s_State___init__, defBody s_State___init__, defScope s_State___init__, [], []⟩
def d_State_all_keys : He.DefD := ⟨("State", some "all_keys"), "all_keys", "State.all_keys", defArgs s_State_all_keys, defBody s_State_all_keys, defScope s_State_all_keys, [], []⟩
def d_State_with_list : He.DefD := ⟨("State", some "with_list"), "with_list", "State.with_list", defArgs s_State_with_list, defBody s_State_with_list, defScope s_State_with_list, [], []⟩
def d_check_list : He.DefD := ⟨("check_list", none), "check_list", "check_list", defArgs s_check_list, defBody s_check_list, defScope s_check_list, [], []⟩
def d_swap_at : He.DefD := ⟨("swap_at", none), "swap_at", "swap_at", defArgs s_swap_at, defBody s_swap_at, defScope s_swap_at, [], []⟩
def d_swapped_state : He.DefD := ⟨("swapped_state", none), "swapped_state", "swapped_state", defArgs s_swapped_state, defBody s_swapped_state, defScope s_swapped_state, [], []⟩
def d__state_after : He.DefD := ⟨("_state_after", none), "_state_after", "_state_after", defArgs s__state_after, defBody s__state_after, defScope s__state_after, [], []⟩
def d_play : He.DefD := ⟨("play", none), "play", "play", defArgs s_play, defBody s_play, defScope s_play, [], []⟩
def d_State_position : He.DefD := ⟨("State", some "position"), "position", "State.position", defArgs s_State_position, defBody s_State_position, defScope s_State_position, [], []⟩
def d_project_run : He.DefD := ⟨("project_run", none), "project_run", "project_run", defArgs s_project_run, defBody s_project_run, defScope s_project_run, [], []⟩
def d__law_cut_run : He.DefD := ⟨("_law_cut_run", none), "_law_cut_run", "_law_cut_run", defArgs s__law_cut_run, defBody s__law_cut_run, defScope s__law_cut_run, [], []⟩
def d_Run___len__ : He.DefD := ⟨("Run", some "__len__"), "__len__", "Run.__len__", defArgs s_Run___len__, defBody s_Run___len__, defScope s_Run___len__, [], []⟩
def d_State___sub__ : He.DefD := ⟨("State", some "__sub__"), "__sub__", "State.__sub__", defArgs s_State___sub__, defBody s_State___sub__, defScope s_State___sub__, [], []⟩
def d__law_silent : He.DefD := ⟨("_law_silent", none), "_law_silent", "_law_silent", defArgs s__law_silent, defBody s__law_silent, defScope s__law_silent, [], []⟩
def d__law_swapped : He.DefD := ⟨("_law_swapped", none), "_law_swapped", "_law_swapped", defArgs s__law_swapped, defBody s__law_swapped, defScope s__law_swapped, [], []⟩
def d__law_pairs : He.DefD := ⟨("_law_pairs", none), "_law_pairs", "_law_pairs", defArgs s__law_pairs, defBody s__law_pairs, defScope s__law_pairs, [], []⟩
def d__law_whole : He.DefD := ⟨("_law_whole", none), "_law_whole", "_law_whole", defArgs s__law_whole, defBody s__law_whole, defScope s__law_whole, [], []⟩
def d__law_steps : He.DefD := ⟨("_law_steps", none), "_law_steps", "_law_steps", defArgs s__law_steps, defBody s__law_steps, defScope s__law_steps, [], []⟩
def d__law_without : He.DefD := ⟨("_law_without", none), "_law_without", "_law_without", defArgs s__law_without, defBody s__law_without, defScope s__law_without, [], []⟩
def d__law_key_out : He.DefD := ⟨("_law_key_out", none), "_law_key_out", "_law_key_out", defArgs s__law_key_out, defBody s__law_key_out, defScope s__law_key_out, [], []⟩
def d__law_order : He.DefD := ⟨("_law_order", none), "_law_order", "_law_order", defArgs s__law_order, defBody s__law_order, defScope s__law_order, [], []⟩
def d__law_keys : He.DefD := ⟨("_law_keys", none), "_law_keys", "_law_keys", defArgs s__law_keys, defBody s__law_keys, defScope s__law_keys, [], []⟩
def d__law_made : He.DefD := ⟨("_law_made", none), "_law_made", "_law_made", defArgs s__law_made, defBody s__law_made, defScope s__law_made, [], []⟩
def d__law_answer : He.DefD := ⟨("_law_answer", none), "_law_answer", "_law_answer", defArgs s__law_answer, defBody s__law_answer, defScope s__law_answer, [], []⟩
def d__law_bad_swap : He.DefD := ⟨("_law_bad_swap", none), "_law_bad_swap", "_law_bad_swap", defArgs s__law_bad_swap, defBody s__law_bad_swap, defScope s__law_bad_swap, [], []⟩
def d__law_played : He.DefD := ⟨("_law_played", none), "_law_played", "_law_played", defArgs s__law_played, defBody s__law_played, defScope s__law_played, [], []⟩
def d__law_strange : He.DefD := ⟨("_law_strange", none), "_law_strange", "_law_strange", defArgs s__law_strange, defBody s__law_strange, defScope s__law_strange, [], []⟩
def d__law_refused : He.DefD := ⟨("_law_refused", none), "_law_refused", "_law_refused", defArgs s__law_refused, defBody s__law_refused, defScope s__law_refused, [], []⟩
def d__law_put_in : He.DefD := ⟨("_law_put_in", none), "_law_put_in", "_law_put_in", defArgs s__law_put_in, defBody s__law_put_in, defScope s__law_put_in, [], []⟩
def d__law_ways : He.DefD := ⟨("_law_ways", none), "_law_ways", "_law_ways", defArgs s__law_ways, defBody s__law_ways, defScope s__law_ways, [], []⟩
def d__law_walk : He.DefD := ⟨("_law_walk", none), "_law_walk", "_law_walk", defArgs s__law_walk, defBody s__law_walk, defScope s__law_walk, [], []⟩
def d__law_state : He.DefD := ⟨("_law_state", none), "_law_state", "_law_state", defArgs s__law_state, defBody s__law_state, defScope s__law_state, [], []⟩
def d__law_two_out : He.DefD := ⟨("_law_two_out", none), "_law_two_out", "_law_two_out", defArgs s__law_two_out, defBody s__law_two_out, defScope s__law_two_out, [], []⟩
def d_law : He.DefD := ⟨("law", none), "law", "law", defArgs s_law, defBody s_law, defScope s_law, [], []⟩
def x_AudibleSwap : PyH.ExD := ⟨"AudibleSwap", "step", "AudibleSwap.__init__", i_AudibleSwap⟩
def x_InvalidList : PyH.ExD := ⟨"InvalidList", "place", "InvalidList.__init__", i_InvalidList⟩
def x_InvalidState : PyH.ExD := ⟨"InvalidState", "replica", "InvalidState.__init__", i_InvalidState⟩
def x_InvalidSwap : PyH.ExD := ⟨"InvalidSwap", "step", "InvalidSwap.__init__", i_InvalidSwap⟩
def x_UnknownKey : PyH.ExD := ⟨"UnknownKey", "key", "UnknownKey.__init__", i_UnknownKey⟩
def x_UnknownReplica : PyH.ExD := ⟨"UnknownReplica", "replica", "UnknownReplica.__init__", i_UnknownReplica⟩
def fn : List He.DefD := [d_Run___init__, d_Run_steps, d_State_lists, d__law_box, d_Run___add__, d_Run___neg__, d__law_take, d_check_replica, d_require_key, d_State_says, d__other_replicas, d_State_list_of, d_State___len__, d_is_swap, d_swap_pair, d_is_silent, d_first_wrong_place, d__wrong_replica, d_index_of, d_State___init__, d_State_all_keys, d_State_with_list, d_check_list, d_swap_at, d_swapped_state, d__state_after, d_play, d_State_position, d_project_run, d__law_cut_run, d_Run___len__, d_State___sub__, d__law_silent, d__law_swapped, d__law_pairs, d__law_whole, d__law_steps, d__law_without, d__law_key_out, d__law_order, d__law_keys, d__law_made, d__law_answer, d__law_bad_swap, d__law_played, d__law_strange, d__law_refused, d__law_put_in, d__law_ways, d__law_walk, d__law_state, d__law_two_out, d_law]
def fa : List He.Fa := [.meth "Run" "__init__", .meth "Run" "steps", .meth "State" "lists", .glo "_law_box", .meth "Run" "__add__", .meth "Run" "__neg__", .glo "_law_take", .glo "check_replica", .glo "require_key", .meth "State" "says", .glo "_other_replicas", .meth "State" "list_of", .meth "State" "__len__", .glo "is_swap", .glo "swap_pair", .glo "is_silent", .glo "first_wrong_place", .glo "_wrong_replica", .glo "index_of", .meth "State" "__init__", .meth "State" "all_keys", .meth "State" "with_list", .glo "check_list", .glo "swap_at", .glo "swapped_state", .glo "_state_after", .glo "play", .meth "State" "position", .glo "project_run", .glo "_law_cut_run", .meth "Run" "__len__", .meth "State" "__sub__", .glo "_law_silent", .glo "_law_swapped", .glo "_law_pairs", .glo "_law_whole", .glo "_law_steps", .glo "_law_without", .glo "_law_key_out", .glo "_law_order", .glo "_law_keys", .glo "_law_made", .glo "_law_answer", .glo "_law_bad_swap", .glo "_law_played", .glo "_law_strange", .glo "_law_refused", .glo "_law_put_in", .glo "_law_ways", .glo "_law_walk", .glo "_law_state", .glo "_law_two_out", .glo "law", .cls "Run", .cls "State", .mkr "Run", .mkr "State", .noat "Run" "_swaps", .noat "State" "_lists", .noat "State" "_places", .glo "AudibleSwap", .glo "DriftError", .glo "InvalidList", .glo "InvalidState", .glo "InvalidSwap", .glo "Run", .glo "State", .glo "UnknownKey", .glo "UnknownReplica", .free "abs", .free "bool", .free "enumerate", .free "int", .free "isinstance", .free "len", .free "list", .free "range", .free "sorted", .free "super", .free "tuple", .int "MAX_KEY" 9999, .int "MAX_KEYS" 12]
def xs : List PyH.ExD := [x_AudibleSwap, x_InvalidList, x_InvalidState, x_InvalidSwap, x_UnknownKey, x_UnknownReplica]
def e_0 : PySem.W.Frag → Bool := fun K => PyH.insCB K (He.ga K "Run")
def e_1 : PySem.W.Frag → Bool := fun K => PyH.insCB K (He.ga K "State")
def e_2 : PySem.W.Frag → Bool := fun K => PySem.W.selfFirst K (He.ga K "Run")
def e_3 : PySem.W.Frag → Bool := fun K => PyH.binNB K (He.ga K "State") .Sub
def e_4 : PySem.W.Frag → Bool := fun K => PyH.cvalB K (He.ga K "State") "REPLICAS" 3
def e_5 : PySem.W.Frag → Bool := fun K => PyH.ExD.ok "/claim/cut.py" K x_AudibleSwap
def e_6 : PySem.W.Frag → Bool := fun K => PyH.ExD.ok "/claim/cut.py" K x_InvalidList
def e_7 : PySem.W.Frag → Bool := fun K => PyH.ExD.ok "/claim/cut.py" K x_InvalidState
def e_8 : PySem.W.Frag → Bool := fun K => PyH.ExD.ok "/claim/cut.py" K x_InvalidSwap
def e_9 : PySem.W.Frag → Bool := fun K => PyH.ExD.ok "/claim/cut.py" K x_UnknownKey
def e_10 : PySem.W.Frag → Bool := fun K => PyH.ExD.ok "/claim/cut.py" K x_UnknownReplica
def e_11 : PySem.W.Frag → Bool := fun K => PyH.ex2B K (He.ga K "AudibleSwap") "step"
def e_12 : PySem.W.Frag → Bool := fun K => PyH.ex2B K (He.ga K "InvalidList") "place"
def e_13 : PySem.W.Frag → Bool := fun K => PyH.ex2B K (He.ga K "InvalidState") "replica"
def e_14 : PySem.W.Frag → Bool := fun K => PyH.ex2B K (He.ga K "InvalidSwap") "step"
def e_15 : PySem.W.Frag → Bool := fun K => PyH.ex2B K (He.ga K "UnknownKey") "key"
def e_16 : PySem.W.Frag → Bool := fun K => PyH.ex2B K (He.ga K "UnknownReplica") "replica"
def e_17 : PySem.W.Frag → Bool := fun K => decide (PySem.W.exmOne K (.ref (He.ga K "AudibleSwap")) (.ref (He.ga K "AudibleSwap")) = some true)
def e_18 : PySem.W.Frag → Bool := fun K => decide (PySem.W.exmOne K (.ref (He.ga K "AudibleSwap")) (.ref (He.ga K "InvalidSwap")) = some false)
def e_19 : PySem.W.Frag → Bool := fun K => decide (PySem.W.exmOne K (.ref (He.ga K "AudibleSwap")) (.ref (He.ga K "UnknownKey")) = some false)
def e_20 : PySem.W.Frag → Bool := fun K => decide (PySem.W.exmOne K (.ref (He.ga K "InvalidList")) (.ref (He.ga K "AudibleSwap")) = some false)
def e_21 : PySem.W.Frag → Bool := fun K => decide (PySem.W.exmOne K (.ref (He.ga K "InvalidList")) (.ref (He.ga K "InvalidSwap")) = some false)
def e_22 : PySem.W.Frag → Bool := fun K => decide (PySem.W.exmOne K (.ref (He.ga K "InvalidList")) (.ref (He.ga K "UnknownKey")) = some false)
def e_23 : PySem.W.Frag → Bool := fun K => decide (PySem.W.exmOne K (.ref (He.ga K "InvalidState")) (.ref (He.ga K "AudibleSwap")) = some false)
def e_24 : PySem.W.Frag → Bool := fun K => decide (PySem.W.exmOne K (.ref (He.ga K "InvalidState")) (.ref (He.ga K "InvalidSwap")) = some false)
def e_25 : PySem.W.Frag → Bool := fun K => decide (PySem.W.exmOne K (.ref (He.ga K "InvalidState")) (.ref (He.ga K "UnknownKey")) = some false)
def e_26 : PySem.W.Frag → Bool := fun K => decide (PySem.W.exmOne K (.ref (He.ga K "InvalidSwap")) (.ref (He.ga K "AudibleSwap")) = some false)
def e_27 : PySem.W.Frag → Bool := fun K => decide (PySem.W.exmOne K (.ref (He.ga K "InvalidSwap")) (.ref (He.ga K "InvalidSwap")) = some true)
def e_28 : PySem.W.Frag → Bool := fun K => decide (PySem.W.exmOne K (.ref (He.ga K "InvalidSwap")) (.ref (He.ga K "UnknownKey")) = some false)
def e_29 : PySem.W.Frag → Bool := fun K => decide (PySem.W.exmOne K (.ref (He.ga K "UnknownKey")) (.ref (He.ga K "AudibleSwap")) = some false)
def e_30 : PySem.W.Frag → Bool := fun K => decide (PySem.W.exmOne K (.ref (He.ga K "UnknownKey")) (.ref (He.ga K "InvalidSwap")) = some false)
def e_31 : PySem.W.Frag → Bool := fun K => decide (PySem.W.exmOne K (.ref (He.ga K "UnknownKey")) (.ref (He.ga K "UnknownKey")) = some true)
def e_32 : PySem.W.Frag → Bool := fun K => decide (PySem.W.exmOne K (.ref (He.ga K "UnknownReplica")) (.ref (He.ga K "AudibleSwap")) = some false)
def e_33 : PySem.W.Frag → Bool := fun K => decide (PySem.W.exmOne K (.ref (He.ga K "UnknownReplica")) (.ref (He.ga K "InvalidSwap")) = some false)
def e_34 : PySem.W.Frag → Bool := fun K => decide (PySem.W.exmOne K (.ref (He.ga K "UnknownReplica")) (.ref (He.ga K "UnknownKey")) = some false)
def e_35 : PySem.W.Frag → Bool := fun K => decide (PySem.W.kitOne K (.ref (He.ga K "AudibleSwap")) (.ref (He.ga K "DriftError")) = some true)
def e_36 : PySem.W.Frag → Bool := fun K => decide (PySem.W.kitOne K (.ref (He.ga K "InvalidList")) (.ref (He.ga K "DriftError")) = some true)
def e_37 : PySem.W.Frag → Bool := fun K => decide (PySem.W.kitOne K (.ref (He.ga K "InvalidState")) (.ref (He.ga K "DriftError")) = some true)
def e_38 : PySem.W.Frag → Bool := fun K => decide (PySem.W.kitOne K (.ref (He.ga K "InvalidSwap")) (.ref (He.ga K "DriftError")) = some true)
def e_39 : PySem.W.Frag → Bool := fun K => decide (PySem.W.kitOne K (.ref (He.ga K "UnknownKey")) (.ref (He.ga K "DriftError")) = some true)
def e_40 : PySem.W.Frag → Bool := fun K => decide (PySem.W.kitOne K (.ref (He.ga K "UnknownReplica")) (.ref (He.ga K "DriftError")) = some true)
def ex : List (PySem.W.Frag → Bool) := [e_0, e_1, e_2, e_3, e_4, e_5, e_6, e_7, e_8, e_9, e_10, e_11, e_12, e_13, e_14, e_15, e_16, e_17, e_18, e_19, e_20, e_21, e_22, e_23, e_24, e_25, e_26, e_27, e_28, e_29, e_30, e_31, e_32, e_33, e_34, e_35, e_36, e_37, e_38, e_39, e_40]
noncomputable abbrev hk : PySem.W.Hook := PyH.hookM 5 fa fn xs ex
noncomputable def ob (s : PySem.W.SharedT) : PyH.AlK := PyH.obsMG 5 fa fn xs ex (HandSHeadRun.getT s)
theorem ob_eq (s : PySem.W.SharedT) : ob s = hk.obs s.abs := PyH.obsMG_eq (HandSHeadRun.getT_eq s)
theorem run (w : World) : HandSHeadRun.RunEq R (PySem.W.view R.prog [65]) hk ob 6000 nms w := by
  intro os
  kernel_rfl
theorem facts {P : Program} {K : PySem.W.Frag} {h : Heap} {mg : Str → Option Value} (X : K.In h) (G : h.Ns mainGlobals mg) (c : PyH.SaysK fa fn xs ex K) (htop : (P.main.scope.names.lookup ("super" : Str)).isSome = false) (hfile : ((P.main.file : Str) == ("/claim/cut.py" : Str)) = true) : TX P K mg where
  F_Run___init__ := c.d.def_ 0 (d := d_Run___init__) rfl
  M_Run___init__ := He.meth_ok (c.d.fact 0 (f := .meth "Run" "__init__") rfl)
  F_Run_steps := c.d.def_ 1 (d := d_Run_steps) rfl
  M_Run_steps := He.meth_ok (c.d.fact 1 (f := .meth "Run" "steps") rfl)
  F_State_lists := c.d.def_ 2 (d := d_State_lists) rfl
  M_State_lists := He.meth_ok (c.d.fact 2 (f := .meth "State" "lists") rfl)
  F__law_box := c.d.def_ 3 (d := d__law_box) rfl
  g__law_box := He.glo_ok X G (c.d.fact 3 (f := .glo "_law_box") rfl)
  F_Run___add__ := c.d.def_ 4 (d := d_Run___add__) rfl
  M_Run___add__ := He.meth_ok (c.d.fact 4 (f := .meth "Run" "__add__") rfl)
  F_Run___neg__ := c.d.def_ 5 (d := d_Run___neg__) rfl
  M_Run___neg__ := He.meth_ok (c.d.fact 5 (f := .meth "Run" "__neg__") rfl)
  F__law_take := c.d.def_ 6 (d := d__law_take) rfl
  g__law_take := He.glo_ok X G (c.d.fact 6 (f := .glo "_law_take") rfl)
  F_check_replica := c.d.def_ 7 (d := d_check_replica) rfl
  g_check_replica := He.glo_ok X G (c.d.fact 7 (f := .glo "check_replica") rfl)
  F_require_key := c.d.def_ 8 (d := d_require_key) rfl
  g_require_key := He.glo_ok X G (c.d.fact 8 (f := .glo "require_key") rfl)
  F_State_says := c.d.def_ 9 (d := d_State_says) rfl
  M_State_says := He.meth_ok (c.d.fact 9 (f := .meth "State" "says") rfl)
  F__other_replicas := c.d.def_ 10 (d := d__other_replicas) rfl
  g__other_replicas := He.glo_ok X G (c.d.fact 10 (f := .glo "_other_replicas") rfl)
  F_State_list_of := c.d.def_ 11 (d := d_State_list_of) rfl
  M_State_list_of := He.meth_ok (c.d.fact 11 (f := .meth "State" "list_of") rfl)
  F_State___len__ := c.d.def_ 12 (d := d_State___len__) rfl
  M_State___len__ := He.meth_ok (c.d.fact 12 (f := .meth "State" "__len__") rfl)
  F_is_swap := c.d.def_ 13 (d := d_is_swap) rfl
  g_is_swap := He.glo_ok X G (c.d.fact 13 (f := .glo "is_swap") rfl)
  F_swap_pair := c.d.def_ 14 (d := d_swap_pair) rfl
  g_swap_pair := He.glo_ok X G (c.d.fact 14 (f := .glo "swap_pair") rfl)
  F_is_silent := c.d.def_ 15 (d := d_is_silent) rfl
  g_is_silent := He.glo_ok X G (c.d.fact 15 (f := .glo "is_silent") rfl)
  F_first_wrong_place := c.d.def_ 16 (d := d_first_wrong_place) rfl
  g_first_wrong_place := He.glo_ok X G (c.d.fact 16 (f := .glo "first_wrong_place") rfl)
  F__wrong_replica := c.d.def_ 17 (d := d__wrong_replica) rfl
  g__wrong_replica := He.glo_ok X G (c.d.fact 17 (f := .glo "_wrong_replica") rfl)
  F_index_of := c.d.def_ 18 (d := d_index_of) rfl
  g_index_of := He.glo_ok X G (c.d.fact 18 (f := .glo "index_of") rfl)
  F_State___init__ := c.d.def_ 19 (d := d_State___init__) rfl
  M_State___init__ := He.meth_ok (c.d.fact 19 (f := .meth "State" "__init__") rfl)
  F_State_all_keys := c.d.def_ 20 (d := d_State_all_keys) rfl
  M_State_all_keys := He.meth_ok (c.d.fact 20 (f := .meth "State" "all_keys") rfl)
  F_State_with_list := c.d.def_ 21 (d := d_State_with_list) rfl
  M_State_with_list := He.meth_ok (c.d.fact 21 (f := .meth "State" "with_list") rfl)
  F_check_list := c.d.def_ 22 (d := d_check_list) rfl
  g_check_list := He.glo_ok X G (c.d.fact 22 (f := .glo "check_list") rfl)
  F_swap_at := c.d.def_ 23 (d := d_swap_at) rfl
  g_swap_at := He.glo_ok X G (c.d.fact 23 (f := .glo "swap_at") rfl)
  F_swapped_state := c.d.def_ 24 (d := d_swapped_state) rfl
  g_swapped_state := He.glo_ok X G (c.d.fact 24 (f := .glo "swapped_state") rfl)
  F__state_after := c.d.def_ 25 (d := d__state_after) rfl
  g__state_after := He.glo_ok X G (c.d.fact 25 (f := .glo "_state_after") rfl)
  F_play := c.d.def_ 26 (d := d_play) rfl
  g_play := He.glo_ok X G (c.d.fact 26 (f := .glo "play") rfl)
  F_State_position := c.d.def_ 27 (d := d_State_position) rfl
  M_State_position := He.meth_ok (c.d.fact 27 (f := .meth "State" "position") rfl)
  F_project_run := c.d.def_ 28 (d := d_project_run) rfl
  g_project_run := He.glo_ok X G (c.d.fact 28 (f := .glo "project_run") rfl)
  F__law_cut_run := c.d.def_ 29 (d := d__law_cut_run) rfl
  g__law_cut_run := He.glo_ok X G (c.d.fact 29 (f := .glo "_law_cut_run") rfl)
  F_Run___len__ := c.d.def_ 30 (d := d_Run___len__) rfl
  M_Run___len__ := He.meth_ok (c.d.fact 30 (f := .meth "Run" "__len__") rfl)
  F_State___sub__ := c.d.def_ 31 (d := d_State___sub__) rfl
  M_State___sub__ := He.meth_ok (c.d.fact 31 (f := .meth "State" "__sub__") rfl)
  F__law_silent := c.d.def_ 32 (d := d__law_silent) rfl
  g__law_silent := He.glo_ok X G (c.d.fact 32 (f := .glo "_law_silent") rfl)
  F__law_swapped := c.d.def_ 33 (d := d__law_swapped) rfl
  g__law_swapped := He.glo_ok X G (c.d.fact 33 (f := .glo "_law_swapped") rfl)
  F__law_pairs := c.d.def_ 34 (d := d__law_pairs) rfl
  g__law_pairs := He.glo_ok X G (c.d.fact 34 (f := .glo "_law_pairs") rfl)
  F__law_whole := c.d.def_ 35 (d := d__law_whole) rfl
  g__law_whole := He.glo_ok X G (c.d.fact 35 (f := .glo "_law_whole") rfl)
  F__law_steps := c.d.def_ 36 (d := d__law_steps) rfl
  g__law_steps := He.glo_ok X G (c.d.fact 36 (f := .glo "_law_steps") rfl)
  F__law_without := c.d.def_ 37 (d := d__law_without) rfl
  g__law_without := He.glo_ok X G (c.d.fact 37 (f := .glo "_law_without") rfl)
  F__law_key_out := c.d.def_ 38 (d := d__law_key_out) rfl
  g__law_key_out := He.glo_ok X G (c.d.fact 38 (f := .glo "_law_key_out") rfl)
  F__law_order := c.d.def_ 39 (d := d__law_order) rfl
  g__law_order := He.glo_ok X G (c.d.fact 39 (f := .glo "_law_order") rfl)
  F__law_keys := c.d.def_ 40 (d := d__law_keys) rfl
  g__law_keys := He.glo_ok X G (c.d.fact 40 (f := .glo "_law_keys") rfl)
  F__law_made := c.d.def_ 41 (d := d__law_made) rfl
  g__law_made := He.glo_ok X G (c.d.fact 41 (f := .glo "_law_made") rfl)
  F__law_answer := c.d.def_ 42 (d := d__law_answer) rfl
  g__law_answer := He.glo_ok X G (c.d.fact 42 (f := .glo "_law_answer") rfl)
  F__law_bad_swap := c.d.def_ 43 (d := d__law_bad_swap) rfl
  g__law_bad_swap := He.glo_ok X G (c.d.fact 43 (f := .glo "_law_bad_swap") rfl)
  F__law_played := c.d.def_ 44 (d := d__law_played) rfl
  g__law_played := He.glo_ok X G (c.d.fact 44 (f := .glo "_law_played") rfl)
  F__law_strange := c.d.def_ 45 (d := d__law_strange) rfl
  g__law_strange := He.glo_ok X G (c.d.fact 45 (f := .glo "_law_strange") rfl)
  F__law_refused := c.d.def_ 46 (d := d__law_refused) rfl
  g__law_refused := He.glo_ok X G (c.d.fact 46 (f := .glo "_law_refused") rfl)
  F__law_put_in := c.d.def_ 47 (d := d__law_put_in) rfl
  g__law_put_in := He.glo_ok X G (c.d.fact 47 (f := .glo "_law_put_in") rfl)
  F__law_ways := c.d.def_ 48 (d := d__law_ways) rfl
  g__law_ways := He.glo_ok X G (c.d.fact 48 (f := .glo "_law_ways") rfl)
  F__law_walk := c.d.def_ 49 (d := d__law_walk) rfl
  g__law_walk := He.glo_ok X G (c.d.fact 49 (f := .glo "_law_walk") rfl)
  F__law_state := c.d.def_ 50 (d := d__law_state) rfl
  g__law_state := He.glo_ok X G (c.d.fact 50 (f := .glo "_law_state") rfl)
  F__law_two_out := c.d.def_ 51 (d := d__law_two_out) rfl
  g__law_two_out := He.glo_ok X G (c.d.fact 51 (f := .glo "_law_two_out") rfl)
  F_law := c.d.def_ 52 (d := d_law) rfl
  g_law := He.glo_ok X G (c.d.fact 52 (f := .glo "law") rfl)
  C_Run := He.cls_ok (c.d.fact 53 (f := .cls "Run") rfl)
  C_State := He.cls_ok (c.d.fact 54 (f := .cls "State") rfl)
  mk_Run := He.mkr_ok (c.d.fact 55 (f := .mkr "Run") rfl)
  mk_State := He.mkr_ok (c.d.fact 56 (f := .mkr "State") rfl)
  na_Run__swaps := He.noat_ok (c.d.fact 57 (f := .noat "Run" "_swaps") rfl)
  na_State__lists := He.noat_ok (c.d.fact 58 (f := .noat "State" "_lists") rfl)
  na_State__places := He.noat_ok (c.d.fact 59 (f := .noat "State" "_places") rfl)
  isc_Run := PyH.insCB_ok (c.exs 0 rfl) (He.cls_ok (c.d.fact 53 (f := .cls "Run") rfl))
  isc_State := PyH.insCB_ok (c.exs 1 rfl) (He.cls_ok (c.d.fact 54 (f := .cls "State") rfl))
  sf_Run := c.exs 2 rfl
  bn_State_Sub := PyH.binNB_ok (c.exs 3 rfl)
  cv_State_REPLICAS := PyH.cvalB_ok (c.exs 4 rfl)
  g_AudibleSwap := He.glo_ok X G (c.d.fact 60 (f := .glo "AudibleSwap") rfl)
  g_DriftError := He.glo_ok X G (c.d.fact 61 (f := .glo "DriftError") rfl)
  g_InvalidList := He.glo_ok X G (c.d.fact 62 (f := .glo "InvalidList") rfl)
  g_InvalidState := He.glo_ok X G (c.d.fact 63 (f := .glo "InvalidState") rfl)
  g_InvalidSwap := He.glo_ok X G (c.d.fact 64 (f := .glo "InvalidSwap") rfl)
  g_Run := He.glo_ok X G (c.d.fact 65 (f := .glo "Run") rfl)
  g_State := He.glo_ok X G (c.d.fact 66 (f := .glo "State") rfl)
  g_UnknownKey := He.glo_ok X G (c.d.fact 67 (f := .glo "UnknownKey") rfl)
  g_UnknownReplica := He.glo_ok X G (c.d.fact 68 (f := .glo "UnknownReplica") rfl)
  n_abs := He.free_ok X G (c.d.fact 69 (f := .free "abs") rfl)
  n_bool := He.free_ok X G (c.d.fact 70 (f := .free "bool") rfl)
  n_enumerate := He.free_ok X G (c.d.fact 71 (f := .free "enumerate") rfl)
  n_int := He.free_ok X G (c.d.fact 72 (f := .free "int") rfl)
  n_isinstance := He.free_ok X G (c.d.fact 73 (f := .free "isinstance") rfl)
  n_len := He.free_ok X G (c.d.fact 74 (f := .free "len") rfl)
  n_list := He.free_ok X G (c.d.fact 75 (f := .free "list") rfl)
  n_range := He.free_ok X G (c.d.fact 76 (f := .free "range") rfl)
  n_sorted := He.free_ok X G (c.d.fact 77 (f := .free "sorted") rfl)
  n_super := He.free_ok X G (c.d.fact 78 (f := .free "super") rfl)
  n_tuple := He.free_ok X G (c.d.fact 79 (f := .free "tuple") rfl)
  i_MAX_KEY := He.int_ok X G (c.d.fact 80 (f := .int "MAX_KEY" 9999) rfl)
  i_MAX_KEYS := He.int_ok X G (c.d.fact 81 (f := .int "MAX_KEYS" 12) rfl)
  tx_AudibleSwap := PyH.ex_txt (d := x_AudibleSwap) (c.init 0 rfl) (c.exs 5 rfl) rfl rfl rfl (fun _ => ⟨rfl, _, rfl⟩) ⟨rfl, rfl, rfl, rfl⟩ (by intros; rfl) htop hfile
  tx_InvalidList := PyH.ex_txt (d := x_InvalidList) (c.init 1 rfl) (c.exs 6 rfl) rfl rfl rfl (fun _ => ⟨rfl, _, rfl⟩) ⟨rfl, rfl, rfl, rfl⟩ (by intros; rfl) htop hfile
  tx_InvalidState := PyH.ex_txt (d := x_InvalidState) (c.init 2 rfl) (c.exs 7 rfl) rfl rfl rfl (fun _ => ⟨rfl, _, rfl⟩) ⟨rfl, rfl, rfl, rfl⟩ (by intros; rfl) htop hfile
  tx_InvalidSwap := PyH.ex_txt (d := x_InvalidSwap) (c.init 3 rfl) (c.exs 8 rfl) rfl rfl rfl (fun _ => ⟨rfl, _, rfl⟩) ⟨rfl, rfl, rfl, rfl⟩ (by intros; rfl) htop hfile
  tx_UnknownKey := PyH.ex_txt (d := x_UnknownKey) (c.init 4 rfl) (c.exs 9 rfl) rfl rfl rfl (fun _ => ⟨rfl, _, rfl⟩) ⟨rfl, rfl, rfl, rfl⟩ (by intros; rfl) htop hfile
  tx_UnknownReplica := PyH.ex_txt (d := x_UnknownReplica) (c.init 5 rfl) (c.exs 10 rfl) rfl rfl rfl (fun _ => ⟨rfl, _, rfl⟩) ⟨rfl, rfl, rfl, rfl⟩ (by intros; rfl) htop hfile
  x_AudibleSwap := PyH.ex2B_ok (c.exs 11 rfl)
  x_InvalidList := PyH.ex2B_ok (c.exs 12 rfl)
  x_InvalidState := PyH.ex2B_ok (c.exs 13 rfl)
  x_InvalidSwap := PyH.ex2B_ok (c.exs 14 rfl)
  x_UnknownKey := PyH.ex2B_ok (c.exs 15 rfl)
  x_UnknownReplica := PyH.ex2B_ok (c.exs 16 rfl)
  exm_AudibleSwap_AudibleSwap := of_decide_eq_true (c.exs 17 rfl)
  exm_AudibleSwap_InvalidSwap := of_decide_eq_true (c.exs 18 rfl)
  exm_AudibleSwap_UnknownKey := of_decide_eq_true (c.exs 19 rfl)
  exm_InvalidList_AudibleSwap := of_decide_eq_true (c.exs 20 rfl)
  exm_InvalidList_InvalidSwap := of_decide_eq_true (c.exs 21 rfl)
  exm_InvalidList_UnknownKey := of_decide_eq_true (c.exs 22 rfl)
  exm_InvalidState_AudibleSwap := of_decide_eq_true (c.exs 23 rfl)
  exm_InvalidState_InvalidSwap := of_decide_eq_true (c.exs 24 rfl)
  exm_InvalidState_UnknownKey := of_decide_eq_true (c.exs 25 rfl)
  exm_InvalidSwap_AudibleSwap := of_decide_eq_true (c.exs 26 rfl)
  exm_InvalidSwap_InvalidSwap := of_decide_eq_true (c.exs 27 rfl)
  exm_InvalidSwap_UnknownKey := of_decide_eq_true (c.exs 28 rfl)
  exm_UnknownKey_AudibleSwap := of_decide_eq_true (c.exs 29 rfl)
  exm_UnknownKey_InvalidSwap := of_decide_eq_true (c.exs 30 rfl)
  exm_UnknownKey_UnknownKey := of_decide_eq_true (c.exs 31 rfl)
  exm_UnknownReplica_AudibleSwap := of_decide_eq_true (c.exs 32 rfl)
  exm_UnknownReplica_InvalidSwap := of_decide_eq_true (c.exs 33 rfl)
  exm_UnknownReplica_UnknownKey := of_decide_eq_true (c.exs 34 rfl)
  kit_AudibleSwap_DriftError := of_decide_eq_true (c.exs 35 rfl)
  kit_InvalidList_DriftError := of_decide_eq_true (c.exs 36 rfl)
  kit_InvalidState_DriftError := of_decide_eq_true (c.exs 37 rfl)
  kit_InvalidSwap_DriftError := of_decide_eq_true (c.exs 38 rfl)
  kit_UnknownKey_DriftError := of_decide_eq_true (c.exs 39 rfl)
  kit_UnknownReplica_DriftError := of_decide_eq_true (c.exs 40 rfl)
end K53
namespace Q
open PySem PySem.Spec L2 PyD PyT PyE PyH PyI PyC
local macro_rules | `(tactic| walk_at "w1") => `(tactic| first
  | ((with_reducible show wpS _ _ _ (tSeq (tAsg _ _) _) _ _ _); refine wpS_seq ?_)
  | ((with_reducible show wpS _ _ _ (tSeq (tDrop _) _) _ _ _); refine wpS_seq ?_)
  | ((with_reducible show wpS _ _ _ (tSeq (sDPut _ _ _) _) _ _ _); refine wpS_seq ?_)
  | ((with_reducible show wpS _ _ _ (tSeq (tSeq _ _) _) _ _ _); refine wpS_seq ?_)
  | ((with_reducible show wpS _ _ _ (tSeq (tNext) _) _ _ _); refine wpS_seq ?_)
  | ((with_reducible show wpS _ _ _ (tSeq (tIfS _ (tRet _) tNext) _) _ _ _); refine wpS_seq ?_)
  | ((with_reducible show wpS _ _ _ (tSeq (tIfS _ tBreak tNext) _) _ _ _); refine wpS_seq ?_)
  | ((with_reducible show wpS _ _ _ (tSeq (tIfS _ tCont tNext) _) _ _ _); refine wpS_seq ?_)
  | ((with_reducible show wpS _ _ _ (tSeq (tIfS _ (tRaiseX _ _ _ _ _) tNext) _) _ _ _); refine wpS_seq ?_)
  | ((with_reducible show wpS _ _ _ (tSeq (tIfS _ (tSeq _ (tRet _)) tNext) _) _ _ _); refine wpS_seq ?_)
  | (with_reducible refine wpS_set ?_)
  | (with_reducible refine wpS_sub ?_)
  | ((with_reducible show wpS _ _ _ (tAsg _ (gTup _ _ _)) _ _ _); refine wpS_asg ?_)
  | ((with_reducible show wpS _ _ _ (tAsg _ (gLst _ _ _)) _ _ _); refine wpS_asg ?_)
  | ((with_reducible show wpS _ _ _ (tAsg _ (gSeq _ _ _)) _ _ _); refine wpS_asg ?_)
  | (with_reducible refine wpS_drop ?_)
  | (with_reducible refine wpS_next ?_)
  | (with_reducible refine wpS_retN ?_)
  | (with_reducible refine wpS_brk ?_)
  | (with_reducible refine wpS_cont ?_)
  | (with_reducible refine wpS_raise ?_)
  | (with_reducible refine wpS_dput ?_)
  | ((with_reducible show wpE _ _ _ (tVar _) _ _ _); refine wpE_var rfl ?_)
  | (with_reducible refine wpE_int ?_)
  | (with_reducible refine wpE_bl ?_)
  | (with_reducible refine wpE_str ?_)
  | (with_reducible refine wpE_non ?_)
  | (with_reducible refine wpE_ref ?_)
  | (with_reducible refine wpE_ty ?_)
  | (with_reducible refine wpE_op ?_)
  | (with_reducible refine wpE_un ?_)
  | (with_reducible refine wpE_cb ?_)
  | (with_reducible refine wpE_andV ?_)
  | (with_reducible refine wpE_orV ?_)
  | (with_reducible refine wpE_notV ?_)
  | (with_reducible refine wpE_tup ?_)
  | (with_reducible refine wpE_dnew ?_)
  | (with_reducible refine wpE_dget ?_)
  | (with_reducible refine wpE_din ?_)
  | (with_reducible refine wpE_dnotin ?_)
  | (with_reducible refine wpE_bm rfl ?_)
  | ((with_reducible show (∃ xs, seqOf _ _ xs) ∧ _); first | refine ⟨⟨_, seq_l⟩, ?_⟩ | refine ⟨⟨_, seq_m (i := 0) rfl⟩, ?_⟩ | refine ⟨⟨_, seq_m (i := 1) rfl⟩, ?_⟩ | refine ⟨⟨_, seq_m (i := 2) rfl⟩, ?_⟩ | refine ⟨⟨_, seq_k⟩, ?_⟩)
  | (with_reducible refine wpE_bm0 rfl ?_)
  | (with_reducible refine wpE_call0E (fun _ => .nil) ?_)
  | (with_reducible refine wpA_nil ?_)
  | (with_reducible refine wpA_cons ?_)
  | (with_reducible refine wpO_none ?_)
  | (with_reducible refine wpO_some ?_)
  | (with_reducible refine wpT_test ?_)
  | (with_reducible refine wpT_B ?_)
  | (with_reducible refine wpT_not ?_)
  | (with_reducible refine wpT_tru ?_)
  | (with_reducible refine wpR_addI ?_)
  | (with_reducible refine wpR_sub ?_)
  | (with_reducible refine wpR_lt ?_)
  | (with_reducible refine wpR_le ?_)
  | (with_reducible refine wpR_gt ?_)
  | (with_reducible refine wpR_ge ?_)
  | (with_reducible refine wpR_eqI ?_)
  | (with_reducible refine wpR_neI ?_)
  | (with_reducible refine wpR_eqS ?_)
  | (with_reducible refine wpR_neS ?_)
  | (with_reducible refine wpR_eqB ?_)
  | (with_reducible refine wpR_isN ?_)
  | (with_reducible refine wpR_notN ?_)
  | (with_reducible refine wpU_neg ?_)
  | (with_reducible refine wpC_int ?_)
  | (with_reducible refine wpC_abs ?_)
  | (with_reducible refine wpC_max2 ?_)
  | (with_reducible refine wpC_min2 ?_)
  | (with_reducible refine wpI_list ?_)
  | (with_reducible refine wpI_tup ?_)
  | (with_reducible refine wpI_rng1 ?_)
  | (with_reducible refine wpI_rng2 ?_)
  | (with_reducible refine wpI_enum ?_)
  | ((with_reducible show wpE _ _ _ (tFld _ _ _) _ _ _); refine wpE_fld (by assumption) (by assumption) ?_)
  | ((with_reducible show ∃ fs v, insOf _ (.ins _ _) _ fs ∧ _); refine ⟨_, _, ins_l, rfl, ?_⟩)
  | (with_reducible refine wpI_seq ?_)
  | (with_reducible refine wpE_chain ?_)
  | ((with_reducible show wpR _ rDivA _ _ _ _); refine wpR_div (by omega) (by omega) ?_)
  | ((with_reducible show wpR _ rModA _ _ _ _); refine wpR_mod (by omega) ?_)
  | ((with_reducible show wpR _ rMulA _ _ _ _); first | refine wpR_mul (.inl ⟨by omega, by omega⟩) ?_ | refine wpR_mul (.inr ⟨by omega, by omega⟩) ?_)
  | ((with_reducible show wpR _ rPowA _ _ _ _); refine wpR_pow ⟨by decide, by decide, by decide⟩ ?_)
  | ((with_reducible show wpPut _ rSetL _ (.int _) _ _ _); first
      | refine wpPut_I (j := 0) rfl (by omega) (by omega) ?_
      | refine wpPut_I (j := 1) rfl (by omega) (by omega) ?_
      | refine wpPut_I (j := 0) rfl (by omega) (by simp only [List.length_set]; omega) ?_
      | refine wpPut_I (j := 1) rfl (by omega) (by simp only [List.length_set]; omega) ?_
      | refine wpPut_lst (j := 0) rfl (by omega) (by simp <;> omega) ?_
      | refine wpPut_lst (j := 1) rfl (by omega) (by simp <;> omega) ?_)
  | ((with_reducible show ∃ b, TrD _ (.bl _) b ∧ _); refine ⟨_, .bl _, ?_⟩)
  | ((with_reducible show ∃ b, TrD _ .non b ∧ _); refine ⟨_, .non, ?_⟩)
  | ((with_reducible show ∃ b, TrD _ (.int _) b ∧ _); refine ⟨_, .int _, ?_⟩)
  | ((with_reducible show ∃ b, TrD _ (.lst _) b ∧ _); refine ⟨_, .seq seq_l, ?_⟩)
  | ((with_reducible show ∃ b, TrD _ (.tup _) b ∧ _); refine ⟨_, .tup _, ?_⟩)
  | ((with_reducible show wpS _ _ _ (tIfS (tTest _) _ _) _ _ _); refine wpS_if ?_)
  | ((with_reducible show wpS _ _ _ (tIfS (tB _) _ _) _ _ _); refine wpS_if ?_)
  | ((with_reducible show wpS _ _ _ (tIfS (tTru _ _) _ _) _ _ _); refine wpS_if ?_)
  | ((with_reducible show wpS _ _ _ (tIfS (tNot _) _ _) _ _ _); refine wpS_if ?_)
  | ((with_reducible show wpR _ (rIxLT _) _ _ _ _); first
      | refine wpR_ixI seq_l (by omega) (by omega) ?_
      | refine wpR_ixI (seq_m (i := 0) rfl) (by omega) (by omega) ?_
      | refine wpR_ixI (seq_m (i := 1) rfl) (by omega) (by omega) ?_
      | refine wpR_ixI (seq_m (i := 2) rfl) (by omega) (by omega) ?_
      | refine wpR_ixA (.inl seq_l) rfl ?_
      | refine wpR_ixA (.inr rfl) rfl ?_
      | refine wpR_ixA (.inl (seq_m (i := 0) rfl)) rfl ?_
      | refine wpR_ixA (.inl (seq_m (i := 1) rfl)) rfl ?_
      | refine wpR_ixA (.inl (seq_m (i := 2) rfl)) rfl ?_)
  | ((with_reducible show wpC _ (rLenA _) _ _ _); first
      | refine wpC_lenI seq_l ?_
      | refine wpC_lenI seq_k ?_
      | refine wpC_lenI (seq_m (i := 0) rfl) ?_
      | refine wpC_lenI (seq_m (i := 1) rfl) ?_
      | refine wpC_lenL seq_l ?_
      | refine wpC_lenL seq_k ?_
      | refine wpC_lenT ?_
      | refine wpC_lenL (seq_m (i := 0) rfl) ?_
      | refine wpC_lenL (seq_m (i := 1) rfl) ?_
      | refine wpC_lenL (seq_m (i := 2) rfl) ?_)
  | (with_reducible refine wpG_name ?_)
  | (with_reducible refine wpG_tup rfl ?_)
  | ((with_reducible show wpG _ (gSeq _ _ _) (.tup _) _ _ _); refine wpG_seqT rfl ?_)
  | ((with_reducible show wpG _ (gSeq _ _ _) (.lst _) _ _ _); refine wpG_seqL seq_l rfl ?_)
  | ((with_reducible show wpG _ (gLst _ _ _) (.lst _) _ _ _); refine wpG_lst seq_l rfl ?_)
  | (with_reducible refine wpGs_cons ?_)
  | (with_reducible refine wpGs_nil ?_)
  | (with_reducible refine ⟨_, rfl, ?_⟩)
  | (intro wf; cases wf; done)
  | (dsimp only [List.set_cons_zero, List.set_cons_succ, List.append_nil, List.nil_append, List.cons_append, wipeG, Int.reduceToNat, List.length_map, lcEnd, dcEnd]))
local macro_rules | `(tactic| walk_at "w") => `(tactic| repeat (walk_at "w1"))
local macro_rules | `(tactic| walk_at "start") => `(tactic| (dsimp only [startD, List.length_cons, List.length_nil, List.map_cons, List.map_nil, Nat.reduceAdd, Nat.reduceSub, List.replicate, List.cons_append, List.nil_append, List.map]))
local macro_rules | `(tactic| walk_at "wr") => `(tactic| ((repeat (walk_at "w1")); (with_reducible refine wpS_ret ?_); (repeat (walk_at "w1"))))
local macro_rules | `(tactic| walk_at "c0") => `(tactic| ((with_reducible refine wpE_call0 (fun _ => .nil) ?_); (repeat (walk_at "w1"))))
local macro_rules | `(tactic| walk_at "c1") => `(tactic| ((with_reducible refine wpE_call1 (fun _ => .nil) ?_); (repeat (walk_at "w1"))))
local macro_rules | `(tactic| walk_at "m0") => `(tactic| ((first | (with_reducible refine wpE_meth0 (fun _ => .nil) ?_) | (with_reducible refine wpE_meth0E (fun _ => .nil) ?_)); (repeat (walk_at "w1")); (refine ⟨rfl, ?_⟩); (repeat (walk_at "w1"))))
local macro_rules | `(tactic| walk_at "k0") => `(tactic| ((with_reducible refine wpE_make (fun _ => .nil) ?_); (repeat (walk_at "w1")); (refine ⟨[], lent_nil, fun s _ => ?_⟩)))
local macro_rules | `(tactic| walk_at "wf") => `(tactic| ((repeat (walk_at "w1")); (with_reducible refine wpS_ret ?_); (refine wpE_fgt ?_); (repeat (walk_at "w1"))))
def bad (ns : List Int) (i : Nat) : Bool := decide (12 ≤ i) || (decide (ns.getD i 0 < 0) || (decide (9999 < ns.getD i 0) || decide (ns.getD i 0 ∈ ns.take i)))
def wrong (ns : List Int) : Option Nat := (List.range ns.length).find? (bad ns)
def only (a b : List Int) : List Int := a.filter fun z => !decide (z ∈ b)
def exch (a : List Int) (i : Nat) : List Int := (a.set i (a.getD (i + 1) 0)).set (i + 1) (a.getD i 0)
def srt (a : List Int) : List Int := a.mergeSort fun x y => decide (x ≤ y)
inductive Rs where
  | ok | bad (p : Nat) | unl (m : Int) | swp
def res1 (a : List Int) : Rs := match wrong a with
  | some p => .bad p
  | none => .ok
def resS (a : List Int) (i : Int) : Rs := match wrong a with
  | some p => .bad p
  | none => if i < 0 ∨ (a.length : Int) - 2 < i then .swp else .ok
/-- few small keys -/
def Sm (a : List Int) : Prop := a.length ≤ 16 ∧ ∀ z ∈ a, -1000000 ≤ z ∧ z ≤ 1000000
def oN : Option Nat → D
  | none => .non
  | some p => .int (p : Int)
def exOf (K : PySem.W.Frag) : Rs → Xc
  | .bad p => ⟨He.ga K "InvalidList", [("place", .int (p : Int))]⟩
  | .unl m => ⟨He.ga K "UnlikeKeys", [("key", .int m)]⟩
  | _ => ⟨He.ga K "InvalidSwap", [("step", .int 0)]⟩
def rsp (K : PySem.W.Frag) (r : Rs) (k : Prop) (x : Xk) : Prop := (r = .ok → k) ∧ (r ≠ .ok → x (exOf K r) [])
def idxD (a : List Int) : List (Key × D) := a.zipIdx.map fun p => (.inl p.1, .int (p.2 : Int))
abbrev prs (ps : List (Int × Int)) : D := .lst (ps.map PyD.prD)
def boxD (cs : List Int) (r t : Int) : D := .lst [L cs, .int r, .int t]
def Bx (d : D) : Prop := ∃ cs r t, d = boxD cs r t ∧ 0 ≤ r ∧ 0 ≤ t ∧ cs.length ≤ 63
def sp_first_wrong_place (K : PySem.W.Frag) : DSp := fun ds O k x => ∃ a, (ds = [L a] ∧ O = []) ∧ Sm a ∧ k (oN (wrong a)) []
def sp_check_list (K : PySem.W.Frag) : DSp := fun ds O k x => ∃ a, (ds = [L a] ∧ O = []) ∧ Sm a ∧ rsp K (res1 a) (k .non []) x
def sp_index_of (K : PySem.W.Frag) : DSp := fun ds O k x => ∃ a, (ds = [L a] ∧ O = []) ∧ Sm a ∧ a.Nodup ∧ k (.dK (idxD a)) []
def sp_swap_at (K : PySem.W.Frag) : DSp := fun ds O k x => ∃ a i, (ds = [L a, .int i] ∧ O = []) ∧ Sm a ∧ rsp K (resS a i) (∀ c, k (.mut c) [⟨c, true, L (exch a i.toNat)⟩]) x
def sp__law_box (K : PySem.W.Frag) : DSp := fun ds O k x => ∃ ns : List Int, (ds = [.kl (ns.map D.int)] ∧ O = []) ∧ ns.length ≤ 63 ∧ ∀ c d, Bx d → k (.mut c) [⟨c, true, d⟩]
def sp__law_take (K : PySem.W.Frag) : DSp := fun ds O k x => ∃ a d n, (ds = [.mut a, .int n] ∧ O = [⟨a, false, d⟩]) ∧ Bx d ∧ 1 ≤ n ∧ n < 1099511627776 ∧ ∀ v d', 0 ≤ v → v < n → Bx d' → k (.int v) [⟨a, false, d'⟩]
def sp__law_keys (K : PySem.W.Frag) : DSp := fun ds O k x => ∃ a d n, (ds = [.mut a, .int n] ∧ O = [⟨a, false, d⟩]) ∧ Bx d ∧ 0 ≤ n ∧ n ≤ 12 ∧ ∀ (ks : List Int) d', Bx d' → (ks.length : Int) = n → ks.Nodup → (∀ z ∈ ks, 0 ≤ z ∧ z ≤ 6999) → k (L ks) [⟨a, false, d'⟩]
def sp__law_order (K : PySem.W.Frag) : DSp := fun ds O k x => ∃ a d ns, (ds = [.mut a, L ns] ∧ O = [⟨a, false, d⟩]) ∧ Bx d ∧ ns.length ≤ 63 ∧ ∀ (ks : List Int) d', Bx d' → ks.Perm ns → k (L ks) [⟨a, false, d'⟩]
abbrev N_first_wrong_place : List Str := ["order", "seen", "place", "key"]
def t_first_wrong_place (K : PySem.W.Frag) (W : WX) : TS :=
  tSeq (tAsg (tDNewK) (gName 1))
    (tSeq (tFor (iEnum K (tCons (tVar 0) (tNil))) (gTup K 2 (gCons (gName 2) (gCons (gName 3) (gNil)))) (tSeq (tIfS (tOr (tTest (tOp rGeA (tVar 2) (tC (.int 12)))) (tOr (tTest (tOp rLtA (tVar 3) (tC (.int 0)))) (tOr (tTest (tOp rGtA (tVar 3) (tC (.int 9999)))) (tB (tDIn (tVar 3) (tVar 1)))))) (tRet (tVar 2)) (tNext))
    (sDPut (tVar 1) (tVar 3) (tC (.bl true)))))
    (tRet (tC .non)))
abbrev N_check_list : List Str := ["order", "place"]
def t_check_list (K : PySem.W.Frag) (W : WX) : TS :=
  tSeq (tAsg (tCallSD (toSp K (sp_first_wrong_place K)) [] (WE W) (tCons (tVar 0) (tNil))) (gName 1))
    (tIfS (tTest (tOp rNotN (tVar 1) (tC .non))) (tRaiseX (He.ga K "InvalidList") "place" fmtI W (tCons (tVar 1) (tNil))) (tNext))
abbrev N_index_of : List Str := ["order", "place", "key"]
def t_index_of (K : PySem.W.Frag) (W : WX) : TS :=
  tRet (tDc (iEnum K (tCons (tVar 0) (tNil))) (gTup K 2 (gCons (gName 1) (gCons (gName 2) (gNil)))) (tYes) (tVar 2) (tVar 1) [1, 2])
abbrev N_swap_at : List Str := ["order", "index", "swapped"]
def t_swap_at (K : PySem.W.Frag) (W : WX) : TS :=
  tSeq (tDrop (tCallSD (toSp K (sp_check_list K)) [] (WE W) (tCons (tVar 0) (tNil))))
    (tSeq (tIfS (tOr (tTest (tOp rLtA (tVar 1) (tC (.int 0)))) (tTest (tOp rGtA (tVar 1) (tOp rSubA (tCB (rLenA K) (tCons (tVar 0) (tNil))) (tC (.int 2)))))) (tRaiseX (He.ga K "InvalidSwap") "step" fmtI W (tCons (tC (.int 0)) (tNil))) (tNext))
    (tSeq (tAsg (tCB (rListA K) (tCons (tVar 0) (tNil))) (gName 2))
    (tSeq (tAsg (tOp (rIxLT K) (tVar 0) (tOp rAddA (tVar 1) (tC (.int 1)))) (gSub (tVar 2) (tVar 1) rSetL))
    (tSeq (tAsg (tOp (rIxLT K) (tVar 0) (tVar 1)) (gSub (tVar 2) (tOp rAddA (tVar 1) (tC (.int 1))) rSetL))
    (tRet (tVar 2))))))
abbrev N__law_take : List Str := ["_law_box_here", "_law_size", "_law_rest", "_law_turn", "_law_cells", "_law_cell", "_law_mixed"]
def t__law_take (K : PySem.W.Frag) (W : WX) : TS :=
  tSeq (tAsg (tOp (rIxLT K) (tVar 0) (tC (.int 1))) (gName 2))
    (tSeq (tIfS (tTest (tOp rGtA (tVar 2) (tC (.int 0)))) (tSeq (tAsg (tOp rDivA (tVar 2) (tVar 1)) (gSub (tVar 0) (tC (.int 1)) rSetL))
    (tRet (tOp rModA (tCB (rIntA) (tCons (tVar 2) (tNil))) (tVar 1)))) (tNext))
    (tSeq (tAsg (tOp rAddA (tOp (rIxLT K) (tVar 0) (tC (.int 2))) (tC (.int 1))) (gSub (tVar 0) (tC (.int 2)) rSetL))
    (tSeq (tAsg (tOp (rIxLT K) (tVar 0) (tC (.int 2))) (gName 3))
    (tSeq (tAsg (tOp (rIxLT K) (tVar 0) (tC (.int 0))) (gName 4))
    (tSeq (tAsg (tC (.int 0)) (gName 5))
    (tSeq (tIfS (tTest (tOp rLeA (tVar 3) (tCB (rLenA K) (tCons (tVar 4) (tNil))))) (tSeq (tAsg (tCB (rAbs) (tCons (tOp (rIxLT K) (tVar 4) (tOp rSubA (tVar 3) (tC (.int 1)))) (tNil))) (gName 5))
    (tIfS (tTest (tOp rGeA (tVar 5) (tOp rPowA (tC (.int 10)) (tC (.int 18))))) (tSeq (tAsg (tOp rDivA (tVar 5) (tVar 1)) (gSub (tVar 0) (tC (.int 1)) rSetL))
    (tRet (tOp rModA (tCB (rIntA) (tCons (tVar 5) (tNil))) (tVar 1)))) (tNext))) (tIfS (tTru K (tVar 4)) (tAsg (tCB (rAbs) (tCons (tOp (rIxLT K) (tVar 4) (tOp rModA (tVar 3) (tCB (rLenA K) (tCons (tVar 4) (tNil))))) (tNil))) (gName 5)) (tNext)))
    (tSeq (tAsg (tOp rModA (tCB (rIntA) (tCons (tOp rAddA (tOp rMulA (tOp rAddA (tVar 5) (tOp rMulA (tVar 3) (tC (.int 7919)))) (tC (.int 48271))) (tC (.int 11))) (tNil))) (tC (.int 2147483647))) (gName 6))
    (tSeq (tAsg (tOp rModA (tCB (rIntA) (tCons (tOp rAddA (tOp rMulA (tVar 6) (tOp rAddA (tOp rDivA (tVar 6) (tC (.int 4096))) (tC (.int 69621)))) (tVar 3)) (tNil))) (tC (.int 2147483629))) (gName 6))
    (tRet (tOp rModA (tCB (rIntA) (tCons (tOp rDivA (tVar 6) (tC (.int 7))) (tNil))) (tVar 1)))))))))))
abbrev N__law_box : List Str := ["_law_script"]
def t__law_box (K : PySem.W.Frag) (W : WX) : TS :=
  tRet (tLst (tCons (tCB (rListA K) (tCons (L2.tSl (rSlL K) (tVar 0) (tNoPart) (tPart (tC (.int 63)))) (tNil))) (tCons (tC (.int 0)) (tCons (tC (.int 0)) (tNil)))))
abbrev N__law_order : List Str := ["_law_box_here", "_law_keys_here", "_law_left", "_law_order_here", "_law_k"]
def t__law_order (K : PySem.W.Frag) (W : WX) : TS :=
  tSeq (tAsg (tCB (rListA K) (tCons (tVar 1) (tNil))) (gName 2))
    (tSeq (tAsg (tLst (tNil)) (gName 3))
    (tSeq (tFor (iRng1 (tCons (tCB (rLenA K) (tCons (tVar 1) (tNil))) (tNil))) (gName 4) (tDrop (tBM K "list" rAppend (tVar 3) (tCons (tBM K "list" rPopAt (tVar 2) (tCons (tCallSD (toSp K (sp__law_take K)) [] (WE W) (tCons (tVar 0) (tCons (tCB (rLenA K) (tCons (tVar 2) (tNil))) (tNil)))) (tNil))) (tNil)))))
    (tRet (tVar 3))))
abbrev N__law_keys : List Str := ["_law_box_here", "_law_count", "_law_keys_here", "_law_last", "_law_k"]
def t__law_keys (K : PySem.W.Frag) (W : WX) : TS :=
  tSeq (tAsg (tLst (tNil)) (gName 2))
    (tSeq (tAsg (tCallSD (toSp K (sp__law_take K)) [] (WE W) (tCons (tVar 0) (tCons (tC (.int 600)) (tNil)))) (gName 3))
    (tSeq (tFor (iRng1 (tCons (tVar 1) (tNil))) (gName 4) (tSeq (tDrop (tBM K "list" rAppend (tVar 2) (tCons (tVar 3) (tNil))))
    (tAsg (tOp rAddA (tOp rAddA (tVar 3) (tC (.int 1))) (tOp rMulA (tCallSD (toSp K (sp__law_take K)) [] (WE W) (tCons (tVar 0) (tCons (tC (.int 3)) (tNil)))) (tCallSD (toSp K (sp__law_take K)) [] (WE W) (tCons (tVar 0) (tCons (tC (.int 240)) (tNil)))))) (gName 3))))
    (tRet (tCallSD (toSp K (sp__law_order K)) [] (WE W) (tCons (tVar 0) (tCons (tVar 2) (tNil)))))))
abbrev N_law : List Str := ["_law_script", "_law_box_here", "_law_count", "_law_first", "_law_second_here", "_law_near", "_law_far", "_law_index", "_law_way", "_law_place"]
theorem wrong_some {a : List Int} {p : Nat} (hp : p < a.length) (hb : bad a p = true) (h : ∀ j, j < p → bad a j = false) : wrong a = some p := by
  unfold wrong
  rw [List.find?_range_eq_some]
  exact ⟨hb, List.mem_range.mpr hp, fun j hj => by rw [h j hj]; rfl⟩
theorem wrong_none {a : List Int} (h : ∀ j, j < a.length → bad a j = false) : wrong a = none := by
  unfold wrong
  rw [List.find?_eq_none]
  intro j hj
  rw [h j (List.mem_range.mp hj)]
  decide
theorem wrong_not {a : List Int} (h : wrong a = none) : ∀ j, j < a.length → bad a j = false := fun j hj => by
  unfold wrong at h
  rw [List.find?_eq_none] at h
  have := h j (List.mem_range.mpr hj)
  simpa using this
theorem wrong_lt {a : List Int} {p : Nat} (h : wrong a = some p) : p < a.length := by
  unfold wrong at h
  exact List.mem_range.mp (List.mem_of_find?_eq_some h)
/-- keys seen, as the dict holds them -/
def seenD (l : List Int) : List (Key × D) := l.map fun z => ((Sum.inl z : Key), D.bl true)
theorem seen_val (l : List Int) (z : Int) : (valD (seenD l) (Sum.inl z)).isSome = decide (z ∈ l) := by
  unfold valD seenD
  induction l with
  | nil => rfl
  | cons y l ih =>
    rw [List.map_cons, List.find?_cons]
    by_cases h : y = z
    · subst h
      simp
    · have h1 : decide ((Sum.inl y : Key) = Sum.inl z) = false := decide_eq_false fun e => h (Sum.inl.inj e)
      rw [h1]
      dsimp only
      rw [ih]
      have : (z ∈ y :: l) ↔ z ∈ l := by
        rw [List.mem_cons]
        exact ⟨fun q => q.resolve_left fun e => h e.symm, .inr⟩
      simp only [this]
theorem seen_put {l : List Int} {z : Int} (h : z ∉ l) : putD (seenD l) (Sum.inl z) (.bl true) = seenD (l ++ [z]) := by
  unfold putD
  have : (seenD l).any (fun kv => decide (kv.1 = Sum.inl z)) = false := by
    rw [List.any_eq_false]
    intro kv hkv
    obtain ⟨y, hy, rfl⟩ := List.mem_map.mp hkv
    simp only [decide_eq_true_eq]
    intro e
    exact h (by rw [← Sum.inl.inj e]; exact hy)
  rw [this]
  unfold seenD
  rw [List.map_append] <;> rfl
theorem take_snoc {a : List Int} {i : Nat} {z : Int} (h : a[i]? = some z) : a.take (i + 1) = a.take i ++ [z] := by
  rw [List.take_succ, h] <;> rfl
theorem bad_parts {a : List Int} {i : Nat} {z : Int} (h : a[i]? = some z) : bad a i = (decide (12 ≤ i) || (decide (z < 0) || (decide (9999 < z) || decide (z ∈ a.take i)))) := by
  unfold bad
  rw [get_D h]
theorem wrong_nodup {a : List Int} (h : wrong a = none) : a.Nodup := by
  rw [List.nodup_iff_pairwise_ne] 
  rw [List.pairwise_iff_getElem]
  intro i j hi hj hij e
  have hb := wrong_not h j hj
  unfold bad at hb
  have hm : a.getD j 0 ∈ a.take j := by
    rw [List.getD_eq_getElem?_getD, List.getElem?_eq_getElem hj]
    show a[j] ∈ a.take j
    rw [← e]
    rw [List.mem_take_iff_getElem]
    exact ⟨i, by omega, rfl⟩
  rw [decide_eq_true hm] at hb
  simp at hb
theorem wrong_len {a : List Int} (h : wrong a = none) : a.length ≤ 12 := by
  refine Nat.le_of_not_lt fun hl => ?_
  have hb := wrong_not h 12 hl
  unfold bad at hb
  simp at hb
theorem exch_cons {x : Int} {o : List Int} {i : Nat} : exch (x :: o) (i + 1) = x :: exch o i := by
  unfold exch
  rfl
theorem exch_zero {x y : Int} {o : List Int} : exch (x :: y :: o) 0 = y :: x :: o := rfl
theorem exch_perm : ∀ (o : List Int) (i : Nat), i + 1 < o.length → (exch o i).Perm o
  | [], _, h => by simp at h
  | [_], _, h => by simp at h
  | x :: y :: o, 0, _ => List.Perm.swap x y o
  | x :: y :: o, i + 1, h => by
    rw [exch_cons]
    exact (exch_perm (y :: o) i (by simpa using h)).cons x
theorem idx_ne {z y : Int} {l : List Int} (h : z ≠ y) : (z :: l).idxOf y = l.idxOf y + 1 := by
  rw [List.idxOf_cons, show (z == y) = false by simpa using h] <;> rfl
theorem idx_inj {b : List Int} {x y : Int} (hx : x ∈ b) (hy : y ∈ b) (h : b.idxOf x = b.idxOf y) : x = y := by
  have h1 := List.idxOf_lt_length_iff.mpr hx
  have h2 := List.idxOf_lt_length_iff.mpr hy
  rw [← List.getElem_idxOf h1, ← List.getElem_idxOf h2]
  simp only [h]
theorem srt_perm (a : List Int) : (srt a).Perm a := List.mergeSort_perm _ _
theorem srt_sorted (a : List Int) : (srt a).Pairwise (· ≤ ·) := by
  have h := List.pairwise_mergeSort (le := fun x y : Int => decide (x ≤ y)) (by simp; intros; omega) (by simp; intros; omega) a
  exact h.imp fun h => by simpa using h
theorem srt_uniq {a ms : List Int} (h1 : ms.Perm a) (h2 : ms.Pairwise (· ≤ ·)) : ms = srt a :=
  List.Perm.eq_of_pairwise (le := (· ≤ ·)) (fun x y _ _ h3 h4 => Int.le_antisymm h3 h4) h2 (srt_sorted a) (h1.trans (srt_perm a).symm)
theorem idx_val {b : List Int} (hb : b.Nodup) {y : Int} (hy : y ∈ b) : valD (idxD b) (Sum.inl y) = some (.int (b.idxOf y : Nat)) := by
  have go : ∀ (l : List Int) (n : Nat), y ∈ l → (((l.zipIdx n).map fun p => ((Sum.inl p.1 : Key), D.int (p.2 : Int))).find? fun kv => decide (kv.1 = Sum.inl y)).map (·.2) = some (.int ((n + l.idxOf y : Nat) : Int)) := by
    intro l
    induction l with
    | nil => intro n h; cases h
    | cons z l ih =>
      intro n h
      rw [List.zipIdx_cons, List.map_cons, List.find?_cons]
      by_cases e : z = y
      · subst e
        simp
      · have e1 : decide ((Sum.inl z : Key) = Sum.inl y) = false := decide_eq_false fun q => e (Sum.inl.inj q)
        rw [e1]
        dsimp only
        rw [ih (n + 1) ((List.mem_cons.mp h).resolve_left fun q => e q.symm), idx_ne e]
        congr 2
        omega
  have h := go b 0 hy
  unfold valD idxD
  rw [h, Nat.zero_add]
abbrev gD (gs : List (List Int)) : D := .lst (gs.map L)
abbrev stF (gs : List (List Int)) : List (Str × D) := [("_lists", gD gs), ("_places", .lst (gs.map fun o => D.dK (idxD o)))]
abbrev stD (K : PySem.W.Frag) (gs : List (List Int)) : D := .ins (He.ga K "State") (stF gs)
abbrev rnF (sw : List (Int × Int)) : List (Str × D) := [("_swaps", prs sw)]
abbrev rnD (K : PySem.W.Frag) (sw : List (Int × Int)) : D := .ins (He.ga K "Run") (rnF sw)
def row (gs : List (List Int)) (h : Nat) : List Int := gs.getD h []
/-- three lists of the same keys -/
structure VS (gs : List (List Int)) : Prop where
  len : gs.length = 3
  ok : ∀ o ∈ gs, wrong o = none
  same : ∀ o ∈ gs, o.Perm (row gs 0)
def wrongRep (gs : List (List Int)) : Option Nat := (List.range gs.length).find? fun i => (wrong (row gs i)).isSome || !decide (srt (row gs i) = srt (row gs 0))
def sayB (o : List Int) (x y : Int) : Bool := decide (o.idxOf x < o.idxOf y)
def kx (gs : List (List Int)) (h i : Nat) : Int := (row gs h).getD i 0
def silB (gs : List (List Int)) (h i : Nat) : Bool := decide (sayB (row gs ((h + 1) % 3)) (kx gs h i) (kx gs h (i + 1)) = sayB (row gs ((h + 2) % 3)) (kx gs h i) (kx gs h (i + 1)))
def swp (gs : List (List Int)) (h i : Nat) : List (List Int) := gs.set h (exch (row gs h) i)
/-- a swap that exists -/
def stepB (gs : List (List Int)) (s : Int × Int) : Bool := (decide (0 ≤ s.1) && decide (s.1 < 3)) && (decide (0 ≤ s.2) && decide (s.2 ≤ ((row gs 0).length : Int) - 2))
abbrev sil (gs : List (List Int)) (s : Int × Int) : Bool := silB gs s.1.toNat s.2.toNat
abbrev sws (gs : List (List Int)) (s : Int × Int) : List (List Int) := swp gs s.1.toNat s.2.toNat
/-- what a run does: the lists, or the fault (audible?) and its step -/
def playR : List (List Int) → List (Int × Int) → Nat → Except (Bool × Nat) (List (List Int))
  | gs, [], _ => .ok gs
  | gs, s :: sw, n => if stepB gs s then (if sil gs s then playR (sws gs s) sw (n + 1) else .error (true, n)) else .error (false, n)
def flt (K : PySem.W.Frag) (e : Bool × Nat) : Xc := ⟨if e.1 then He.ga K "AudibleSwap" else He.ga K "InvalidSwap", [("step", .int (e.2 : Int))]⟩
/-- the run that is left without a key -/
def projL (key : Int) : List (List Int) → List (Int × Int) → List (Int × Int)
  | _, [] => []
  | gs, s :: sw => (if ((row gs s.1.toNat).idxOf key : Int) < s.2 then [(s.1, s.2 - 1)] else if s.2 + 1 < ((row gs s.1.toNat).idxOf key : Int) then [s] else []) ++ projL key (sws gs s) sw
def wout (key : Int) (gs : List (List Int)) : List (List Int) := gs.map fun o => o.filter fun z => !decide (z = key)
def sp_check_replica (K : PySem.W.Frag) : DSp := fun ds O k x => ∃ h : Int, (ds = [.int h] ∧ O = []) ∧ (-1000000 ≤ h ∧ h ≤ 1000000) ∧ (0 ≤ h ∧ h < 3 → k .non []) ∧ (¬(0 ≤ h ∧ h < 3) → x ⟨He.ga K "UnknownReplica", [("replica", .int h)]⟩ [])
/-- keys: a list of ints, or a dict with ints as keys -/
def hasK (d : D) (z : Int) (b : Bool) : Prop := (∃ ns, d = L ns ∧ b = decide (z ∈ ns)) ∨ ∃ kds, d = .dK kds ∧ b = (valD kds (Sum.inl z)).isSome
def sp_require_key (K : PySem.W.Frag) : DSp := fun ds O k x => ∃ (d : D) (z : Int) (b : Bool), (ds = [d, .int z] ∧ O = []) ∧ (-1000000 ≤ z ∧ z ≤ 1000000) ∧ hasK d z b ∧ (b = true → k .non []) ∧ (b = false → x ⟨He.ga K "UnknownKey", [("key", .int z)]⟩ [])
def sp__wrong_replica (K : PySem.W.Frag) : DSp := fun ds O k x => ∃ gs, (ds = [gD gs] ∧ O = []) ∧ (∀ o ∈ gs, Sm o) ∧ gs ≠ [] ∧ gs.length ≤ 12 ∧ k (oN (wrongRep gs)) []
def sp_State___init__ (K : PySem.W.Frag) : DSp := fun ds O k x => ∃ (s : Addr) (d1 d2 d3 : D) (a b c : List Int) (A : Ow), (ds = [.mut s, d1, d2, d3] ∧ O = ⟨s, false, .ins (He.ga K "State") []⟩ :: A) ∧ (seqOf A d1 (a.map D.int) ∧ seqOf A d2 (b.map D.int) ∧ seqOf A d3 (c.map D.int)) ∧ (Sm a ∧ Sm b ∧ Sm c) ∧
  (wrongRep [a, b, c] = none → k .non (⟨s, false, .ins (He.ga K "State") (stF [a, b, c])⟩ :: A)) ∧ (∀ h, wrongRep [a, b, c] = some h → x ⟨He.ga K "InvalidState", [("replica", .int (h : Int))]⟩ (⟨s, false, .ins (He.ga K "State") []⟩ :: A))
def sp_State_lists (K : PySem.W.Frag) : DSp := fun ds O k x => ∃ gs, (ds = [stD K gs] ∧ O = []) ∧ gs.length ≤ 12 ∧ ∀ c, k (.mut c) [⟨c, true, gD gs⟩]
def sp_State_all_keys (K : PySem.W.Frag) : DSp := fun ds O k x => ∃ gs, (ds = [stD K gs] ∧ O = []) ∧ gs.length = 3 ∧ ∀ c, k (.mut c) [⟨c, true, L (srt (row gs 0))⟩]
def sp_State_list_of (K : PySem.W.Frag) : DSp := fun ds O k x => ∃ (gs : List (List Int)) (h : Int), (ds = [stD K gs, .int h] ∧ O = []) ∧ gs.length = 3 ∧ (-1000000 ≤ h ∧ h ≤ 1000000) ∧ (0 ≤ h ∧ h < 3 → ∀ c, k (.mut c) [⟨c, true, L (row gs h.toNat)⟩]) ∧ (¬(0 ≤ h ∧ h < 3) → x ⟨He.ga K "UnknownReplica", [("replica", .int h)]⟩ [])
def sp_State___len__ (K : PySem.W.Frag) : DSp := fun ds O k x => ∃ gs, (ds = [stD K gs] ∧ O = []) ∧ gs.length = 3 ∧ k (.int ((row gs 0).length : Int)) []
def sp_State_says (K : PySem.W.Frag) : DSp := fun ds O k x => ∃ (gs : List (List Int)) (h a b : Int), (ds = [stD K gs, .int h, .int a, .int b] ∧ O = []) ∧ VS gs ∧ (-1000000 ≤ h ∧ h ≤ 1000000) ∧ (-1000000 ≤ a ∧ a ≤ 1000000) ∧ (-1000000 ≤ b ∧ b ≤ 1000000) ∧
  (0 ≤ h ∧ h < 3 → a ∈ row gs 0 → b ∈ row gs 0 → k (.bl (sayB (row gs h.toNat) a b)) []) ∧ (¬(0 ≤ h ∧ h < 3) → x ⟨He.ga K "UnknownReplica", [("replica", .int h)]⟩ []) ∧
  (0 ≤ h ∧ h < 3 → a ∉ row gs 0 → x ⟨He.ga K "UnknownKey", [("key", .int a)]⟩ []) ∧ (0 ≤ h ∧ h < 3 → a ∈ row gs 0 → b ∉ row gs 0 → x ⟨He.ga K "UnknownKey", [("key", .int b)]⟩ [])
def sp_State_position (K : PySem.W.Frag) : DSp := fun ds O k x => ∃ (gs : List (List Int)) (h a : Int), (ds = [stD K gs, .int h, .int a] ∧ O = []) ∧ VS gs ∧ (-1000000 ≤ h ∧ h ≤ 1000000) ∧ (-1000000 ≤ a ∧ a ≤ 1000000) ∧
  (0 ≤ h ∧ h < 3 → a ∈ row gs 0 → k (.int ((row gs h.toNat).idxOf a : Nat)) []) ∧ (¬(0 ≤ h ∧ h < 3) → x ⟨He.ga K "UnknownReplica", [("replica", .int h)]⟩ []) ∧ (0 ≤ h ∧ h < 3 → a ∉ row gs 0 → x ⟨He.ga K "UnknownKey", [("key", .int a)]⟩ [])
def sp_State_with_list (K : PySem.W.Frag) : DSp := fun ds O k x => ∃ (gs : List (List Int)) (h : Int) (o : List Int), (ds = [stD K gs, .int h, L o] ∧ O = []) ∧ VS gs ∧ (-1000000 ≤ h ∧ h ≤ 1000000) ∧ Sm o ∧
  (0 ≤ h ∧ h < 3 → wrong o = none → o.Perm (row gs 0) → k (stD K (gs.set h.toNat o)) []) ∧ (¬(0 ≤ h ∧ h < 3) → x ⟨He.ga K "UnknownReplica", [("replica", .int h)]⟩ []) ∧ (0 ≤ h ∧ h < 3 → ¬(wrong o = none ∧ o.Perm (row gs 0)) → x ⟨He.ga K "InvalidState", [("replica", .int h)]⟩ [])
def sp_State___sub__ (K : PySem.W.Frag) : DSp := fun ds O k x => ∃ (gs : List (List Int)) (z : Int), (ds = [stD K gs, .int z] ∧ O = []) ∧ VS gs ∧ (-1000000 ≤ z ∧ z ≤ 1000000) ∧ (z ∈ row gs 0 → k (stD K (wout z gs)) []) ∧ (z ∉ row gs 0 → x ⟨He.ga K "UnknownKey", [("key", .int z)]⟩ [])
def sp_is_swap (K : PySem.W.Frag) : DSp := fun ds O k x => ∃ gs s, (ds = [stD K gs, PyD.prD s] ∧ O = []) ∧ gs.length = 3 ∧ (row gs 0).length ≤ 1000 ∧ k (.bl (stepB gs s)) []
def sp_swap_pair (K : PySem.W.Frag) : DSp := fun ds O k x => ∃ gs s, (ds = [stD K gs, PyD.prD s] ∧ O = []) ∧ VS gs ∧ (stepB gs s = true → k (PyD.prD (kx gs s.1.toNat s.2.toNat, kx gs s.1.toNat (s.2.toNat + 1))) []) ∧ (stepB gs s = false → x ⟨He.ga K "InvalidSwap", [("step", .int 0)]⟩ [])
def sp__other_replicas (K : PySem.W.Frag) : DSp := fun ds O k x => ∃ h : Int, (ds = [.int h] ∧ O = []) ∧ (0 ≤ h ∧ h < 3) ∧ k (L ((([0, 1, 2] : List Int)).filter fun z => !decide (z = h))) []
def sp_is_silent (K : PySem.W.Frag) : DSp := fun ds O k x => ∃ gs s, (ds = [stD K gs, PyD.prD s] ∧ O = []) ∧ VS gs ∧ (stepB gs s = true → k (.bl (sil gs s)) []) ∧ (stepB gs s = false → x ⟨He.ga K "InvalidSwap", [("step", .int 0)]⟩ [])
def sp_swapped_state (K : PySem.W.Frag) : DSp := fun ds O k x => ∃ gs s, (ds = [stD K gs, PyD.prD s] ∧ O = []) ∧ VS gs ∧ stepB gs s = true ∧ k (stD K (sws gs s)) []
def sp__state_after (K : PySem.W.Frag) : DSp := fun ds O k x => ∃ (gs : List (List Int)) (s : Int × Int) (n : Nat), (ds = [stD K gs, PyD.prD s, .int (n : Int)] ∧ O = []) ∧ VS gs ∧ n ≤ 1000000 ∧ (stepB gs s = true → sil gs s = true → k (stD K (sws gs s)) []) ∧ (stepB gs s = true → sil gs s = false → x (flt K (true, n)) []) ∧ (stepB gs s = false → x (flt K (false, n)) [])
def sp_Run___init__ (K : PySem.W.Frag) : DSp := fun ds O k x => ∃ (s : Addr) (d : D) (sw : List (Int × Int)) (A : Ow), (ds = [.mut s, d] ∧ O = ⟨s, false, .ins (He.ga K "Run") []⟩ :: A) ∧ seqOf A d (sw.map PyD.prD) ∧ k .non (⟨s, false, .ins (He.ga K "Run") (rnF sw)⟩ :: A)
def sp_Run_steps (K : PySem.W.Frag) : DSp := fun ds O k x => ∃ sw, (ds = [rnD K sw] ∧ O = []) ∧ ∀ c, k (.mut c) [⟨c, true, prs sw⟩]
def sp_Run___add__ (K : PySem.W.Frag) : DSp := fun ds O k x => ∃ a b, (ds = [rnD K a, rnD K b] ∧ O = []) ∧ a.length + b.length ≤ 100000 ∧ k (rnD K (a ++ b)) []
def sp_Run___neg__ (K : PySem.W.Frag) : DSp := fun ds O k x => ∃ a, (ds = [rnD K a] ∧ O = []) ∧ k (rnD K a.reverse) []
def sp_Run___len__ (K : PySem.W.Frag) : DSp := fun ds O k x => ∃ a, (ds = [rnD K a] ∧ O = []) ∧ a.length ≤ 1000000 ∧ k (.int (a.length : Int)) []
def sp_play (K : PySem.W.Frag) : DSp := fun ds O k x => ∃ gs sw, (ds = [stD K gs, rnD K sw] ∧ O = []) ∧ VS gs ∧ sw.length ≤ 100000 ∧ (∀ g, playR gs sw 0 = .ok g → k (stD K g) []) ∧ (∀ e, playR gs sw 0 = .error e → x (flt K e) [])
def sp_project_run (K : PySem.W.Frag) : DSp := fun ds O k x => ∃ gs sw key, (ds = [stD K gs, rnD K sw, .int key] ∧ O = []) ∧ VS gs ∧ sw.length ≤ 100000 ∧ (-1000000 ≤ key ∧ key ≤ 1000000) ∧ (key ∉ row gs 0 → x ⟨He.ga K "UnknownKey", [("key", .int key)]⟩ []) ∧
  (key ∈ row gs 0 → (∀ g, playR gs sw 0 = .ok g → k (rnD K (projL key gs sw)) []) ∧ (∀ e, playR gs sw 0 = .error e → x (flt K e) []))
/-- three lists of one length, with the same keys -/
structure V3 (gs : List (List Int)) : Prop where
  len : gs.length = 3
  same : ∀ o ∈ gs, o.Perm (row gs 0)
  nd : (row gs 0).Nodup
  l12 : (row gs 0).length ≤ 12
abbrev trD (t : Int × Int × Int) : D := .tup [.int t.1, .int t.2.1, .int t.2.2]
def okR (gs : List (List Int)) (sw : List (Int × Int)) : Prop := ∃ g, playR gs sw 0 = .ok g
/-- the pairs that are exchanged -/
def pairsL : List (List Int) → List (Int × Int) → List (Int × Int × Int)
  | _, [] => []
  | gs, s :: sw => (s.1, kx gs s.1.toNat s.2.toNat, kx gs s.1.toNat (s.2.toNat + 1)) :: pairsL (sws gs s) sw
def endL (gs : List (List Int)) (sw : List (Int × Int)) : List (List Int) := sw.foldl sws gs
def pairsD (gs : List (List Int)) (sw : List (Int × Int)) : D := .lst [.lst ((pairsL gs sw).map trD), gD (endL gs sw)]
def sp__law_silent (K : PySem.W.Frag) : DSp := fun ds O k x => ∃ (gs : List (List Int)) (h i : Int), (ds = [gD gs, .int h, .int i] ∧ O = []) ∧ V3 gs ∧ stepB gs (h, i) = true ∧ k (.bl (sil gs (h, i))) []
def sp__law_swapped (K : PySem.W.Frag) : DSp := fun ds O k x => ∃ (gs : List (List Int)) (h i : Int), (ds = [gD gs, .int h, .int i] ∧ O = []) ∧ V3 gs ∧ stepB gs (h, i) = true ∧ k (gD (sws gs (h, i))) []
def sp__law_pairs (K : PySem.W.Frag) : DSp := fun ds O k x => ∃ (gs : List (List Int)) (d : D) (sw : List (Int × Int)) (A : Ow), (ds = [gD gs, d] ∧ O = A) ∧ seqOf A d (sw.map PyD.prD) ∧ V3 gs ∧ sw.length ≤ 1000 ∧ okR gs sw ∧ k (pairsD gs sw) A
def sp__law_whole (K : PySem.W.Frag) : DSp := fun ds O k x => ∃ z : Int, (ds = [.int z] ∧ O = []) ∧ k (.bl true) []
def sp__law_steps (K : PySem.W.Frag) : DSp := fun ds O k x => ∃ sw, (ds = [rnD K sw] ∧ O = []) ∧ ∀ c, k (.mut c) [⟨c, true, prs sw⟩]
def sp__law_without (K : PySem.W.Frag) : DSp := fun ds O k x => ∃ (gs : List (List Int)) (z : Int), (ds = [gD gs, .int z] ∧ O = []) ∧ gs.length ≤ 12 ∧ (∀ o ∈ gs, o.length ≤ 100) ∧ k (gD (wout z gs)) []
def sp__law_made (K : PySem.W.Frag) : DSp := fun ds O k x => ∃ gs, (ds = [gD gs] ∧ O = []) ∧ VS gs ∧ k (stD K gs) []
def sp__law_played (K : PySem.W.Frag) : DSp := fun ds O k x => ∃ gs sw, (ds = [gD gs, prs sw] ∧ O = []) ∧ V3 gs ∧ okR gs sw ∧ k (gD (endL gs sw)) []
def sp__law_ways (K : PySem.W.Frag) : DSp := fun ds O k x => ∃ gs, (ds = [gD gs, .tup [.int 0, .int 1, .int 2]] ∧ O = []) ∧ V3 gs ∧ ∀ ws : List (Int × Int), (∀ s ∈ ws, stepB gs s = true ∧ sil gs s = true) → ws.length ≤ 100 → k (prs ws) []
def sp__law_walk (K : PySem.W.Frag) : DSp := fun ds O k x => ∃ (b : Addr) (d : D) (gs : List (List Int)) (n : Int), (ds = [.mut b, gD gs, .int n, .tup [.int 0, .int 1, .int 2]] ∧ O = [⟨b, false, d⟩]) ∧ Bx d ∧ V3 gs ∧ 0 ≤ n ∧ n ≤ 100 ∧ ∀ (sw : List (Int × Int)) d', Bx d' → okR gs sw → (sw.length : Int) ≤ n → k (prs sw) [⟨b, false, d'⟩]
def sp__law_put_in (K : PySem.W.Frag) : DSp := fun ds O k x => ∃ (b r0 r1 r2 : Addr) (d : D) (a0 a1 a2 : List Int) (z : Int), (ds = [.mut b, .lst [.mut r0, .mut r1, .mut r2], .int z] ∧ O = [⟨b, false, d⟩, ⟨r0, false, L a0⟩, ⟨r1, false, L a1⟩, ⟨r2, false, L a2⟩]) ∧ Bx d ∧ (a0.length ≤ 12 ∧ a1.length = a0.length ∧ a2.length = a0.length) ∧
  ∀ d' b0 b1 b2, Bx d' → b0.Perm (z :: a0) → b1.Perm (z :: a1) → b2.Perm (z :: a2) → k .non [⟨b, false, d'⟩, ⟨r0, false, L b0⟩, ⟨r1, false, L b1⟩, ⟨r2, false, L b2⟩]
def sp__law_state (K : PySem.W.Frag) : DSp := fun ds O k x => ∃ (b : Addr) (d : D) (ks : List Int), (ds = [.mut b, L ks] ∧ O = [⟨b, false, d⟩]) ∧ Bx d ∧ ks.Nodup ∧ ks.length ≤ 12 ∧ (∀ z ∈ ks, 0 ≤ z ∧ z ≤ 6999) ∧ ∀ gs d', Bx d' → VS gs → (row gs 0).Perm ks → k (gD gs) [⟨b, false, d'⟩]
def sp__law_strange (K : PySem.W.Frag) : DSp := fun ds O k x => ∃ (b : Addr) (d : D) (ks : List Int), (ds = [.mut b, L ks] ∧ O = [⟨b, false, d⟩]) ∧ Bx d ∧ ks.Nodup ∧ ks.length ≤ 12 ∧ ∀ z d', Bx d' → z ∉ ks → (0 ≤ z ∧ z ≤ 9012) → k (.int z) [⟨b, false, d'⟩]
def badD (s : Int × Int) (aud : Bool) : D := .lst [PyD.prD s, .str (if aud then "audible" else "invalid")]
def sp__law_bad_swap (K : PySem.W.Frag) : DSp := fun ds O k x => ∃ (b : Addr) (d : D) (gs : List (List Int)), (ds = [.mut b, gD gs] ∧ O = [⟨b, false, d⟩]) ∧ Bx d ∧ V3 gs ∧ ∀ s aud d', Bx d' → (aud = true → stepB gs s = true ∧ sil gs s = false) → (aud = false → stepB gs s = false) → k (badD s aud) [⟨b, false, d'⟩]
def sp__law_answer (K : PySem.W.Frag) : DSp := fun ds O k x => ∃ gs sw key, (ds = [stD K gs, rnD K sw, .int key] ∧ O = []) ∧ VS gs ∧ sw.length ≤ 1000 ∧ (-1000000 ≤ key ∧ key ≤ 1000000) ∧ (key ∉ row gs 0 → k (.tup [.str "unknown", .int key, .bl true]) []) ∧
  (key ∈ row gs 0 → ∀ e, playR gs sw 0 = .error e → k (.tup [.str (if e.1 then "audible" else "invalid"), .int (e.2 : Int), .bl true]) []) ∧ (key ∉ row gs 0 ∨ ∃ e, playR gs sw 0 = .error e)
def sp__law_key_out (K : PySem.W.Frag) : DSp := fun ds O k x => ∃ gs sw z, (ds = [stD K gs, rnD K sw, gD gs, prs sw, .int z] ∧ O = []) ∧ VS gs ∧ sw.length ≤ 100 ∧ okR gs sw ∧ z ∈ row gs 0 ∧ k (.bl true) []
def sp__law_cut_run (K : PySem.W.Frag) : DSp := fun ds O k x => ∃ (b : Addr) (d : D) (gs : List (List Int)) (sw : List (Int × Int)) (z : Int), (ds = [.mut b, stD K gs, rnD K sw, prs sw, .int z] ∧ O = [⟨b, false, d⟩]) ∧ Bx d ∧ VS gs ∧ sw.length ≤ 100 ∧ okR gs sw ∧ z ∈ row gs 0 ∧ ∀ d', Bx d' → k (.bl true) [⟨b, false, d'⟩]
def sp__law_two_out (K : PySem.W.Frag) : DSp := fun ds O k x => ∃ gs sw y z, (ds = [stD K gs, rnD K sw, gD gs, prs sw, .int y, .int z] ∧ O = []) ∧ VS gs ∧ sw.length ≤ 100 ∧ okR gs sw ∧ y ∈ row gs 0 ∧ z ∈ row gs 0 ∧ y ≠ z ∧ k (.bl true) []
def sp__law_refused (K : PySem.W.Frag) : DSp := fun ds O k x => ∃ (b : Addr) (d : D) (gs : List (List Int)) (sw : List (Int × Int)) (ks : List Int), (ds = [.mut b, stD K gs, rnD K sw, gD gs, prs sw, L ks] ∧ O = [⟨b, false, d⟩]) ∧ Bx d ∧ VS gs ∧ sw.length ≤ 100 ∧ okR gs sw ∧ (row gs 0).Perm ks ∧ ∀ d', Bx d' → k (.bl true) [⟨b, false, d'⟩]
def sp_law_v2 (K : PySem.W.Frag) : DSp := fun ds O k x => ∃ ns : List Int, (ds = [.kl (ns.map D.int)] ∧ O = []) ∧ ns.length ≤ 63 ∧ k (.bl true) []
abbrev N_Run___init__ : List Str := ["self", "swaps"]
def t_Run___init__ (K : PySem.W.Frag) (W : WX) : TS :=
  sFld K (tVar 0) (tCB (rListA K) (tCons (tVar 1) (tNil))) "_swaps"
structure FT_Run___init__ (K : PySem.W.Frag) : Prop where
  C_Run : Cls K (He.ga K "Run")
  na_Run__swaps : NoAttr K (He.ga K "Run") "_swaps"
abbrev N_Run_steps : List Str := ["self"]
def t_Run_steps (K : PySem.W.Frag) (W : WX) : TS :=
  tRet (tCB (rListA K) (tCons (tFld K (tVar 0) "_swaps") (tNil)))
structure FT_Run_steps (K : PySem.W.Frag) : Prop where
  C_Run : Cls K (He.ga K "Run")
  na_Run__swaps : NoAttr K (He.ga K "Run") "_swaps"
abbrev N_State_lists : List Str := ["self", "order"]
def t_State_lists (K : PySem.W.Frag) (W : WX) : TS :=
  tRet (tLc (iList K (tFld K (tVar 0) "_lists")) (gName 1) (tYes) (tCB (rListA K) (tCons (tVar 1) (tNil))) [1])
structure FT_State_lists (K : PySem.W.Frag) : Prop where
  C_State : Cls K (He.ga K "State")
  na_State__lists : NoAttr K (He.ga K "State") "_lists"
abbrev N_Run___add__ : List Str := ["self", "other"]
def t_Run___add__ (K : PySem.W.Frag) (W : WX) : TS :=
  tRet (tMakeA (He.ga K "Run") (toSp K (sp_Run___init__ K)) [] (WE W) (tCons (tOp rAddA (tFld K (tVar 0) "_swaps") (tFld K (tVar 1) "_swaps")) (tNil)))
structure FT_Run___add__ (K : PySem.W.Frag) : Prop where
  C_Run : Cls K (He.ga K "Run")
  na_Run__swaps : NoAttr K (He.ga K "Run") "_swaps"
abbrev N_Run___neg__ : List Str := ["self"]
def t_Run___neg__ (K : PySem.W.Frag) (W : WX) : TS :=
  tRet (tMakeA (He.ga K "Run") (toSp K (sp_Run___init__ K)) [] (WE W) (tCons (tRevL K (tFld K (tVar 0) "_swaps")) (tNil)))
structure FT_Run___neg__ (K : PySem.W.Frag) : Prop where
  C_Run : Cls K (He.ga K "Run")
  na_Run__swaps : NoAttr K (He.ga K "Run") "_swaps"
abbrev N_check_replica : List Str := ["replica"]
def t_check_replica (K : PySem.W.Frag) (W : WX) : TS :=
  tIfS (tTest (tOp (rIn K true) (tVar 0) (tTup (tCons (tC (.int 0)) (tCons (tC (.int 1)) (tCons (tC (.int 2)) (tNil))))))) (tRaiseX (He.ga K "UnknownReplica") "replica" fmtI W (tCons (tVar 0) (tNil))) (tNext)
abbrev N_require_key : List Str := ["keys", "key"]
def t_require_key (K : PySem.W.Frag) (W : WX) : TS :=
  tIfS (tB (tOrE (tOp (rIn K true) (tVar 1) (tVar 0)) (tDNotIn (tVar 1) (tVar 0)))) (tRaiseX (He.ga K "UnknownKey") "key" fmtI W (tCons (tVar 1) (tNil))) (tNext)
abbrev N_State_says : List Str := ["self", "replica", "x", "y", "place"]
def t_State_says (K : PySem.W.Frag) (W : WX) : TS :=
  tSeq (tDrop (tCallSD (toSp K (sp_check_replica K)) [] (WE W) (tCons (tVar 1) (tNil))))
    (tSeq (tAsg (tOp (rIxLT K) (tFld K (tVar 0) "_places") (tVar 1)) (gName 4))
    (tSeq (tDrop (tCallSD (toSp K (sp_require_key K)) [] (WE W) (tCons (tVar 4) (tCons (tVar 2) (tNil)))))
    (tSeq (tDrop (tCallSD (toSp K (sp_require_key K)) [] (WE W) (tCons (tVar 4) (tCons (tVar 3) (tNil)))))
    (tRet (tOp rLtA (tDGet (tVar 4) (tVar 2)) (tDGet (tVar 4) (tVar 3)))))))
structure FT_State_says (K : PySem.W.Frag) : Prop where
  C_State : Cls K (He.ga K "State")
  na_State__places : NoAttr K (He.ga K "State") "_places"
abbrev N__other_replicas : List Str := ["replica", "other"]
def t__other_replicas (K : PySem.W.Frag) (W : WX) : TS :=
  tRet (tLc (iRng1 (tCons (ClX.tCVal K (tC (.ref (He.ga K "State"))) "REPLICAS") (tNil))) (gName 1) (tTest (tOp (rNeA K) (tVar 1) (tVar 0))) (tVar 1) [1])
structure FT__other_replicas (K : PySem.W.Frag) : Prop where
  cv_State_REPLICAS : ClX.CRead K (He.ga K "State") (.type "type") ∧ ∃ u, ClX.CVal K (He.ga K "State") (.type "type") "REPLICAS" (.int 3) u
abbrev N_State_list_of : List Str := ["self", "replica"]
def t_State_list_of (K : PySem.W.Frag) (W : WX) : TS :=
  tSeq (tDrop (tCallSD (toSp K (sp_check_replica K)) [] (WE W) (tCons (tVar 1) (tNil))))
    (tRet (tCB (rListA K) (tCons (tOp (rIxLT K) (tFld K (tVar 0) "_lists") (tVar 1)) (tNil))))
structure FT_State_list_of (K : PySem.W.Frag) : Prop where
  C_State : Cls K (He.ga K "State")
  na_State__lists : NoAttr K (He.ga K "State") "_lists"
abbrev N_State___len__ : List Str := ["self"]
def t_State___len__ (K : PySem.W.Frag) (W : WX) : TS :=
  tRet (tCB (rLenA K) (tCons (tOp (rIxLT K) (tFld K (tVar 0) "_lists") (tC (.int 0))) (tNil)))
structure FT_State___len__ (K : PySem.W.Frag) : Prop where
  C_State : Cls K (He.ga K "State")
  na_State__lists : NoAttr K (He.ga K "State") "_lists"
abbrev N_is_swap : List Str := ["state", "swap", "last", "replica", "index"]
def t_is_swap (K : PySem.W.Frag) (W : WX) : TS :=
  tSeq (tAsg (tVar 1) (gTup K 2 (gCons (gName 3) (gCons (gName 4) (gNil)))))
    (tSeq (tAsg (tOp rSubA (tCB (rLenI (He.ga K "State") (toSp K (sp_State___len__ K))) (tCons (tVar 0) (tNil))) (tC (.int 2))) (gName 2))
    (tRet (tAndV (tChain rLeA rLtA (tC (.int 0)) (tVar 3) (ClX.tCVal K (tC (.ref (He.ga K "State"))) "REPLICAS")) (tChain rLeA rLeA (tC (.int 0)) (tVar 4) (tVar 2)))))
structure FT_is_swap (K : PySem.W.Frag) : Prop where
  cv_State_REPLICAS : ClX.CRead K (He.ga K "State") (.type "type") ∧ ∃ u, ClX.CVal K (He.ga K "State") (.type "type") "REPLICAS" (.int 3) u
abbrev N_swap_pair : List Str := ["state", "swap", "order", "replica", "index"]
def t_swap_pair (K : PySem.W.Frag) (W : WX) : TS :=
  tSeq (tIfS (tNot (tTru K (tCallSD (toSp K (sp_is_swap K)) [] (WE W) (tCons (tVar 0) (tCons (tVar 1) (tNil)))))) (tRaiseX (He.ga K "InvalidSwap") "step" fmtI W (tCons (tC (.int 0)) (tNil))) (tNext))
    (tSeq (tAsg (tVar 1) (gTup K 2 (gCons (gName 3) (gCons (gName 4) (gNil)))))
    (tSeq (tAsg (tMethA (He.ga K "State") "list_of" (toSp K (sp_State_list_of K)) [] (WE W) (tVar 0) (tCons (tVar 3) (tNil))) (gName 2))
    (tRet (tTup (tCons (tOp (rIxLT K) (tVar 2) (tVar 4)) (tCons (tOp (rIxLT K) (tVar 2) (tOp rAddA (tVar 4) (tC (.int 1)))) (tNil)))))))
abbrev N_is_silent : List Str := ["state", "swap", "x", "y", "first", "second"]
def t_is_silent (K : PySem.W.Frag) (W : WX) : TS :=
  tSeq (tAsg (tCallSD (toSp K (sp_swap_pair K)) [] (WE W) (tCons (tVar 0) (tCons (tVar 1) (tNil)))) (gTup K 2 (gCons (gName 2) (gCons (gName 3) (gNil)))))
    (tSeq (tAsg (tCallSD (toSp K (sp__other_replicas K)) [] (WE W) (tCons (tOp (rIxLT K) (tVar 1) (tC (.int 0))) (tNil))) (gLst K 2 (gCons (gName 4) (gCons (gName 5) (gNil)))))
    (tRet (tOp (rEqA K) (tMethA (He.ga K "State") "says" (toSp K (sp_State_says K)) [] (WE W) (tVar 0) (tCons (tVar 4) (tCons (tVar 2) (tCons (tVar 3) (tNil))))) (tMethA (He.ga K "State") "says" (toSp K (sp_State_says K)) [] (WE W) (tVar 0) (tCons (tVar 5) (tCons (tVar 2) (tCons (tVar 3) (tNil))))))))
abbrev N__wrong_replica : List Str := ["orders", "keys", "replica", "order"]
def t__wrong_replica (K : PySem.W.Frag) (W : WX) : TS :=
  tSeq (tAsg (tCB (rSortA K) (tCons (tOp (rIxLT K) (tVar 0) (tC (.int 0))) (tNil))) (gName 1))
    (tSeq (tFor (iEnum K (tCons (tVar 0) (tNil))) (gTup K 2 (gCons (gName 2) (gCons (gName 3) (gNil)))) (tIfS (tOr (tTest (tOp rNotN (tCallSD (toSp K (sp_first_wrong_place K)) [] (WE W) (tCons (tVar 3) (tNil))) (tC .non))) (tTest (tOp (rNeA K) (tCB (rSortA K) (tCons (tVar 3) (tNil))) (tVar 1)))) (tRet (tVar 2)) (tNext)))
    (tRet (tC .non)))
abbrev N_State___init__ : List Str := ["self", "first", "second", "third", "orders", "wrong", "order"]
def t_State___init__ (K : PySem.W.Frag) (W : WX) : TS :=
  tSeq (tAsg (tLst (tCons (tCB (rListA K) (tCons (tVar 1) (tNil))) (tCons (tCB (rListA K) (tCons (tVar 2) (tNil))) (tCons (tCB (rListA K) (tCons (tVar 3) (tNil))) (tNil))))) (gName 4))
    (tSeq (tAsg (tCallSD (toSp K (sp__wrong_replica K)) [] (WE W) (tCons (tVar 4) (tNil))) (gName 5))
    (tSeq (tIfS (tTest (tOp rNotN (tVar 5) (tC .non))) (tRaiseX (He.ga K "InvalidState") "replica" fmtI W (tCons (tVar 5) (tNil))) (tNext))
    (tSeq (sFld K (tVar 0) (tVar 4) "_lists")
    (sFld K (tVar 0) (tLc (iList K (tVar 4)) (gName 6) (tYes) (tCallSD (toSp K (sp_index_of K)) [] (fun _ => E0) (tCons (tVar 6) (tNil))) [6]) "_places"))))
structure FT_State___init__ (K : PySem.W.Frag) : Prop where
  C_State : Cls K (He.ga K "State")
  na_State__lists : NoAttr K (He.ga K "State") "_lists"
  na_State__places : NoAttr K (He.ga K "State") "_places"
abbrev N_State_all_keys : List Str := ["self"]
def t_State_all_keys (K : PySem.W.Frag) (W : WX) : TS :=
  tRet (tCB (rSortA K) (tCons (tOp (rIxLT K) (tFld K (tVar 0) "_lists") (tC (.int 0))) (tNil)))
structure FT_State_all_keys (K : PySem.W.Frag) : Prop where
  C_State : Cls K (He.ga K "State")
  na_State__lists : NoAttr K (He.ga K "State") "_lists"
abbrev N_State_with_list : List Str := ["self", "replica", "order", "orders", "first", "second", "third"]
def t_State_with_list (K : PySem.W.Frag) (W : WX) : TS :=
  tSeq (tDrop (tCallSD (toSp K (sp_check_replica K)) [] (WE W) (tCons (tVar 1) (tNil))))
    (tSeq (tIfS (tOr (tTest (tOp rNotN (tCallSD (toSp K (sp_first_wrong_place K)) [] (WE W) (tCons (tVar 2) (tNil))) (tC .non))) (tTest (tOp (rNeA K) (tCB (rSortA K) (tCons (tVar 2) (tNil))) (tMethA (He.ga K "State") "all_keys" (toSp K (sp_State_all_keys K)) [] (WE W) (tVar 0) tNil)))) (tRaiseX (He.ga K "InvalidState") "replica" fmtI W (tCons (tVar 1) (tNil))) (tNext))
    (tSeq (tAsg (tMethA (He.ga K "State") "lists" (toSp K (sp_State_lists K)) [] (WE W) (tVar 0) tNil) (gName 3))
    (tSeq (tAsg (tVar 2) (gSub (tVar 3) (tVar 1) rSetL))
    (tSeq (tAsg (tVar 3) (gLst K 3 (gCons (gName 4) (gCons (gName 5) (gCons (gName 6) (gNil))))))
    (tRet (tMakeA (He.ga K "State") (toSp K (sp_State___init__ K)) [] (WE W) (tCons (tVar 4) (tCons (tVar 5) (tCons (tVar 6) (tNil))))))))))
abbrev N_swapped_state : List Str := ["state", "swap", "replica", "index"]
def t_swapped_state (K : PySem.W.Frag) (W : WX) : TS :=
  tSeq (tAsg (tVar 1) (gTup K 2 (gCons (gName 2) (gCons (gName 3) (gNil)))))
    (tRet (tMethA (He.ga K "State") "with_list" (toSp K (sp_State_with_list K)) [] (WE W) (tVar 0) (tCons (tVar 2) (tCons (tCallSD (toSp K (sp_swap_at K)) [] (WE W) (tCons (tMethA (He.ga K "State") "list_of" (toSp K (sp_State_list_of K)) [] (WE W) (tVar 0) (tCons (tVar 2) (tNil))) (tCons (tVar 3) (tNil)))) (tNil)))))
abbrev N__state_after : List Str := ["state", "swap", "step"]
def t__state_after (K : PySem.W.Frag) (W : WX) : TS :=
  tSeq (tIfS (tNot (tTru K (tCallSD (toSp K (sp_is_swap K)) [] (WE W) (tCons (tVar 0) (tCons (tVar 1) (tNil)))))) (tRaiseX (He.ga K "InvalidSwap") "step" fmtI W (tCons (tVar 2) (tNil))) (tNext))
    (tSeq (tIfS (tNot (tTru K (tCallSD (toSp K (sp_is_silent K)) [] (WE W) (tCons (tVar 0) (tCons (tVar 1) (tNil)))))) (tRaiseX (He.ga K "AudibleSwap") "step" fmtI W (tCons (tVar 2) (tNil))) (tNext))
    (tRet (tCallSD (toSp K (sp_swapped_state K)) [] (WE W) (tCons (tVar 0) (tCons (tVar 1) (tNil))))))
abbrev N_play : List Str := ["state", "run", "here", "step", "swap"]
def t_play (K : PySem.W.Frag) (W : WX) : TS :=
  tSeq (tAsg (tVar 0) (gName 2))
    (tSeq (tFor (iEnum K (tCons (tMethA (He.ga K "Run") "steps" (toSp K (sp_Run_steps K)) [] (WE W) (tVar 1) tNil) (tNil))) (gTup K 2 (gCons (gName 3) (gCons (gName 4) (gNil)))) (tAsg (tCallSD (toSp K (sp__state_after K)) [] (WE W) (tCons (tVar 2) (tCons (tVar 4) (tCons (tVar 3) (tNil))))) (gName 2)))
    (tRet (tVar 2)))
abbrev N_State_position : List Str := ["self", "replica", "key", "place"]
def t_State_position (K : PySem.W.Frag) (W : WX) : TS :=
  tSeq (tDrop (tCallSD (toSp K (sp_check_replica K)) [] (WE W) (tCons (tVar 1) (tNil))))
    (tSeq (tAsg (tOp (rIxLT K) (tFld K (tVar 0) "_places") (tVar 1)) (gName 3))
    (tSeq (tDrop (tCallSD (toSp K (sp_require_key K)) [] (WE W) (tCons (tVar 3) (tCons (tVar 2) (tNil)))))
    (tRet (tDGet (tVar 3) (tVar 2)))))
structure FT_State_position (K : PySem.W.Frag) : Prop where
  C_State : Cls K (He.ga K "State")
  na_State__places : NoAttr K (He.ga K "State") "_places"
abbrev N_project_run : List Str := ["state", "run", "key", "left", "now", "replica", "index", "place"]
def t_project_run (K : PySem.W.Frag) (W : WX) : TS :=
  tSeq (tDrop (tCallSD (toSp K (sp_require_key K)) [] (WE W) (tCons (tMethA (He.ga K "State") "all_keys" (toSp K (sp_State_all_keys K)) [] (WE W) (tVar 0) tNil) (tCons (tVar 2) (tNil)))))
    (tSeq (tDrop (tCallSD (toSp K (sp_play K)) [] (WE W) (tCons (tVar 0) (tCons (tVar 1) (tNil)))))
    (tSeq (tAsg (tLst (tNil)) (gName 3))
    (tSeq (tAsg (tVar 0) (gName 4))
    (tSeq (tFor (iList K (tMethA (He.ga K "Run") "steps" (toSp K (sp_Run_steps K)) [] (WE W) (tVar 1) tNil)) (gTup K 2 (gCons (gName 5) (gCons (gName 6) (gNil)))) (tSeq (tAsg (tMethA (He.ga K "State") "position" (toSp K (sp_State_position K)) [] (WE W) (tVar 4) (tCons (tVar 5) (tCons (tVar 2) (tNil)))) (gName 7))
    (tSeq (tIfS (tTest (tOp rLtA (tVar 7) (tVar 6))) (tDrop (tBM K "list" rAppend (tVar 3) (tCons (tTup (tCons (tVar 5) (tCons (tOp rSubA (tVar 6) (tC (.int 1))) (tNil)))) (tNil)))) (tIfS (tTest (tOp rGtA (tVar 7) (tOp rAddA (tVar 6) (tC (.int 1))))) (tDrop (tBM K "list" rAppend (tVar 3) (tCons (tTup (tCons (tVar 5) (tCons (tVar 6) (tNil)))) (tNil)))) (tNext)))
    (tAsg (tCallSD (toSp K (sp_swapped_state K)) [] (WE W) (tCons (tVar 4) (tCons (tTup (tCons (tVar 5) (tCons (tVar 6) (tNil)))) (tNil)))) (gName 4)))))
    (tRet (tMakeA (He.ga K "Run") (toSp K (sp_Run___init__ K)) [] (WE W) (tCons (tVar 3) (tNil))))))))
abbrev N__law_cut_run : List Str := ["_law_box_here", "_law_state_here", "_law_run", "_law_steps_here", "_law_key", "_law_cut", "_law_first", "_law_second", "_law_whole_here", "_law_both", "_law_back"]
def t__law_cut_run (K : PySem.W.Frag) (W : WX) : TS :=
  tSeq (tAsg (tCallSD (toSp K (sp__law_take K)) [] (WE W) (tCons (tVar 0) (tCons (tOp rAddA (tCB (rLenA K) (tCons (tVar 3) (tNil))) (tC (.int 1))) (tNil)))) (gName 5))
    (tSeq (tAsg (tMakeA (He.ga K "Run") (toSp K (sp_Run___init__ K)) [] (WE W) (tCons (tCB (rListA K) (tCons (L2.tSl (rSlL K) (tVar 3) (tNoPart) (tPart (tVar 5))) (tNil))) (tNil))) (gName 6))
    (tSeq (tAsg (tMakeA (He.ga K "Run") (toSp K (sp_Run___init__ K)) [] (WE W) (tCons (tCB (rListA K) (tCons (L2.tSl (rSlL K) (tVar 3) (tPart (tVar 5)) (tNoPart)) (tNil))) (tNil))) (gName 7))
    (tSeq (tAsg (tMethA (He.ga K "Run") "steps" (toSp K (sp_Run_steps K)) [] (WE W) (tCallSD (toSp K (sp_project_run K)) [] (WE W) (tCons (tVar 1) (tCons (tVar 2) (tCons (tVar 4) (tNil))))) tNil) (gName 8))
    (tSeq (tAsg (tBinI (He.ga K "Run") (toSp K (sp_Run___add__ K)) (WE W) (tCallSD (toSp K (sp_project_run K)) [] (WE W) (tCons (tVar 1) (tCons (tVar 6) (tCons (tVar 4) (tNil))))) (tCallSD (toSp K (sp_project_run K)) [] (WE W) (tCons (tCallSD (toSp K (sp_play K)) [] (WE W) (tCons (tVar 1) (tCons (tVar 6) (tNil)))) (tCons (tVar 7) (tCons (tVar 4) (tNil)))))) (gName 9))
    (tSeq (tAsg (tCallSD (toSp K (sp_project_run K)) [] (WE W) (tCons (tCallSD (toSp K (sp_play K)) [] (WE W) (tCons (tVar 1) (tCons (tVar 2) (tNil)))) (tCons (tNegI (He.ga K "Run") (toSp K (sp_Run___neg__ K)) (WE W) (tVar 2)) (tCons (tVar 4) (tNil))))) (gName 10))
    (tRet (tAndV (tOp (rEqA K) (tMethA (He.ga K "Run") "steps" (toSp K (sp_Run_steps K)) [] (WE W) (tVar 9) tNil) (tVar 8)) (tOp (rEqA K) (tMethA (He.ga K "Run") "steps" (toSp K (sp_Run_steps K)) [] (WE W) (tVar 10) tNil) (tRevL K (tVar 8))))))))))
abbrev N_Run___len__ : List Str := ["self"]
def t_Run___len__ (K : PySem.W.Frag) (W : WX) : TS :=
  tRet (tCB (rLenA K) (tCons (tFld K (tVar 0) "_swaps") (tNil)))
structure FT_Run___len__ (K : PySem.W.Frag) : Prop where
  C_Run : Cls K (He.ga K "Run")
  na_Run__swaps : NoAttr K (He.ga K "Run") "_swaps"
abbrev N_State___sub__ : List Str := ["self", "key", "first", "second", "third", "order", "other"]
def t_State___sub__ (K : PySem.W.Frag) (W : WX) : TS :=
  tSeq (tDrop (tCallSD (toSp K (sp_require_key K)) [] (WE W) (tCons (tOp (rIxLT K) (tFld K (tVar 0) "_places") (tC (.int 0))) (tCons (tVar 1) (tNil)))))
    (tSeq (tAsg (tLc (iList K (tFld K (tVar 0) "_lists")) (gName 5) (tYes) (tLc (iList K (tVar 5)) (gName 6) (tTest (tOp (rNeA K) (tVar 6) (tVar 1))) (tVar 6) [6]) [5]) (gLst K 3 (gCons (gName 2) (gCons (gName 3) (gCons (gName 4) (gNil))))))
    (tRet (tMakeA (He.ga K "State") (toSp K (sp_State___init__ K)) [] (WE W) (tCons (tVar 2) (tCons (tVar 3) (tCons (tVar 4) (tNil)))))))
structure FT_State___sub__ (K : PySem.W.Frag) : Prop where
  C_State : Cls K (He.ga K "State")
  na_State__lists : NoAttr K (He.ga K "State") "_lists"
  na_State__places : NoAttr K (He.ga K "State") "_places"
abbrev N__law_silent : List Str := ["_law_lists", "_law_h", "_law_i", "_law_x", "_law_y", "_law_one", "_law_two"]
def t__law_silent (K : PySem.W.Frag) (W : WX) : TS :=
  tSeq (tAsg (tOp (rIxLT K) (tOp (rIxLT K) (tVar 0) (tVar 1)) (tVar 2)) (gName 3))
    (tSeq (tAsg (tOp (rIxLT K) (tOp (rIxLT K) (tVar 0) (tVar 1)) (tOp rAddA (tVar 2) (tC (.int 1)))) (gName 4))
    (tSeq (tAsg (tOp (rIxLT K) (tVar 0) (tOp rModA (tCB (rIntA) (tCons (tOp rAddA (tVar 1) (tC (.int 1))) (tNil))) (tC (.int 3)))) (gName 5))
    (tSeq (tAsg (tOp (rIxLT K) (tVar 0) (tOp rModA (tCB (rIntA) (tCons (tOp rAddA (tVar 1) (tC (.int 2))) (tNil))) (tC (.int 3)))) (gName 6))
    (tRet (tOp (rEqA K) (tOp rLtA (tBM K "list" (rIndex K) (tVar 5) (tCons (tVar 3) (tNil))) (tBM K "list" (rIndex K) (tVar 5) (tCons (tVar 4) (tNil)))) (tOp rLtA (tBM K "list" (rIndex K) (tVar 6) (tCons (tVar 3) (tNil))) (tBM K "list" (rIndex K) (tVar 6) (tCons (tVar 4) (tNil)))))))))
abbrev N__law_swapped : List Str := ["_law_lists", "_law_h", "_law_i", "_law_now", "_law_order_here"]
def t__law_swapped (K : PySem.W.Frag) (W : WX) : TS :=
  tSeq (tAsg (tLc (iList K (tVar 0)) (gName 4) (tYes) (tCB (rListA K) (tCons (tVar 4) (tNil))) [4]) (gName 3))
    (tSeq (tAsg (tOp rAddA (tOp rAddA (L2.tSl (rSlL K) (tOp (rIxLT K) (tVar 3) (tVar 1)) (tNoPart) (tPart (tVar 2))) (tLst (tCons (tOp (rIxLT K) (tOp (rIxLT K) (tVar 3) (tVar 1)) (tOp rAddA (tVar 2) (tC (.int 1)))) (tCons (tOp (rIxLT K) (tOp (rIxLT K) (tVar 3) (tVar 1)) (tVar 2)) (tNil))))) (L2.tSl (rSlL K) (tOp (rIxLT K) (tVar 3) (tVar 1)) (tPart (tOp rAddA (tVar 2) (tC (.int 2)))) (tNoPart))) (gSub (tVar 3) (tVar 1) rSetL))
    (tRet (tVar 3)))
abbrev N__law_pairs : List Str := ["_law_lists", "_law_steps_here", "_law_now", "_law_pairs_here", "_law_swap", "_law_h", "_law_i"]
def t__law_pairs (K : PySem.W.Frag) (W : WX) : TS :=
  tSeq (tAsg (tVar 0) (gName 2))
    (tSeq (tAsg (tLst (tNil)) (gName 3))
    (tSeq (tFor (iList K (tVar 1)) (gName 4) (tSeq (tAsg (tOp (rIxLT K) (tVar 4) (tC (.int 0))) (gName 5))
    (tSeq (tAsg (tOp (rIxLT K) (tVar 4) (tC (.int 1))) (gName 6))
    (tSeq (tIfS (tOr (tNot (tTest (tChain rLeA rLtA (tC (.int 0)) (tVar 5) (tC (.int 3))))) (tNot (tTest (tChain rLeA rLtA (tC (.int 0)) (tVar 6) (tOp rSubA (tCB (rLenA K) (tCons (tOp (rIxLT K) (tVar 2) (tC (.int 0))) (tNil))) (tC (.int 1))))))) (tRet (tC .non)) (tNext))
    (tSeq (tIfS (tNot (tTru K (tCallSD (toSp K (sp__law_silent K)) [] (WE W) (tCons (tVar 2) (tCons (tVar 5) (tCons (tVar 6) (tNil))))))) (tRet (tC .non)) (tNext))
    (tSeq (tDrop (tBM K "list" rAppend (tVar 3) (tCons (tTup (tCons (tVar 5) (tCons (tOp (rIxLT K) (tOp (rIxLT K) (tVar 2) (tVar 5)) (tVar 6)) (tCons (tOp (rIxLT K) (tOp (rIxLT K) (tVar 2) (tVar 5)) (tOp rAddA (tVar 6) (tC (.int 1)))) (tNil))))) (tNil))))
    (tAsg (tCallSD (toSp K (sp__law_swapped K)) [] (WE W) (tCons (tVar 2) (tCons (tVar 5) (tCons (tVar 6) (tNil))))) (gName 2))))))))
    (tRet (tLst (tCons (tVar 3) (tCons (tVar 2) (tNil)))))))
abbrev N__law_whole : List Str := ["_law_value"]
def t__law_whole (K : PySem.W.Frag) (W : WX) : TS :=
  tRet (tAndV (tCB (rIsi K) (tCons (tVar 0) (tCons (tC (.ty "int")) (tNil)))) (tNotV (tCB (rIsi K) (tCons (tVar 0) (tCons (tC (.ty "bool")) (tNil))))))
abbrev N__law_steps : List Str := ["_law_run", "_law_told", "_law_swap"]
def t__law_steps (K : PySem.W.Frag) (W : WX) : TS :=
  tSeq (tIfS (tNot (tTru K (tCB (rIsC (He.ga K "Run")) (tCons (tVar 0) (tCons (tC (.ref (He.ga K "Run"))) (tNil)))))) (tRet (tC .non)) (tNext))
    (tSeq (tAsg (tMethA (He.ga K "Run") "steps" (toSp K (sp_Run_steps K)) [] (WE W) (tVar 0) tNil) (gName 1))
    (tSeq (tIfS (tNot (tTru K (tCB (rIsi K) (tCons (tVar 1) (tCons (tC (.ty "list")) (tNil)))))) (tRet (tC .non)) (tNext))
    (tSeq (tFor (iList K (tVar 1)) (gName 2) (tSeq (tIfS (tOr (tNot (tTru K (tCB (rIsi K) (tCons (tVar 2) (tCons (tC (.ty "tuple")) (tNil)))))) (tTest (tOp (rNeA K) (tCB (rLenA K) (tCons (tVar 2) (tNil))) (tC (.int 2))))) (tRet (tC .non)) (tNext))
    (tIfS (tOr (tNot (tTru K (tCallSD (toSp K (sp__law_whole K)) [] (WE W) (tCons (tOp (rIxLT K) (tVar 2) (tC (.int 0))) (tNil))))) (tNot (tTru K (tCallSD (toSp K (sp__law_whole K)) [] (WE W) (tCons (tOp (rIxLT K) (tVar 2) (tC (.int 1))) (tNil)))))) (tRet (tC .non)) (tNext))))
    (tRet (tVar 1)))))
abbrev N__law_without : List Str := ["_law_lists", "_law_key", "_law_rows", "_law_order_here", "_law_other"]
def t__law_without (K : PySem.W.Frag) (W : WX) : TS :=
  tSeq (tAsg (tLst (tNil)) (gName 2))
    (tSeq (tFor (iList K (tVar 0)) (gName 3) (tDrop (tBM K "list" rAppend (tVar 2) (tCons (tLc (iList K (tVar 3)) (gName 4) (tTest (tOp (rNeA K) (tVar 4) (tVar 1))) (tVar 4) [4]) (tNil)))))
    (tRet (tVar 2)))
abbrev N__law_key_out : List Str := ["_law_state_here", "_law_run", "_law_lists", "_law_steps_here", "_law_key", "_law_whole_here", "_law_got", "_law_told", "_law_less", "_law_rest", "_law_kept", "_law_step", "_law_end", "_law_small"]
def t__law_key_out (K : PySem.W.Frag) (W : WX) : TS :=
  tSeq (tAsg (tCallSD (toSp K (sp__law_pairs K)) [] (WE W) (tCons (tVar 2) (tCons (tVar 3) (tNil)))) (gName 5))
    (tSeq (tAsg (tCallSD (toSp K (sp_project_run K)) [] (WE W) (tCons (tVar 0) (tCons (tVar 1) (tCons (tVar 4) (tNil))))) (gName 6))
    (tSeq (tAsg (tCallSD (toSp K (sp__law_steps K)) [] (WE W) (tCons (tVar 6) (tNil))) (gName 7))
    (tSeq (tIfS (tOr (tTest (tOp rIsN (tVar 5) (tC .non))) (tTest (tOp rIsN (tVar 7) (tC .non)))) (tRet (tC (.bl false))) (tNext))
    (tSeq (tAsg (tCallSD (toSp K (sp__law_without K)) [] (WE W) (tCons (tVar 2) (tCons (tVar 4) (tNil)))) (gName 8))
    (tSeq (tAsg (tCallSD (toSp K (sp__law_pairs K)) [] (WE W) (tCons (tVar 8) (tCons (tVar 7) (tNil)))) (gName 9))
    (tSeq (tIfS (tTest (tOp rIsN (tVar 9) (tC .non))) (tRet (tC (.bl false))) (tNext))
    (tSeq (tAsg (tLst (tNil)) (gName 10))
    (tSeq (tFor (iList K (tOp (rIxLT K) (tVar 5) (tC (.int 0)))) (gName 11) (tIfS (tAnd (tTest (tOp (rNeA K) (tOp (rIxLT K) (tVar 11) (tC (.int 1))) (tVar 4))) (tTest (tOp (rNeA K) (tOp (rIxLT K) (tVar 11) (tC (.int 2))) (tVar 4)))) (tDrop (tBM K "list" rAppend (tVar 10) (tCons (tVar 11) (tNil)))) (tNext)))
    (tSeq (tAsg (tCallSD (toSp K (sp__law_without K)) [] (WE W) (tCons (tOp (rIxLT K) (tVar 5) (tC (.int 1))) (tCons (tVar 4) (tNil)))) (gName 12))
    (tSeq (tIfS (tOr (tTest (tOp (rNeA K) (tOp (rIxLT K) (tVar 9) (tC (.int 0))) (tVar 10))) (tTest (tOp (rNeA K) (tOp (rIxLT K) (tVar 9) (tC (.int 1))) (tVar 12)))) (tRet (tC (.bl false))) (tNext))
    (tSeq (tAsg (tBinN (He.ga K "State") (toSp K (sp_State___sub__ K)) (WE W) (tVar 0) (tVar 4)) (gName 13))
    (tSeq (tIfS (tOr (tNot (tTru K (tCB (rIsC (He.ga K "State")) (tCons (tVar 13) (tCons (tC (.ref (He.ga K "State"))) (tNil)))))) (tTest (tOp (rNeA K) (tMethA (He.ga K "State") "lists" (toSp K (sp_State_lists K)) [] (WE W) (tVar 13) tNil) (tVar 8)))) (tRet (tC (.bl false))) (tNext))
    (tSeq (tDrop (tBM K "list" rAppend (tVar 7) (tCons (tTup (tCons (tC (.int 0)) (tCons (tC (.int 0)) (tNil)))) (tNil))))
    (tSeq (tIfS (tOr (tTest (tOp (rNeA K) (tMethA (He.ga K "Run") "steps" (toSp K (sp_Run_steps K)) [] (WE W) (tVar 6) tNil) (L2.tSl (rSlL K) (tVar 7) (tNoPart) (tPart (tUn rNegA (tC (.int 1))))))) (tTest (tOp (rNeA K) (tCB (rLenI (He.ga K "Run") (toSp K (sp_Run___len__ K))) (tCons (tVar 6) (tNil))) (tCB (rLenA K) (tCons (tVar 10) (tNil)))))) (tRet (tC (.bl false))) (tNext))
    (tRet (tAndV (tOp (rEqA K) (tMethA (He.ga K "State") "lists" (toSp K (sp_State_lists K)) [] (WE W) (tCallSD (toSp K (sp_play K)) [] (WE W) (tCons (tVar 13) (tCons (tVar 6) (tNil)))) tNil) (tVar 12)) (tOp (rEqA K) (tMethA (He.ga K "State") "lists" (toSp K (sp_State_lists K)) [] (WE W) (tBinN (He.ga K "State") (toSp K (sp_State___sub__ K)) (WE W) (tCallSD (toSp K (sp_play K)) [] (WE W) (tCons (tVar 0) (tCons (tVar 1) (tNil)))) (tVar 4)) tNil) (tVar 12))))))))))))))))))
abbrev N__law_made : List Str := ["_law_lists"]
def t__law_made (K : PySem.W.Frag) (W : WX) : TS :=
  tRet (tMakeA (He.ga K "State") (toSp K (sp_State___init__ K)) [] (WE W) (tCons (tCB (rListA K) (tCons (tOp (rIxLT K) (tVar 0) (tC (.int 0))) (tNil))) (tCons (tCB (rListA K) (tCons (tOp (rIxLT K) (tVar 0) (tC (.int 1))) (tNil))) (tCons (tCB (rListA K) (tCons (tOp (rIxLT K) (tVar 0) (tC (.int 2))) (tNil))) (tNil)))))
abbrev N__law_answer : List Str := ["_law_state_here", "_law_run", "_law_key", "raised"]
def tl__law_answer_0 (K : PySem.W.Frag) : List PyT.Cl :=
    [(.ref (He.ga K "UnknownKey"), 3, (fun ea ecls ed => tRet (tTup (tCons (tC (.str "unknown")) (tCons (tXf ea ecls ed (He.ga K "UnknownKey") "key" (tVar 3)) (tCons (tCB (rIsX K ea ecls ed) (tCons (tVar 3) (tCons (tC (.ref (He.ga K "DriftError"))) (tNil)))) (tNil))))))),
    (.ref (He.ga K "InvalidSwap"), 3, (fun ea ecls ed => tRet (tTup (tCons (tC (.str "invalid")) (tCons (tXf ea ecls ed (He.ga K "InvalidSwap") "step" (tVar 3)) (tCons (tCB (rIsX K ea ecls ed) (tCons (tVar 3) (tCons (tC (.ref (He.ga K "DriftError"))) (tNil)))) (tNil))))))),
    (.ref (He.ga K "AudibleSwap"), 3, (fun ea ecls ed => tRet (tTup (tCons (tC (.str "audible")) (tCons (tXf ea ecls ed (He.ga K "AudibleSwap") "step" (tVar 3)) (tCons (tCB (rIsX K ea ecls ed) (tCons (tVar 3) (tCons (tC (.ref (He.ga K "DriftError"))) (tNil)))) (tNil)))))))]
def t__law_answer (K : PySem.W.Frag) (W : WX) : TS :=
  tSeq (tTry K W (tl__law_answer_0 K) (fun W1 => tDrop (tCallSD (toSp K (sp_project_run K)) [] (WE W1) (tCons (tVar 0) (tCons (tVar 1) (tCons (tVar 2) (tNil)))))))
    (tRet (tTup (tCons (tC (.str "none")) (tNil))))
structure FT__law_answer (K : PySem.W.Frag) : Prop where
  exm_AudibleSwap_AudibleSwap : PySem.W.exmOne K (.ref (He.ga K "AudibleSwap")) (.ref (He.ga K "AudibleSwap")) = some true
  exm_AudibleSwap_InvalidSwap : PySem.W.exmOne K (.ref (He.ga K "AudibleSwap")) (.ref (He.ga K "InvalidSwap")) = some false
  exm_AudibleSwap_UnknownKey : PySem.W.exmOne K (.ref (He.ga K "AudibleSwap")) (.ref (He.ga K "UnknownKey")) = some false
  exm_InvalidList_AudibleSwap : PySem.W.exmOne K (.ref (He.ga K "InvalidList")) (.ref (He.ga K "AudibleSwap")) = some false
  exm_InvalidList_InvalidSwap : PySem.W.exmOne K (.ref (He.ga K "InvalidList")) (.ref (He.ga K "InvalidSwap")) = some false
  exm_InvalidList_UnknownKey : PySem.W.exmOne K (.ref (He.ga K "InvalidList")) (.ref (He.ga K "UnknownKey")) = some false
  exm_InvalidState_AudibleSwap : PySem.W.exmOne K (.ref (He.ga K "InvalidState")) (.ref (He.ga K "AudibleSwap")) = some false
  exm_InvalidState_InvalidSwap : PySem.W.exmOne K (.ref (He.ga K "InvalidState")) (.ref (He.ga K "InvalidSwap")) = some false
  exm_InvalidState_UnknownKey : PySem.W.exmOne K (.ref (He.ga K "InvalidState")) (.ref (He.ga K "UnknownKey")) = some false
  exm_InvalidSwap_AudibleSwap : PySem.W.exmOne K (.ref (He.ga K "InvalidSwap")) (.ref (He.ga K "AudibleSwap")) = some false
  exm_InvalidSwap_InvalidSwap : PySem.W.exmOne K (.ref (He.ga K "InvalidSwap")) (.ref (He.ga K "InvalidSwap")) = some true
  exm_InvalidSwap_UnknownKey : PySem.W.exmOne K (.ref (He.ga K "InvalidSwap")) (.ref (He.ga K "UnknownKey")) = some false
  exm_UnknownKey_AudibleSwap : PySem.W.exmOne K (.ref (He.ga K "UnknownKey")) (.ref (He.ga K "AudibleSwap")) = some false
  exm_UnknownKey_InvalidSwap : PySem.W.exmOne K (.ref (He.ga K "UnknownKey")) (.ref (He.ga K "InvalidSwap")) = some false
  exm_UnknownKey_UnknownKey : PySem.W.exmOne K (.ref (He.ga K "UnknownKey")) (.ref (He.ga K "UnknownKey")) = some true
  exm_UnknownReplica_AudibleSwap : PySem.W.exmOne K (.ref (He.ga K "UnknownReplica")) (.ref (He.ga K "AudibleSwap")) = some false
  exm_UnknownReplica_InvalidSwap : PySem.W.exmOne K (.ref (He.ga K "UnknownReplica")) (.ref (He.ga K "InvalidSwap")) = some false
  exm_UnknownReplica_UnknownKey : PySem.W.exmOne K (.ref (He.ga K "UnknownReplica")) (.ref (He.ga K "UnknownKey")) = some false
  kit_AudibleSwap_DriftError : PySem.W.kitOne K (.ref (He.ga K "AudibleSwap")) (.ref (He.ga K "DriftError")) = some true
  kit_InvalidList_DriftError : PySem.W.kitOne K (.ref (He.ga K "InvalidList")) (.ref (He.ga K "DriftError")) = some true
  kit_InvalidState_DriftError : PySem.W.kitOne K (.ref (He.ga K "InvalidState")) (.ref (He.ga K "DriftError")) = some true
  kit_InvalidSwap_DriftError : PySem.W.kitOne K (.ref (He.ga K "InvalidSwap")) (.ref (He.ga K "DriftError")) = some true
  kit_UnknownKey_DriftError : PySem.W.kitOne K (.ref (He.ga K "UnknownKey")) (.ref (He.ga K "DriftError")) = some true
  kit_UnknownReplica_DriftError : PySem.W.kitOne K (.ref (He.ga K "UnknownReplica")) (.ref (He.ga K "DriftError")) = some true
  x_AudibleSwap : PyH.ExC2 K (He.ga K "AudibleSwap") "step"
  x_InvalidList : PyH.ExC2 K (He.ga K "InvalidList") "place"
  x_InvalidState : PyH.ExC2 K (He.ga K "InvalidState") "replica"
  x_InvalidSwap : PyH.ExC2 K (He.ga K "InvalidSwap") "step"
  x_UnknownKey : PyH.ExC2 K (He.ga K "UnknownKey") "key"
  x_UnknownReplica : PyH.ExC2 K (He.ga K "UnknownReplica") "replica"
abbrev N__law_bad_swap : List Str := ["_law_box_here", "_law_lists", "_law_loud", "_law_count", "_law_h", "_law_odd", "_law_i"]
def t__law_bad_swap (K : PySem.W.Frag) (W : WX) : TS :=
  tSeq (tAsg (tLst (tNil)) (gName 2))
    (tSeq (tAsg (tCB (rLenA K) (tCons (tOp (rIxLT K) (tVar 1) (tC (.int 0))) (tNil))) (gName 3))
    (tSeq (tFor (iRng1 (tCons (tC (.int 3)) (tNil))) (gName 4) (tFor (iRng1 (tCons (tOp rSubA (tVar 3) (tC (.int 1))) (tNil))) (gName 6) (tIfS (tNot (tTru K (tCallSD (toSp K (sp__law_silent K)) [] (WE W) (tCons (tVar 1) (tCons (tVar 4) (tCons (tVar 6) (tNil))))))) (tDrop (tBM K "list" rAppend (tVar 2) (tCons (tTup (tCons (tVar 4) (tCons (tVar 6) (tNil)))) (tNil)))) (tNext))))
    (tSeq (tIfS (tAnd (tTru K (tVar 2)) (tTest (tOp rGtA (tCallSD (toSp K (sp__law_take K)) [] (WE W) (tCons (tVar 0) (tCons (tC (.int 3)) (tNil)))) (tC (.int 0))))) (tRet (tLst (tCons (tOp (rIxLT K) (tVar 2) (tCallSD (toSp K (sp__law_take K)) [] (WE W) (tCons (tVar 0) (tCons (tCB (rLenA K) (tCons (tVar 2) (tNil))) (tNil))))) (tCons (tC (.str "audible")) (tNil))))) (tNext))
    (tSeq (tAsg (tCallSD (toSp K (sp__law_take K)) [] (WE W) (tCons (tVar 0) (tCons (tC (.int 3)) (tNil)))) (gName 4))
    (tSeq (tAsg (tLst (tCons (tTup (tCons (tC (.int 3)) (tCons (tC (.int 0)) (tNil)))) (tCons (tTup (tCons (tUn rNegA (tC (.int 1))) (tCons (tC (.int 0)) (tNil)))) (tCons (tTup (tCons (tVar 4) (tCons (tOp rSubA (tVar 3) (tC (.int 1))) (tNil)))) (tCons (tTup (tCons (tVar 4) (tCons (tUn rNegA (tC (.int 1))) (tNil)))) (tCons (tTup (tCons (tVar 4) (tCons (tOp rAddA (tVar 3) (tC (.int 7))) (tNil)))) (tNil))))))) (gName 5))
    (tRet (tLst (tCons (tOp (rIxLT K) (tVar 5) (tCallSD (toSp K (sp__law_take K)) [] (WE W) (tCons (tVar 0) (tCons (tC (.int 5)) (tNil))))) (tCons (tC (.str "invalid")) (tNil))))))))))
abbrev N__law_played : List Str := ["_law_lists", "_law_steps_here", "_law_now", "_law_swap"]
def t__law_played (K : PySem.W.Frag) (W : WX) : TS :=
  tSeq (tAsg (tVar 0) (gName 2))
    (tSeq (tFor (iList K (tVar 1)) (gName 3) (tAsg (tCallSD (toSp K (sp__law_swapped K)) [] (WE W) (tCons (tVar 2) (tCons (tOp (rIxLT K) (tVar 3) (tC (.int 0))) (tCons (tOp (rIxLT K) (tVar 3) (tC (.int 1))) (tNil))))) (gName 2)))
    (tRet (tVar 2)))
abbrev N__law_strange : List Str := ["_law_box_here", "_law_keys_here", "_law_strange_here", "_law_k"]
def t__law_strange (K : PySem.W.Frag) (W : WX) : TS :=
  tSeq (tAsg (tCallSD (toSp K (sp__law_take K)) [] (WE W) (tCons (tVar 0) (tCons (tC (.int 9000)) (tNil)))) (gName 2))
    (tSeq (tFor (iRng1 (tCons (tCB (rLenA K) (tCons (tVar 1) (tNil))) (tNil))) (gName 3) (tIfS (tTest (tOp (rIn K false) (tVar 2) (tVar 1))) (tAsg (tOp rAddA (tVar 2) (tC (.int 1))) (gName 2)) (tNext)))
    (tRet (tVar 2)))
abbrev N__law_refused : List Str := ["_law_box_here", "_law_state_here", "_law_run", "_law_lists", "_law_steps_here", "_law_keys_here", "_law_cut", "_law_bad", "_law_broken", "_law_strange_here", "_law_key"]
def t__law_refused (K : PySem.W.Frag) (W : WX) : TS :=
  tSeq (tAsg (tCallSD (toSp K (sp__law_take K)) [] (WE W) (tCons (tVar 0) (tCons (tOp rAddA (tCB (rLenA K) (tCons (tVar 4) (tNil))) (tC (.int 1))) (tNil)))) (gName 6))
    (tSeq (tAsg (tCallSD (toSp K (sp__law_bad_swap K)) [] (WE W) (tCons (tVar 0) (tCons (tCallSD (toSp K (sp__law_played K)) [] (WE W) (tCons (tVar 3) (tCons (L2.tSl (rSlL K) (tVar 4) (tNoPart) (tPart (tVar 6))) (tNil)))) (tNil)))) (gName 7))
    (tSeq (tAsg (tMakeA (He.ga K "Run") (toSp K (sp_Run___init__ K)) [] (WE W) (tCons (tOp rAddA (tOp rAddA (tCB (rListA K) (tCons (L2.tSl (rSlL K) (tVar 4) (tNoPart) (tPart (tVar 6))) (tNil))) (tLst (tCons (tOp (rIxLT K) (tVar 7) (tC (.int 0))) (tNil)))) (tCB (rListA K) (tCons (L2.tSl (rSlL K) (tVar 4) (tPart (tVar 6)) (tNoPart)) (tNil)))) (tNil))) (gName 8))
    (tSeq (tAsg (tCallSD (toSp K (sp__law_strange K)) [] (WE W) (tCons (tVar 0) (tCons (tVar 5) (tNil)))) (gName 9))
    (tSeq (tFor (iList K (tVar 5)) (gName 10) (tIfS (tTest (tOp (rNeA K) (tCallSD (toSp K (sp__law_answer K)) [] (WE W) (tCons (tVar 1) (tCons (tVar 8) (tCons (tVar 10) (tNil))))) (tTup (tCons (tOp (rIxLT K) (tVar 7) (tC (.int 1))) (tCons (tVar 6) (tCons (tC (.bl true)) (tNil))))))) (tRet (tC (.bl false))) (tNext)))
    (tSeq (tIfS (tTest (tOp (rNeA K) (tCallSD (toSp K (sp__law_answer K)) [] (WE W) (tCons (tVar 1) (tCons (tVar 8) (tCons (tVar 9) (tNil))))) (tTup (tCons (tC (.str "unknown")) (tCons (tVar 9) (tCons (tC (.bl true)) (tNil))))))) (tRet (tC (.bl false))) (tNext))
    (tRet (tOp (rEqA K) (tCallSD (toSp K (sp__law_answer K)) [] (WE W) (tCons (tVar 1) (tCons (tVar 2) (tCons (tVar 9) (tNil))))) (tTup (tCons (tC (.str "unknown")) (tCons (tVar 9) (tCons (tC (.bl true)) (tNil))))))))))))
abbrev N__law_put_in : List Str := ["_law_box_here", "_law_lists", "_law_key", "_law_together", "_law_spot", "_law_row"]
def t__law_put_in (K : PySem.W.Frag) (W : WX) : TS :=
  tSeq (tAsg (tCallSD (toSp K (sp__law_take K)) [] (WE W) (tCons (tVar 0) (tCons (tC (.int 2)) (tNil)))) (gName 3))
    (tSeq (tAsg (tCallSD (toSp K (sp__law_take K)) [] (WE W) (tCons (tVar 0) (tCons (tOp rAddA (tCB (rLenA K) (tCons (tOp (rIxLT K) (tVar 1) (tC (.int 0))) (tNil))) (tC (.int 1))) (tNil)))) (gName 4))
    (tFor (iList K (tVar 1)) (gName 5) (tSeq (tIfS (tTest (tOp (rEqA K) (tVar 3) (tC (.int 0)))) (tAsg (tCallSD (toSp K (sp__law_take K)) [] (WE W) (tCons (tVar 0) (tCons (tOp rAddA (tCB (rLenA K) (tCons (tVar 5) (tNil))) (tC (.int 1))) (tNil)))) (gName 4)) (tNext))
    (tDrop (tBM K "list" rInsert (tVar 5) (tCons (tVar 4) (tCons (tVar 2) (tNil))))))))
abbrev N__law_ways : List Str := ["_law_lists", "_law_lot", "_law_ways_here", "_law_h", "_law_i"]
def t__law_ways (K : PySem.W.Frag) (W : WX) : TS :=
  tSeq (tAsg (tLst (tNil)) (gName 2))
    (tSeq (tFor (iTup K (tVar 1)) (gName 3) (tFor (iRng1 (tCons (tOp rSubA (tCB (rLenA K) (tCons (tOp (rIxLT K) (tVar 0) (tC (.int 0))) (tNil))) (tC (.int 1))) (tNil))) (gName 4) (tIfS (tTru K (tCallSD (toSp K (sp__law_silent K)) [] (WE W) (tCons (tVar 0) (tCons (tVar 3) (tCons (tVar 4) (tNil)))))) (tDrop (tBM K "list" rAppend (tVar 2) (tCons (tTup (tCons (tVar 3) (tCons (tVar 4) (tNil)))) (tNil)))) (tNext))))
    (tRet (tVar 2)))
abbrev N__law_walk : List Str := ["_law_box_here", "_law_lists", "_law_count", "_law_lot", "_law_now", "_law_steps_here", "_law_k", "_law_ways_here", "_law_swap"]
def t__law_walk (K : PySem.W.Frag) (W : WX) : TS :=
  tSeq (tAsg (tVar 1) (gName 4))
    (tSeq (tAsg (tLst (tNil)) (gName 5))
    (tSeq (tFor (iRng1 (tCons (tVar 2) (tNil))) (gName 6) (tSeq (tAsg (tCallSD (toSp K (sp__law_ways K)) [] (WE W) (tCons (tVar 4) (tCons (tVar 3) (tNil)))) (gName 7))
    (tSeq (tIfS (tNot (tTru K (tVar 7))) (tBreak) (tNext))
    (tSeq (tAsg (tOp (rIxLT K) (tVar 7) (tCallSD (toSp K (sp__law_take K)) [] (WE W) (tCons (tVar 0) (tCons (tCB (rLenA K) (tCons (tVar 7) (tNil))) (tNil))))) (gName 8))
    (tSeq (tDrop (tBM K "list" rAppend (tVar 5) (tCons (tVar 8) (tNil))))
    (tAsg (tCallSD (toSp K (sp__law_swapped K)) [] (WE W) (tCons (tVar 4) (tCons (tOp (rIxLT K) (tVar 8) (tC (.int 0))) (tCons (tOp (rIxLT K) (tVar 8) (tC (.int 1))) (tNil))))) (gName 4)))))))
    (tRet (tVar 5))))
abbrev N__law_state : List Str := ["_law_box_here", "_law_keys_here", "_law_way", "_law_base", "_law_lists", "_law_steps_here", "_law_key", "_law_k"]
def t__law_state (K : PySem.W.Frag) (W : WX) : TS :=
  tSeq (tAsg (tCallSD (toSp K (sp__law_take K)) [] (WE W) (tCons (tVar 0) (tCons (tC (.int 4)) (tNil)))) (gName 2))
    (tSeq (tIfS (tTest (tOp (rEqA K) (tVar 2) (tC (.int 0)))) (tRet (tLc (iRng1 (tCons (tC (.int 3)) (tNil))) (gName 7) (tYes) (tCallSD (toSp K (sp__law_order K)) [] (fun _ => E0) (tCons (tVar 0) (tCons (tVar 1) (tNil)))) [7])) (tNext))
    (tSeq (tAsg (tCallSD (toSp K (sp__law_order K)) [] (WE W) (tCons (tVar 0) (tCons (tVar 1) (tNil)))) (gName 3))
    (tSeq (tAsg (tLc (iRng1 (tCons (tC (.int 3)) (tNil))) (gName 7) (tYes) (tCB (rListA K) (tCons (tVar 3) (tNil))) [7]) (gName 4))
    (tSeq (tIfS (tAnd (tTest (tOp rGtA (tVar 2) (tC (.int 1)))) (tTest (tOp rGtA (tCB (rLenA K) (tCons (tVar 3) (tNil))) (tC (.int 2))))) (tSeq (tAsg (tLst (tCons (L2.tSl (rSlL K) (tVar 3) (tNoPart) (tPart (tC (.int 3)))) (tCons (tOp rAddA (L2.tSl (rSlL K) (tVar 3) (tPart (tC (.int 1))) (tPart (tC (.int 3)))) (L2.tSl (rSlL K) (tVar 3) (tNoPart) (tPart (tC (.int 1))))) (tCons (tOp rAddA (L2.tSl (rSlL K) (tVar 3) (tPart (tC (.int 2))) (tPart (tC (.int 3)))) (L2.tSl (rSlL K) (tVar 3) (tNoPart) (tPart (tC (.int 2))))) (tNil))))) (gName 4))
    (tFor (iList K (L2.tSl (rSlL K) (tVar 3) (tPart (tC (.int 3))) (tNoPart))) (gName 6) (tDrop (tCallSD (toSp K (sp__law_put_in K)) [] (WE W) (tCons (tVar 0) (tCons (tVar 4) (tCons (tVar 6) (tNil)))))))) (tNext))
    (tSeq (tAsg (tCallSD (toSp K (sp__law_walk K)) [] (WE W) (tCons (tVar 0) (tCons (tVar 4) (tCons (tCallSD (toSp K (sp__law_take K)) [] (WE W) (tCons (tVar 0) (tCons (tC (.int 13)) (tNil)))) (tCons (tTup (tCons (tC (.int 0)) (tCons (tC (.int 1)) (tCons (tC (.int 2)) (tNil))))) (tNil)))))) (gName 5))
    (tRet (tCallSD (toSp K (sp__law_played K)) [] (WE W) (tCons (tVar 4) (tCons (tVar 5) (tNil))))))))))
abbrev N__law_two_out : List Str := ["_law_state_here", "_law_run", "_law_lists", "_law_steps_here", "_law_a", "_law_b", "_law_one", "_law_two", "_law_told", "_law_whole_here", "_law_rest"]
def t__law_two_out (K : PySem.W.Frag) (W : WX) : TS :=
  tSeq (tAsg (tCallSD (toSp K (sp_project_run K)) [] (WE W) (tCons (tBinN (He.ga K "State") (toSp K (sp_State___sub__ K)) (WE W) (tVar 0) (tVar 4)) (tCons (tCallSD (toSp K (sp_project_run K)) [] (WE W) (tCons (tVar 0) (tCons (tVar 1) (tCons (tVar 4) (tNil))))) (tCons (tVar 5) (tNil))))) (gName 6))
    (tSeq (tAsg (tCallSD (toSp K (sp_project_run K)) [] (WE W) (tCons (tBinN (He.ga K "State") (toSp K (sp_State___sub__ K)) (WE W) (tVar 0) (tVar 5)) (tCons (tCallSD (toSp K (sp_project_run K)) [] (WE W) (tCons (tVar 0) (tCons (tVar 1) (tCons (tVar 5) (tNil))))) (tCons (tVar 4) (tNil))))) (gName 7))
    (tSeq (tAsg (tCallSD (toSp K (sp__law_steps K)) [] (WE W) (tCons (tVar 6) (tNil))) (gName 8))
    (tSeq (tAsg (tCallSD (toSp K (sp__law_pairs K)) [] (WE W) (tCons (tVar 2) (tCons (tVar 3) (tNil)))) (gName 9))
    (tSeq (tIfS (tOr (tTest (tOp rIsN (tVar 8) (tC .non))) (tOr (tTest (tOp rIsN (tVar 9) (tC .non))) (tTest (tOp (rNeA K) (tMethA (He.ga K "Run") "steps" (toSp K (sp_Run_steps K)) [] (WE W) (tVar 7) tNil) (tVar 8))))) (tRet (tC (.bl false))) (tNext))
    (tSeq (tAsg (tCallSD (toSp K (sp__law_pairs K)) [] (WE W) (tCons (tCallSD (toSp K (sp__law_without K)) [] (WE W) (tCons (tCallSD (toSp K (sp__law_without K)) [] (WE W) (tCons (tVar 2) (tCons (tVar 4) (tNil)))) (tCons (tVar 5) (tNil)))) (tCons (tVar 8) (tNil)))) (gName 10))
    (tSeq (tIfS (tTest (tOp rIsN (tVar 10) (tC .non))) (tRet (tC (.bl false))) (tNext))
    (tRet (tOp (rEqA K) (tOp (rIxLT K) (tVar 10) (tC (.int 1))) (tCallSD (toSp K (sp__law_without K)) [] (WE W) (tCons (tCallSD (toSp K (sp__law_without K)) [] (WE W) (tCons (tOp (rIxLT K) (tVar 9) (tC (.int 1))) (tCons (tVar 4) (tNil)))) (tCons (tVar 5) (tNil))))))))))))
abbrev N_law_v2 : List Str := ["_law_script", "_law_box_here", "_law_count", "_law_keys_here", "_law_lists", "_law_steps_here", "_law_state_here", "_law_run", "_law_key"]
def t_law_v2 (K : PySem.W.Frag) (W : WX) : TS :=
  tSeq (tAsg (tCallSD (toSp K (sp__law_box K)) [] (WE W) (tCons (tVar 0) (tNil))) (gName 1))
    (tSeq (tAsg (tOp rAddA (tC (.int 3)) (tCallSD (toSp K (sp__law_take K)) [] (WE W) (tCons (tVar 1) (tCons (tC (.int 3)) (tNil))))) (gName 2))
    (tSeq (tIfS (tTest (tOp (rEqA K) (tCallSD (toSp K (sp__law_take K)) [] (WE W) (tCons (tVar 1) (tCons (tC (.int 8)) (tNil)))) (tC (.int 7)))) (tAsg (tOp rAddA (tC (.int 1)) (tCallSD (toSp K (sp__law_take K)) [] (WE W) (tCons (tVar 1) (tCons (tC (.int 8)) (tNil))))) (gName 2)) (tNext))
    (tSeq (tAsg (tCallSD (toSp K (sp__law_keys K)) [] (WE W) (tCons (tVar 1) (tCons (tVar 2) (tNil)))) (gName 3))
    (tSeq (tAsg (tCallSD (toSp K (sp__law_state K)) [] (WE W) (tCons (tVar 1) (tCons (tVar 3) (tNil)))) (gName 4))
    (tSeq (tAsg (tCallSD (toSp K (sp__law_walk K)) [] (WE W) (tCons (tVar 1) (tCons (tVar 4) (tCons (tCallSD (toSp K (sp__law_take K)) [] (WE W) (tCons (tVar 1) (tCons (tC (.int 25)) (tNil)))) (tCons (tTup (tCons (tC (.int 0)) (tCons (tC (.int 1)) (tCons (tC (.int 2)) (tNil))))) (tNil)))))) (gName 5))
    (tSeq (tAsg (tCallSD (toSp K (sp__law_made K)) [] (WE W) (tCons (tVar 4) (tNil))) (gName 6))
    (tSeq (tAsg (tMakeA (He.ga K "Run") (toSp K (sp_Run___init__ K)) [] (WE W) (tCons (tCB (rListA K) (tCons (tVar 5) (tNil))) (tNil))) (gName 7))
    (tSeq (tFor (iList K (tVar 3)) (gName 8) (tIfS (tNot (tTru K (tCallSD (toSp K (sp__law_key_out K)) [] (WE W) (tCons (tVar 6) (tCons (tVar 7) (tCons (tVar 4) (tCons (tVar 5) (tCons (tVar 8) (tNil))))))))) (tRet (tC (.bl false))) (tNext)))
    (tSeq (tIfS (tNot (tTru K (tCallSD (toSp K (sp__law_cut_run K)) [] (WE W) (tCons (tVar 1) (tCons (tVar 6) (tCons (tVar 7) (tCons (tVar 5) (tCons (tOp (rIxLT K) (tVar 3) (tCallSD (toSp K (sp__law_take K)) [] (WE W) (tCons (tVar 1) (tCons (tVar 2) (tNil))))) (tNil))))))))) (tRet (tC (.bl false))) (tNext))
    (tSeq (tIfS (tAnd (tTest (tOp rGtA (tVar 2) (tC (.int 1)))) (tNot (tTru K (tCallSD (toSp K (sp__law_two_out K)) [] (WE W) (tCons (tVar 6) (tCons (tVar 7) (tCons (tVar 4) (tCons (tVar 5) (tCons (tOp (rIxLT K) (tVar 3) (tC (.int 0))) (tCons (tOp (rIxLT K) (tVar 3) (tC (.int 1))) (tNil))))))))))) (tRet (tC (.bl false))) (tNext))
    (tSeq (tIfS (tNot (tTru K (tCallSD (toSp K (sp__law_refused K)) [] (WE W) (tCons (tVar 1) (tCons (tVar 6) (tCons (tVar 7) (tCons (tVar 4) (tCons (tVar 5) (tCons (tVar 3) (tNil)))))))))) (tRet (tC (.bl false))) (tNext))
    (tRet (tAndV (tOp (rEqA K) (tMethA (He.ga K "State") "lists" (toSp K (sp_State_lists K)) [] (WE W) (tVar 6) tNil) (tVar 4)) (tOp (rEqA K) (tMethA (He.ga K "Run") "steps" (toSp K (sp_Run_steps K)) [] (WE W) (tVar 7) tNil) (tVar 5)))))))))))))))
section
variable {K : PySem.W.Frag} {W : WX} {ds : List D} {O : Ow} {k : Kk} {x : Xk}
theorem Sm.perm {a b : List Int} (h : Sm a) (p : b.Perm a) : Sm b := ⟨by rw [p.length_eq]; exact h.1, fun z hz => h.2 z (p.mem_iff.mp hz)⟩
theorem mem_getD {a : List Int} {i : Nat} (h : i < a.length) : a.getD i 0 ∈ a := by
  rw [List.getD_eq_getElem?_getD, List.getElem?_eq_getElem h]
  exact List.getElem_mem h
theorem Sm.set {a : List Int} {i : Nat} {z : Int} (h : Sm a) (hz : -1000000 ≤ z ∧ z ≤ 1000000) : Sm (a.set i z) := ⟨by rw [List.length_set]; exact h.1, fun y hy => by
  rcases List.mem_or_eq_of_mem_set hy with hy | rfl
  · exact h.2 y hy
  · exact hz⟩
theorem Sm.exch {a : List Int} {i : Nat} (h : Sm a) (hi : i + 1 < a.length) : Sm (exch a i) := (h.set (h.2 _ (mem_getD hi))).set (h.2 _ (mem_getD (by omega)))
end
section
variable {K : PySem.W.Frag} {W : WX} {ds : List D} {O : Ow} {k : Kk} {x : Xk}
theorem w_first_wrong_place (h : sp_first_wrong_place K ds O k x) (lo : ∀ p ∈ O, p.loc = false) : wpS K W (fun e _ O' => x e O') (t_first_wrong_place K W) (startD N_first_wrong_place.length ds) O { nx := fun _ O' => k .non O', rt := k } := by
  obtain ⟨a, ⟨rfl, rfl⟩, hs, hk⟩ := h
  have hl := hs.1
  unfold t_first_wrong_place
  walk_at "start"
  walk_at "w"
  intro s hs
  walk_at "w"
  refine wpS_seq ?_
  refine wpS_forE (α := Int × Nat) ?_
  walk_at "w"
  refine ⟨_, a.map D.int, rfl, seq_l, ?_⟩
  refine ⟨a.zipIdx, fun p => D.tup [.int (p.2 : Nat), .int p.1], fun i G O => ∃ q2 q3, G = [some (L a), some (.mut s), q2, q3] ∧ O = [⟨s, true, .dK (seenD (a.take i))⟩] ∧ ∀ j, j < i → bad a j = false, enumD_map _ _, ⟨none, none, rfl, rfl, fun j hj => absurd hj (Nat.not_lt_zero j)⟩, fun _ _ _ _ _ => seq_l, ?_, ?_⟩
  · rintro i ⟨z, i'⟩ G O hz hI
    obtain ⟨hz, e⟩ := zip_get hz
    dsimp only at hz e
    subst e
    obtain ⟨q2, q3, rfl, rfl, hb⟩ := hI
    have hi : i' < a.length := (List.getElem?_eq_some_iff.mp hz).1
    walk_at "w"
    refine wpS_ite (bad a i') ?_ (fun h => ?_) fun h => ?_
    · rw [bad_parts hz]
      refine wpT_or ?_
      walk_at "w"
      refine ⟨fun h => ⟨by rw [show decide (12 ≤ i') = true by simp at h ⊢; omega]; rfl, rfl⟩, fun h => ?_⟩
      rw [show decide (12 ≤ i') = false by simp at h ⊢; omega, Bool.false_or]
      refine wpT_or ?_
      walk_at "w"
      refine ⟨fun h => ⟨by rw [h]; rfl, rfl⟩, fun h => ?_⟩
      rw [h, Bool.false_or]
      refine wpT_or ?_
      walk_at "w"
      refine ⟨fun h => ⟨by rw [h]; rfl, rfl⟩, fun h => ?_⟩
      rw [h, Bool.false_or]
      walk_at "w"
      refine ⟨_, Sum.inl z, d_m (i := 0) rfl, rfl, ?_⟩
      walk_at "w"
      exact ⟨seen_val _ _, rfl⟩
    · refine wpS_subO (O' := []) (by simp) ?_
      walk_at "wr"
      rw [wrong_some hi h hb] at hk
      exact hk
    · walk_at "w"
      have hn : z ∉ a.take i' := fun hm => by
        rw [bad_parts hz, decide_eq_true hm] at h
        simp at h
      refine ⟨0, s, true, _, .inl z, rfl, rfl, rfl, small1000 (by simp [seenD]; omega), ?_⟩
      walk_at "w"
      refine ⟨_, _, rfl, by rw [seen_put hn, take_snoc hz], fun j hj => ?_⟩
      rcases Nat.lt_or_eq_of_le (Nat.le_of_lt_succ hj) with hj | rfl
      · exact hb j hj
      · exact h
  · intro G O hI
    obtain ⟨q2, q3, rfl, rfl, hb⟩ := hI
    rw [List.length_zipIdx] at hb
    refine wpS_subO (O' := []) (by simp) ?_
    walk_at "wr"
    rw [wrong_none hb] at hk
    exact hk
theorem fmt_small {z : Int} (h : -1000000 ≤ z ∧ z ≤ 1000000) (F : Hp) (v : V) (r : Rp K F (.int z) v) : fmtI v := by
  cases r
  refine ⟨z, rfl, ?_⟩
  have h1 : z.natAbs < 2 ^ 20 := by omega
  exact Nat.lt_of_lt_of_le (PySem.Flt.log2_lt_of (by decide) h1) (by decide)
theorem w_check_list (h : sp_check_list K ds O k x) (lo : ∀ p ∈ O, p.loc = false) : wpS K W (fun e _ O' => x e O') (t_check_list K W) (startD N_check_list.length ds) O { nx := fun _ O' => k .non O', rt := k } := by
  obtain ⟨a, ⟨rfl, rfl⟩, hs, h1, h2⟩ := h
  have hl := hs.1
  unfold t_check_list
  walk_at "start"
  walk_at "w"
  walk_at "c0"
  refine ⟨a, ⟨rfl, rfl⟩, hs, ?_⟩
  walk_at "w"
  unfold res1 at h1 h2
  cases e : wrong a with
  | none =>
    rw [e] at h1
    walk_at "w"
    refine ⟨fun h => (by cases h), fun _ => ?_⟩
    walk_at "w"
    exact h1 rfl
  | some p =>
    rw [e] at h2
    have hp := wrong_lt e
    walk_at "w"
    refine ⟨fun _ => ?_, fun h => (by cases h)⟩
    walk_at "w"
    exact ⟨fmt_small (by omega), h2 (by simp)⟩
end
section
variable {K : PySem.W.Frag} {W : WX} {ds : List D} {O : Ow} {k : Kk} {x : Xk}
theorem w_check_replica (h : sp_check_replica K ds O k x) (lo : ∀ p ∈ O, p.loc = false) : wpS K W (fun e _ O' => x e O') (t_check_replica K W) (startD N_check_replica.length ds) O { nx := fun _ O' => k .non O', rt := k } := by
  obtain ⟨h, ⟨rfl, rfl⟩, hb, h1, h2⟩ := h
  unfold t_check_replica
  walk_at "start"
  walk_at "w"
  refine ⟨by decide, ?_⟩
  refine wpR_inI (ns := [0, 1, 2]) (.inr rfl) ?_
  walk_at "w"
  have e : (decide (h ∈ ([0, 1, 2] : List Int))) = decide (0 ≤ h ∧ h < 3) := by
    apply decide_eq_decide.mpr
    simp only [List.mem_cons, List.not_mem_nil, or_false]
    omega
  rw [e]
  refine ⟨fun hc => ?_, fun hc => ?_⟩
  · have hc : ¬(0 ≤ h ∧ h < 3) := fun q => by simp [q] at hc
    walk_at "w"
    exact ⟨fmt_small hb, h2 hc⟩
  · have hc : 0 ≤ h ∧ h < 3 := by simpa using hc
    walk_at "w"
    exact h1 hc
theorem w_require_key (h : sp_require_key K ds O k x) (lo : ∀ p ∈ O, p.loc = false) : wpS K W (fun e _ O' => x e O') (t_require_key K W) (startD N_require_key.length ds) O { nx := fun _ O' => k .non O', rt := k } := by
  obtain ⟨d, z, b, ⟨rfl, rfl⟩, hb, hk, h1, h2⟩ := h
  unfold t_require_key
  walk_at "start"
  refine wpS_iteP (c := !b) ?_ ⟨fun hc => ?_, fun hc => ?_⟩
  · walk_at "w"
    rcases hk with ⟨ns, rfl, rfl⟩ | ⟨kds, rfl, rfl⟩
    · refine wpE_or1 ?_
      walk_at "w"
      refine wpR_inI (.inl seq_l) ?_
      walk_at "w"
      exact ⟨rfl, rfl⟩
    · refine wpE_or2 ?_
      walk_at "w"
      exact ⟨kds, Sum.inl z, d_l, rfl, _, rfl, rfl, rfl⟩
  · walk_at "w"
    exact ⟨fmt_small hb, h2 (by simpa using hc)⟩
  · walk_at "w"
    exact h1 (by simpa using hc)
theorem wrongRep_some {gs : List (List Int)} {h : Nat} (hh : h < gs.length) (hb : ((wrong (row gs h)).isSome || !decide (srt (row gs h) = srt (row gs 0))) = true) (hl : ∀ j, j < h → ((wrong (row gs j)).isSome || !decide (srt (row gs j) = srt (row gs 0))) = false) : wrongRep gs = some h := by
  unfold wrongRep
  rw [List.find?_range_eq_some]
  exact ⟨hb, List.mem_range.mpr hh, fun j hj => by rw [hl j hj] <;> rfl⟩
theorem wrongRep_none {gs : List (List Int)} (h : ∀ j, j < gs.length → ((wrong (row gs j)).isSome || !decide (srt (row gs j) = srt (row gs 0))) = false) : wrongRep gs = none := by
  unfold wrongRep
  rw [List.find?_eq_none]
  intro j hj
  rw [h j (List.mem_range.mp hj)]
  decide
theorem row_get {gs : List (List Int)} {i : Nat} {o : List Int} (h : gs[i]? = some o) : row gs i = o := by
  unfold row
  rw [List.getD_eq_getElem?_getD, h] <;> rfl
theorem row_mem {gs : List (List Int)} {i : Nat} (h : i < gs.length) : row gs i ∈ gs := by
  unfold row
  rw [List.getD_eq_getElem?_getD, List.getElem?_eq_getElem h]
  exact List.getElem_mem h
theorem row_at {gs : List (List Int)} {i : Nat} (h : i < gs.length) : gs[i]? = some (row gs i) := by
  unfold row
  rw [List.getD_eq_getElem?_getD, List.getElem?_eq_getElem h] <;> rfl
theorem rowD {gs : List (List Int)} {i : Int} (h0 : 0 ≤ i) (h : i < (gs.length : Int)) : atI (gs.map L) i = some (L (row gs i.toNat)) := atI_nn h0 (by
  rw [List.getElem?_map, row_at (by omega)] <;> rfl)
theorem w__wrong_replica (h : sp__wrong_replica K ds O k x) (lo : ∀ p ∈ O, p.loc = false) : wpS K W (fun e _ O' => x e O') (t__wrong_replica K W) (startD N__wrong_replica.length ds) O { nx := fun _ O' => k .non O', rt := k } := by
  obtain ⟨gs, ⟨rfl, rfl⟩, hs, hne, hl, hk⟩ := h
  have hp : 0 < gs.length := List.length_pos_iff.mpr hne
  unfold t__wrong_replica
  walk_at "start"
  walk_at "w"
  refine wpR_ixA (.inl seq_l) (rowD (by omega) (by omega)) ?_
  walk_at "w"
  refine wpC_sortAI true seq_l fun ms hm hsr => ?_
  obtain rfl := srt_uniq hm hsr
  walk_at "w"
  refine wpS_seq ?_
  refine wpS_for2 2 3 (fun i q r O' => O' = [] ∧ ∀ j, j < i → ((wrong (row gs j)).isSome || !decide (srt (row gs j) = srt (row gs 0))) = false) (as := gs.zipIdx) (enc := fun p => D.tup [.int (p.2 : Nat), L p.1]) ?_
  walk_at "w"
  refine ⟨_, gs.map L, rfl, seq_l, enumD_map L gs, ⟨rfl, fun j hj => by omega⟩, fun _ _ _ _ _ _ => seq_l, ?_, ?_⟩
  · intro i p q r O' hp hJ
    obtain ⟨rfl, hJ⟩ := hJ
    obtain ⟨o, i'⟩ := p
    obtain ⟨ho, e⟩ := zip_get hp
    dsimp only at ho e
    subst e
    have ho' := row_get ho
    subst ho'
    have hi : i' < gs.length := (List.getElem?_eq_some_iff.mp ho).1
    have hsm : Sm (row gs i') := hs _ (row_mem hi)
    walk_at "w"
    refine wpS_iteP (c := (wrong (row gs i')).isSome || !decide (srt (row gs i') = srt (row gs 0))) ?_ ⟨fun hc => ?_, fun hc => ?_⟩
    · refine wpT_orP ?_ fun _ => ?_
      · walk_at "w"
        walk_at "c0"
        refine ⟨_, ⟨rfl, rfl⟩, hsm, ?_⟩
        walk_at "w"
        refine ⟨?_, rfl⟩
        cases wrong (row gs i') <;> rfl
      · walk_at "w"
        refine wpC_sortAI true seq_l fun ms hm hsr => ?_
        obtain rfl := srt_uniq hm hsr
        walk_at "w"
        refine wpR_neLd view_self view_self ?_
        walk_at "w"
        exact ⟨rfl, rfl⟩
    · walk_at "wr"
      rw [wrongRep_some hi hc hJ] at hk
      exact hk
    · walk_at "w"
      refine ⟨_, _, rfl, rfl, fun j hj => ?_⟩
      by_cases e : j = i'
      · rw [e]
        exact hc
      · exact hJ j (by omega)
  · intro q r O' hJ
    obtain ⟨rfl, hJ⟩ := hJ
    walk_at "wr"
    rw [wrongRep_none (by simpa using hJ)] at hk
    exact hk
end
section
variable {K : PySem.W.Frag} {W : WX} {ds : List D} {O : Ow} {k : Kk} {x : Xk}
theorem idx_put {l : List Int} {z : Int} (h : z ∉ l) : putD (idxD l) (Sum.inl z) (.int (l.length : Int)) = idxD (l ++ [z]) := by
  unfold putD
  have : (idxD l).any (fun kv => decide (kv.1 = Sum.inl z)) = false := by
    rw [List.any_eq_false]
    intro kv hkv
    obtain ⟨⟨y, i⟩, hy, rfl⟩ := List.mem_map.mp hkv
    simp only [decide_eq_true_eq]
    intro e
    exact h (by rw [← Sum.inl.inj e]; exact (List.mem_zipIdx hy).2.2 ▸ List.getElem_mem _)
  rw [this]
  unfold idxD
  rw [List.zipIdx_append, List.map_append]
  simp
theorem w_index_of (h : sp_index_of K ds O k x) (lo : ∀ p ∈ O, p.loc = false) : wpS K W (fun e _ O' => x e O') (t_index_of K W) (startD N_index_of.length ds) O { nx := fun _ O' => k .non O', rt := k } := by
  obtain ⟨a, ⟨rfl, rfl⟩, ha, hn, hk⟩ := h
  have hl := ha.1
  unfold t_index_of
  walk_at "start"
  walk_at "wr"
  refine wpE_dc true (gIn_tup2 (by simp) (by simp)) gMono_tup2 ?_
  walk_at "w"
  refine ⟨_, a.map D.int, rfl, seq_l, fun i acc O' => O' = [] ∧ acc = idxD (a.take i), ⟨rfl, rfl⟩, fun i acc O' hi hI => ⟨seq_l, ?_⟩, fun i q acc O' hq hI => ?_, fun acc O' hI => ?_⟩
  · rw [hI.2]
    exact small1000 (by simp [idxD]; omega)
  · obtain ⟨rfl, rfl⟩ := hI
    rw [enumD_map] at hq
    obtain ⟨⟨z, i'⟩, hz, rfl⟩ := map_get hq
    obtain ⟨hz, e⟩ := zip_get hz
    dsimp only at hz e
    subst e
    walk_at "w"
    refine wpT_yes ⟨fun _ => ?_, fun h => (by cases h)⟩
    walk_at "w"
    have hi : i' < a.length := (List.getElem?_eq_some_iff.mp hz).1
    have hnt : z ∉ a.take i' := fun hm => by
      obtain ⟨j, hj, e⟩ := List.mem_take_iff_getElem.mp hm
      have e2 : a[i'] = z := by
        rw [List.getElem?_eq_getElem hi] at hz
        exact Option.some.inj hz
      have := (List.getElem_inj hn).mp (e.trans e2.symm)
      omega
    refine ⟨Sum.inl z, rfl, rfl, ?_⟩
    have e := idx_put hnt
    rw [List.length_take, Nat.min_eq_left (Nat.le_of_lt hi)] at e
    rw [e, take_snoc hz]
  · obtain ⟨rfl, rfl⟩ := hI
    rw [enumD_map, List.length_map, List.length_zipIdx, List.take_length]
    exact hk
end
section
variable {K : PySem.W.Frag} {W : WX} {ds : List D} {O : Ow} {k : Kk} {x : Xk}
theorem seq_weak {A : Ow} {p : Ob} {d : D} {xs : List D} (h : seqOf A d xs) : seqOf (p :: A) d xs := by
  rcases h with h | h | ⟨a, b, h, hm⟩
  · exact .inl h
  · exact .inr (.inl h)
  · exact .inr (.inr ⟨a, b, h, List.mem_cons_of_mem _ hm⟩)
theorem w_Run___init__ (T : FT_Run___init__ K) (h : sp_Run___init__ K ds O k x) (lo : ∀ p ∈ O, p.loc = false) : wpS K W (fun e _ O' => x e O') (t_Run___init__ K W) (startD N_Run___init__.length ds) O { nx := fun _ O' => k .non O', rt := k } := by
  obtain ⟨s, d, sw, A, ⟨rfl, rfl⟩, hd, hk⟩ := h
  unfold t_Run___init__
  walk_at "start"
  refine wpS_fld T.C_Run T.na_Run__swaps ?_
  walk_at "w"
  refine wpC_list true (seq_weak hd) ?_
  walk_at "w"
  exact ⟨0, _, _, _, rfl, rfl, by simp, hk⟩
theorem w_Run_steps (T : FT_Run_steps K) (h : sp_Run_steps K ds O k x) (lo : ∀ p ∈ O, p.loc = false) : wpS K W (fun e _ O' => x e O') (t_Run_steps K W) (startD N_Run_steps.length ds) O { nx := fun _ O' => k .non O', rt := k } := by
  obtain ⟨sw, ⟨rfl, rfl⟩, hk⟩ := h
  unfold t_Run_steps
  walk_at "start"
  walk_at "wr"
  refine wpE_fld T.C_Run T.na_Run__swaps ?_
  walk_at "w"
  walk_at "w"
  refine wpC_list false seq_l ?_
  intro c _
  exact hk c
theorem w_Run___len__ (T : FT_Run___len__ K) (h : sp_Run___len__ K ds O k x) (lo : ∀ p ∈ O, p.loc = false) : wpS K W (fun e _ O' => x e O') (t_Run___len__ K W) (startD N_Run___len__.length ds) O { nx := fun _ O' => k .non O', rt := k } := by
  obtain ⟨sw, ⟨rfl, rfl⟩, hl, hk⟩ := h
  unfold t_Run___len__
  walk_at "start"
  walk_at "wr"
  refine wpE_fld T.C_Run T.na_Run__swaps ?_
  walk_at "w"
  walk_at "w"
  simpa using hk
theorem w_Run___add__ (T : FT_Run___add__ K) (h : sp_Run___add__ K ds O k x) (lo : ∀ p ∈ O, p.loc = false) : wpS K W (fun e _ O' => x e O') (t_Run___add__ K W) (startD N_Run___add__.length ds) O { nx := fun _ O' => k .non O', rt := k } := by
  obtain ⟨a, b, ⟨rfl, rfl⟩, hl, hk⟩ := h
  unfold t_Run___add__
  walk_at "start"
  walk_at "wr"
  refine wpE_make (fun _ => .nil) ?_
  walk_at "w"
  refine wpE_fld T.C_Run T.na_Run__swaps ?_
  walk_at "w"
  refine wpE_fld T.C_Run T.na_Run__swaps ?_
  walk_at "w"
  refine wpR_addL true lst_l lst_l (by have : 100000 ≤ sizeLine := by decide
                                       simp only [List.length_map]; omega) ?_
  walk_at "w"
  refine ⟨[], lent_nil, fun s _ => ⟨s, _, a ++ b, [], ⟨rfl, rfl⟩, by rw [← List.map_append]; exact seq_l, rfl, [], _, rfl, hk⟩⟩
theorem w_Run___neg__ (T : FT_Run___neg__ K) (h : sp_Run___neg__ K ds O k x) (lo : ∀ p ∈ O, p.loc = false) : wpS K W (fun e _ O' => x e O') (t_Run___neg__ K W) (startD N_Run___neg__.length ds) O { nx := fun _ O' => k .non O', rt := k } := by
  obtain ⟨a, ⟨rfl, rfl⟩, hk⟩ := h
  unfold t_Run___neg__
  walk_at "start"
  walk_at "wr"
  refine wpE_make (fun _ => .nil) ?_
  walk_at "w"
  refine wpE_revL true ?_
  refine wpE_fld T.C_Run T.na_Run__swaps ?_
  walk_at "w"
  refine ⟨_, seq_l, ?_⟩
  walk_at "w"
  refine ⟨[], lent_nil, fun s _ => ⟨s, _, a.reverse, [], ⟨rfl, rfl⟩, by rw [List.map_reverse]; exact seq_l, rfl, [], _, rfl, hk⟩⟩
theorem w_State_lists (T : FT_State_lists K) (h : sp_State_lists K ds O k x) (lo : ∀ p ∈ O, p.loc = false) : wpS K W (fun e _ O' => x e O') (t_State_lists K W) (startD N_State_lists.length ds) O { nx := fun _ O' => k .non O', rt := k } := by
  obtain ⟨gs, ⟨rfl, rfl⟩, hl, hk⟩ := h
  unfold t_State_lists
  walk_at "start"
  walk_at "wr"
  apply wpE_mapP (as := gs) (enc := L) false (gIn_name (by decide)) gMono_name
  walk_at "w"
  refine wpE_fld T.C_State T.na_State__lists ?_
  walk_at "w"
  refine ⟨_, seq_l, rfl, small1000 (by omega), seq_l, fun i o ho => ?_, ?_⟩
  · walk_at "w"
    refine ⟨rfl, ?_⟩
    walk_at "w"
    refine wpC_list true seq_l ?_
    exact ⟨rfl, rfl⟩
  · intro c _
    exact hk c
theorem w_State_all_keys (T : FT_State_all_keys K) (h : sp_State_all_keys K ds O k x) (lo : ∀ p ∈ O, p.loc = false) : wpS K W (fun e _ O' => x e O') (t_State_all_keys K W) (startD N_State_all_keys.length ds) O { nx := fun _ O' => k .non O', rt := k } := by
  obtain ⟨gs, ⟨rfl, rfl⟩, hl, hk⟩ := h
  unfold t_State_all_keys
  walk_at "start"
  walk_at "wr"
  refine wpE_fld T.C_State T.na_State__lists ?_
  walk_at "w"
  walk_at "w"
  refine wpR_ixA (.inl seq_l) (rowD (by omega) (by omega)) ?_
  walk_at "w"
  refine wpC_sortAI false seq_l fun ms hm hsr => ?_
  obtain rfl := srt_uniq hm hsr
  intro c _
  exact hk c
theorem w_State___len__ (T : FT_State___len__ K) (h : sp_State___len__ K ds O k x) (lo : ∀ p ∈ O, p.loc = false) : wpS K W (fun e _ O' => x e O') (t_State___len__ K W) (startD N_State___len__.length ds) O { nx := fun _ O' => k .non O', rt := k } := by
  obtain ⟨gs, ⟨rfl, rfl⟩, hl, hk⟩ := h
  unfold t_State___len__
  walk_at "start"
  walk_at "wr"
  refine wpE_fld T.C_State T.na_State__lists ?_
  walk_at "w"
  walk_at "w"
  refine wpR_ixA (.inl seq_l) (rowD (by omega) (by omega)) ?_
  walk_at "w"
  exact hk
theorem w_State_list_of (T : FT_State_list_of K) (h : sp_State_list_of K ds O k x) (lo : ∀ p ∈ O, p.loc = false) : wpS K W (fun e _ O' => x e O') (t_State_list_of K W) (startD N_State_list_of.length ds) O { nx := fun _ O' => k .non O', rt := k } := by
  obtain ⟨gs, h, ⟨rfl, rfl⟩, hl, hb, h1, h2⟩ := h
  unfold t_State_list_of
  walk_at "start"
  walk_at "w"
  walk_at "c0"
  refine ⟨h, ⟨rfl, rfl⟩, hb, fun hh => ?_, fun hh => h2 hh⟩
  walk_at "wr"
  refine wpE_fld T.C_State T.na_State__lists ?_
  walk_at "w"
  walk_at "w"
  refine wpR_ixA (.inl seq_l) (rowD hh.1 (by omega)) ?_
  walk_at "w"
  refine wpC_list false seq_l ?_
  intro c _
  exact h1 hh c
theorem w_State___init__ (T : FT_State___init__ K) (h : sp_State___init__ K ds O k x) (lo : ∀ p ∈ O, p.loc = false) : wpS K W (fun e _ O' => x e O') (t_State___init__ K W) (startD N_State___init__.length ds) O { nx := fun _ O' => k .non O', rt := k } := by
  obtain ⟨s, d1, d2, d3, a, b, c, A, ⟨rfl, rfl⟩, ⟨q1, q2, q3⟩, ⟨s1, s2, s3⟩, h1, h2⟩ := h
  unfold t_State___init__
  walk_at "start"
  walk_at "w"
  refine wpE_lst true ?_
  walk_at "w"
  refine wpC_list true (seq_weak q1) ?_
  walk_at "w"
  refine wpC_list true (seq_weak q2) ?_
  walk_at "w"
  refine wpC_list true (seq_weak q3) ?_
  walk_at "w"
  refine ⟨by show 3 ≤ sizeLine; decide, ?_⟩
  walk_at "w"
  walk_at "c0"
  refine ⟨[a, b, c], ⟨rfl, rfl⟩, fun o ho => ?_, by simp, by simp, ?_⟩
  · simp only [List.mem_cons, List.not_mem_nil, or_false] at ho
    rcases ho with rfl | rfl | rfl <;> assumption
  walk_at "w"
  refine ⟨fun hc => ?_, fun hc => ?_⟩
  · walk_at "w"
    cases e : wrongRep [a, b, c] with
    | none =>
      rw [e] at hc
      cases hc
    | some p =>
      have hp : p < 3 := by
        unfold wrongRep at e
        exact List.mem_range.mp (List.mem_of_find?_eq_some e)
      exact ⟨fmt_small (by omega), h2 p e⟩
  · have e : wrongRep [a, b, c] = none := by
      cases e : wrongRep [a, b, c] with
      | none => rfl
      | some p =>
        rw [e] at hc
        cases hc
    walk_at "w"
    refine wpS_seq ?_
    refine wpS_fld T.C_State T.na_State__lists ?_
    walk_at "w"
    refine ⟨0, _, _, _, rfl, rfl, by simp, ?_⟩
    walk_at "w"
    refine wpS_fld T.C_State T.na_State__places ?_
    apply wpE_mapP (as := [a, b, c]) (enc := L) (f := fun o => D.dK (idxD o)) true (gIn_name (by decide)) gMono_name
    walk_at "w"
    refine ⟨_, seq_l, rfl, small1000 (by simp), seq_l, fun i o ho => ?_, ?_⟩
    · walk_at "w"
      refine ⟨rfl, ?_⟩
      walk_at "w"
      have hm := List.mem_of_getElem? ho
      have hw : wrong o = none := by
        have hi : i < 3 := (List.getElem?_eq_some_iff.mp ho).1
        unfold wrongRep at e
        rw [List.find?_eq_none] at e
        have := e i (List.mem_range.mpr hi)
        rw [row_get ho] at this
        cases hq : wrong o with
        | none => rfl
        | some p =>
          rw [hq] at this
          simp at this
      have hsm : Sm o := by
        simp only [List.mem_cons, List.not_mem_nil, or_false] at hm
        rcases hm with rfl | rfl | rfl <;> assumption
      refine ⟨o, ⟨rfl, rfl⟩, hsm, wrong_nodup hw, rfl, rfl⟩
    · walk_at "w"
      exact ⟨0, _, _, _, rfl, rfl, by simp [putA], h1 e⟩
end
section
variable {K : PySem.W.Frag} {W : WX} {ds : List D} {O : Ow} {k : Kk} {x : Xk}
theorem res1_ok {a : List Int} (h : res1 a = .ok) : wrong a = none := by
  unfold res1 at h
  cases e : wrong a with
  | none => rfl
  | some p => rw [e] at h; cases h
theorem res1_no {a : List Int} (h : res1 a ≠ .ok) : ∃ p, wrong a = some p := by
  unfold res1 at h
  cases e : wrong a with
  | none => rw [e] at h; exact absurd rfl h
  | some p => exact ⟨p, rfl⟩
theorem w_swap_at (h : sp_swap_at K ds O k x) (lo : ∀ p ∈ O, p.loc = false) : wpS K W (fun e _ O' => x e O') (t_swap_at K W) (startD N_swap_at.length ds) O { nx := fun _ O' => k .non O', rt := k } := by
  obtain ⟨a, i, ⟨rfl, rfl⟩, ha, h1, h2⟩ := h
  unfold resS at h1 h2
  unfold t_swap_at
  walk_at "start"
  walk_at "w"
  walk_at "c0"
  refine ⟨a, ⟨rfl, rfl⟩, ha, fun e1 => ?_, fun e1 => ?_⟩
  · rw [res1_ok e1] at h1 h2
    dsimp only at h1 h2
    walk_at "w"
    refine wpS_ite (decide (i < 0 ∨ (a.length : Int) - 2 < i)) ?_ (fun h => ?_) fun h => ?_
    · refine wpT_or ?_
      walk_at "w"
      refine ⟨fun h => ⟨?_, rfl⟩, fun h => ?_⟩
      · exact (decide_eq_true (.inl (of_decide_eq_true h))).symm
      · walk_at "w"
        refine ⟨?_, rfl⟩
        have h := of_decide_eq_false h
        refine dec_iff ⟨.inr, fun q => q.resolve_left h⟩
    · have h := of_decide_eq_true h
      rw [if_pos h] at h2
      walk_at "w"
      exact ⟨fmt_small (by omega), h2 (by simp)⟩
    · have h := of_decide_eq_false h
      rw [if_neg h] at h1
      have i0 : 0 ≤ i := by omega
      have i1 : i + 1 < (a.length : Int) := by omega
      walk_at "w"
      refine wpC_list false seq_l ?_
      intro c hc
      walk_at "wr"
      have e : (i + 1).toNat = i.toNat + 1 := by omega
      rw [e]
      exact h1 rfl c
  · obtain ⟨p, e⟩ := res1_no e1
    rw [e] at h2
    unfold res1
    rw [e]
    exact h2 (by simp)
theorem cut_pre {ns : List Int} {n : Nat} (h : n ≤ ns.length) : cutD (ns.map D.int) none (some (n : Int)) = (ns.take n).map D.int := by
  unfold cutD
  rw [HT.sIx_nat, HT.sIx_none, List.length_map, Nat.min_eq_left h, List.drop_zero, Nat.sub_zero, List.map_take]
end
section
variable {K : PySem.W.Frag} {W : WX} {ds : List D} {O : Ow} {k : Kk} {x : Xk}
theorem VS.row {gs : List (List Int)} (v : VS gs) {h : Nat} (hh : h < 3) : wrong (row gs h) = none ∧ (row gs h).Perm (Q.row gs 0) := ⟨v.ok _ (row_mem (by rw [v.len]; exact hh)), v.same _ (row_mem (by rw [v.len]; exact hh))⟩
theorem VS.nd {gs : List (List Int)} (v : VS gs) {h : Nat} (hh : h < 3) : (Q.row gs h).Nodup := wrong_nodup (v.row hh).1
theorem VS.l12 {gs : List (List Int)} (v : VS gs) {h : Nat} (hh : h < 3) : (Q.row gs h).length ≤ 12 := wrong_len (v.row hh).1
theorem VS.leq {gs : List (List Int)} (v : VS gs) {h : Nat} (hh : h < 3) : (Q.row gs h).length = (Q.row gs 0).length := (v.row hh).2.length_eq
theorem wrong_rng {o : List Int} (h : wrong o = none) : ∀ z ∈ o, 0 ≤ z ∧ z ≤ 9999 := fun z hz => by
  obtain ⟨i, hi, rfl⟩ := List.getElem_of_mem hz
  have hb := wrong_not h i hi
  rw [bad_parts (List.getElem?_eq_getElem hi)] at hb
  simp only [Bool.or_eq_false_iff, decide_eq_false_iff_not] at hb
  omega
theorem wrong_sm {o : List Int} (h : wrong o = none) : Sm o := ⟨Nat.le_trans (wrong_len h) (by decide), fun z hz => by have := wrong_rng h z hz; omega⟩
theorem srt_eq_iff {a b : List Int} : srt a = srt b ↔ a.Perm b := ⟨fun h => (srt_perm a).symm.trans (h ▸ srt_perm b), fun h => srt_uniq ((srt_perm a).trans h) (srt_sorted a)⟩
theorem VS.rep {a b c : List Int} (v : VS [a, b, c]) : wrongRep [a, b, c] = none := wrongRep_none fun j hj => by
  have h := v.row (h := j) hj
  rw [h.1, srt_eq_iff.mpr h.2]
  simp
theorem VS.three {gs : List (List Int)} (v : VS gs) : ∃ a b c, gs = [a, b, c] := by
  have h := v.len
  match gs, h with
  | [a, b, c], _ => exact ⟨a, b, c, rfl⟩
theorem placeD {gs : List (List Int)} {i : Int} (h0 : 0 ≤ i) (h : i < (gs.length : Int)) : atI (gs.map fun o => D.dK (idxD o)) i = some (.dK (idxD (row gs i.toNat))) := atI_nn h0 (by
  rw [List.getElem?_map, row_at (by omega)] <;> rfl)
theorem idx_has {o : List Int} {z : Int} (h : z ∉ o) : valD (idxD o) (Sum.inl z) = none := by
  unfold valD
  have : (idxD o).find? (fun kv => decide (kv.1 = Sum.inl z)) = none := by
    rw [List.find?_eq_none]
    intro kv hkv
    obtain ⟨p, hp, rfl⟩ := List.mem_map.mp hkv
    simp only [decide_eq_true_eq]
    intro e
    have e := Sum.inl.inj e
    obtain ⟨i, hi, e2⟩ := List.getElem_of_mem hp
    have e3 := (zip_get (by rw [List.getElem?_eq_getElem hi, e2])).1
    exact h (by rw [← e]; exact List.mem_of_getElem? e3)
  rw [this] <;> rfl
theorem hasK_idx {o : List Int} (hn : o.Nodup) (z : Int) : hasK (.dK (idxD o)) z (decide (z ∈ o)) := by
  refine .inr ⟨_, rfl, ?_⟩
  by_cases h : z ∈ o
  · rw [idx_val hn h, decide_eq_true h] <;> rfl
  · rw [idx_has h, decide_eq_false h] <;> rfl
theorem w_State_says (T : FT_State_says K) (h : sp_State_says K ds O k x) (lo : ∀ p ∈ O, p.loc = false) : wpS K W (fun e _ O' => x e O') (t_State_says K W) (startD N_State_says.length ds) O { nx := fun _ O' => k .non O', rt := k } := by
  obtain ⟨gs, h, a, b, ⟨rfl, rfl⟩, v, hb, ba, bb, h1, h2, h3, h4⟩ := h
  unfold t_State_says
  walk_at "start"
  walk_at "w"
  walk_at "c0"
  refine ⟨h, ⟨rfl, rfl⟩, hb, fun hh => ?_, fun hh => h2 hh⟩
  have hl := v.len
  have vr := v.row (h := h.toNat) (by omega)
  have hn := wrong_nodup vr.1
  walk_at "w"
  refine wpE_fld T.C_State T.na_State__places ?_
  walk_at "w"
  walk_at "w"
  refine wpR_ixA (.inl seq_l) (placeD hh.1 (by omega)) ?_
  walk_at "w"
  walk_at "c0"
  refine ⟨_, a, _, ⟨rfl, rfl⟩, ba, hasK_idx hn a, fun ea => ?_, fun ea => ?_⟩
  · have ea : a ∈ row gs h.toNat := by simpa using ea
    walk_at "w"
    walk_at "c0"
    refine ⟨_, b, _, ⟨rfl, rfl⟩, bb, hasK_idx hn b, fun eb => ?_, fun eb => ?_⟩
    · have eb : b ∈ row gs h.toNat := by simpa using eb
      walk_at "wr"
      refine ⟨_, Sum.inl a, _, d_l, rfl, idx_val hn ea, ?_⟩
      walk_at "w"
      refine ⟨_, Sum.inl b, _, d_l, rfl, idx_val hn eb, ?_⟩
      walk_at "w"
      have h1 := h1 hh (vr.2.mem_iff.mp ea) (vr.2.mem_iff.mp eb)
      unfold sayB at h1
      simpa using h1
    · have eb : b ∉ row gs h.toNat := by simpa using eb
      exact h4 hh (vr.2.mem_iff.mp ea) fun q => eb (vr.2.mem_iff.mpr q)
  · have ea : a ∉ row gs h.toNat := by simpa using ea
    exact h3 hh fun q => ea (vr.2.mem_iff.mpr q)
theorem w_State_position (T : FT_State_position K) (h : sp_State_position K ds O k x) (lo : ∀ p ∈ O, p.loc = false) : wpS K W (fun e _ O' => x e O') (t_State_position K W) (startD N_State_position.length ds) O { nx := fun _ O' => k .non O', rt := k } := by
  obtain ⟨gs, h, a, ⟨rfl, rfl⟩, v, hb, ba, h1, h2, h3⟩ := h
  unfold t_State_position
  walk_at "start"
  walk_at "w"
  walk_at "c0"
  refine ⟨h, ⟨rfl, rfl⟩, hb, fun hh => ?_, fun hh => h2 hh⟩
  have hl := v.len
  have vr := v.row (h := h.toNat) (by omega)
  have hn := wrong_nodup vr.1
  walk_at "w"
  refine wpE_fld T.C_State T.na_State__places ?_
  walk_at "w"
  walk_at "w"
  refine wpR_ixA (.inl seq_l) (placeD hh.1 (by omega)) ?_
  walk_at "w"
  walk_at "c0"
  refine ⟨_, a, _, ⟨rfl, rfl⟩, ba, hasK_idx hn a, fun ea => ?_, fun ea => ?_⟩
  · have ea : a ∈ row gs h.toNat := by simpa using ea
    walk_at "wr"
    refine ⟨_, Sum.inl a, _, d_l, rfl, idx_val hn ea, ?_⟩
    walk_at "w"
    exact h1 hh (vr.2.mem_iff.mp ea)
  · have ea : a ∉ row gs h.toNat := by simpa using ea
    exact h3 hh fun q => ea (vr.2.mem_iff.mpr q)
theorem VS.set {gs : List (List Int)} (v : VS gs) {h : Nat} {o : List Int} (hh : h < 3) (ho : wrong o = none) (hp : o.Perm (Q.row gs 0)) : VS (gs.set h o) := by
  have hl := v.len
  have hz : (Q.row (gs.set h o) 0).Perm (Q.row gs 0) := by
    by_cases e : h = 0
    · subst e
      have : Q.row (gs.set 0 o) 0 = o := by
        unfold Q.row
        rw [List.getD_eq_getElem?_getD, List.getElem?_set_self (by omega)] <;> rfl
      rw [this]
      exact hp
    · have : Q.row (gs.set h o) 0 = Q.row gs 0 := by
        unfold Q.row
        rw [List.getD_eq_getElem?_getD, List.getElem?_set_ne e, ← List.getD_eq_getElem?_getD]
      rw [this]
  refine ⟨by rw [List.length_set]; exact hl, fun p q => ?_, fun p q => ?_⟩
  · rcases List.mem_or_eq_of_mem_set q with q | rfl
    · exact v.ok p q
    · exact ho
  · rcases List.mem_or_eq_of_mem_set q with q | rfl
    · exact (v.same p q).trans hz.symm
    · exact hp.trans hz.symm
theorem map_setL (gs : List (List Int)) (h : Nat) (o : List Int) : (gs.map L).set h (L o) = (gs.set h o).map L := by rw [List.map_set]
theorem w_State_with_list (h : sp_State_with_list K ds O k x) (lo : ∀ p ∈ O, p.loc = false) : wpS K W (fun e _ O' => x e O') (t_State_with_list K W) (startD N_State_with_list.length ds) O { nx := fun _ O' => k .non O', rt := k } := by
  obtain ⟨gs, h, o, ⟨rfl, rfl⟩, v, hb, ho, h1, h2, h3⟩ := h
  have hl := v.len
  unfold t_State_with_list
  walk_at "start"
  walk_at "w"
  walk_at "c0"
  refine ⟨h, ⟨rfl, rfl⟩, hb, fun hh => ?_, fun hh => h2 hh⟩
  walk_at "w"
  refine wpS_iteP (c := (wrong o).isSome || !decide (srt o = srt (row gs 0))) ?_ ⟨fun hc => ?_, fun hc => ?_⟩
  · refine wpT_orP ?_ fun _ => ?_
    · walk_at "w"
      walk_at "c0"
      refine ⟨o, ⟨rfl, rfl⟩, ho, ?_⟩
      walk_at "w"
      refine ⟨?_, rfl⟩
      cases wrong o <;> rfl
    · walk_at "w"
      refine wpC_sortAI true seq_l fun ms hm hsr => ?_
      obtain rfl := srt_uniq hm hsr
      refine wpE_fz ?_
      walk_at "m0"
      refine ⟨gs, ⟨rfl, rfl⟩, hl, fun c => ⟨c, _, _, rfl, rfl, ?_⟩⟩
      refine wpR_neLd view_self view_self ?_
      walk_at "w"
      exact ⟨rfl, rfl⟩
  · walk_at "w"
    refine ⟨fmt_small hb, h3 hh fun q => ?_⟩
    rw [q.1, srt_eq_iff.mpr q.2] at hc
    simp at hc
  · simp only [Bool.or_eq_false_iff, Bool.not_eq_false', decide_eq_true_eq] at hc
    have hw : wrong o = none := by
      cases e : wrong o with
      | none => rfl
      | some p => rw [e] at hc; cases hc.1
    have hp := srt_eq_iff.mp hc.2
    have v' := v.set (h := h.toNat) (by omega) hw hp
    walk_at "w"
    walk_at "m0"
    refine ⟨gs, ⟨rfl, rfl⟩, by omega, fun c => ?_⟩
    walk_at "w"
    rw [map_setL]
    obtain ⟨a, b, d, e3⟩ := v'.three
    have hf := h1 hh hw hp
    rw [e3] at v' hf ⊢
    refine wpG_lst (ds := [L a, L b, L d]) (seq_m (i := 0) rfl) rfl ?_
    walk_at "w"
    refine wpS_subO (List.nil_sublist _) ?_
    walk_at "wr"
    refine wpE_make (fun _ => .nil) ?_
    walk_at "w"
    refine ⟨[], lent_nil, fun s _ => ⟨s, _, _, _, a, b, d, [], ⟨rfl, rfl⟩, ⟨seq_l, seq_l, seq_l⟩, ⟨wrong_sm (v'.ok _ (by simp)), wrong_sm (v'.ok _ (by simp)), wrong_sm (v'.ok _ (by simp))⟩, fun _ => ⟨rfl, [], _, rfl, ?_⟩, fun q hq => ?_⟩⟩
    · exact hf
    · rw [v'.rep] at hq
      cases hq
theorem wrong_sub {o p : List Int} (h : wrong o = none) (s : p.Sublist o) : wrong p = none := wrong_none fun j hj => by
  have hn := (wrong_nodup h).sublist s
  have hr := wrong_rng h _ (s.subset (List.getElem_mem hj))
  have hl := s.length_le
  have hw := wrong_len h
  rw [bad_parts (List.getElem?_eq_getElem hj)]
  simp only [Bool.or_eq_false_iff, decide_eq_false_iff_not]
  refine ⟨by omega, by omega, by omega, fun hm => ?_⟩
  obtain ⟨i, hi, e⟩ := List.getElem_of_mem hm
  rw [List.length_take] at hi
  rw [List.getElem_take] at e
  have := nd_ix hn (List.getElem?_eq_getElem (by omega)) ((List.getElem?_eq_getElem hj).trans (congrArg some e.symm))
  omega
theorem wout_row {gs : List (List Int)} {z : Int} {h : Nat} : row (wout z gs) h = (row gs h).filter fun y => !decide (y = z) := by
  unfold row wout
  rw [List.getD_eq_getElem?_getD, List.getD_eq_getElem?_getD, List.getElem?_map]
  cases gs[h]? <;> rfl
theorem wout_vs {gs : List (List Int)} {z : Int} (v : VS gs) : VS (wout z gs) := by
  refine ⟨by unfold wout; rw [List.length_map]; exact v.len, fun o ho => ?_, fun o ho => ?_⟩
  · obtain ⟨p, hp, rfl⟩ := List.mem_map.mp ho
    exact wrong_sub (v.ok p hp) List.filter_sublist
  · obtain ⟨p, hp, rfl⟩ := List.mem_map.mp ho
    rw [wout_row]
    exact (v.same p hp).filter _
theorem w__other_replicas (T : FT__other_replicas K) (h : sp__other_replicas K ds O k x) (lo : ∀ p ∈ O, p.loc = false) : wpS K W (fun e _ O' => x e O') (t__other_replicas K W) (startD N__other_replicas.length ds) O { nx := fun _ O' => k .non O', rt := k } := by
  obtain ⟨h, ⟨rfl, rfl⟩, hb, hk⟩ := h
  obtain ⟨T1, u, T2⟩ := T.cv_State_REPLICAS
  unfold t__other_replicas
  walk_at "start"
  walk_at "wr"
  apply wpE_filP (as := [0, 1, 2]) (enc := D.int) (c := fun z => !decide (z = h)) (f := D.int) true (gIn_name (by decide)) gMono_name
  walk_at "w"
  refine wpE_cval T1 T2 (fun _ => .int 3) ?_
  walk_at "w"
  refine ⟨rfl, ?_⟩
  walk_at "w"
  refine ⟨⟨by decide, by decide⟩, rfl, small1000 (by decide), trivial, fun i z hz => ?_, ?_⟩
  · walk_at "w"
    refine ⟨rfl, ?_, fun _ => ?_⟩
    · walk_at "w"
      exact ⟨rfl, rfl⟩
    · walk_at "w"
      exact ⟨rfl, rfl⟩
  · exact hk
theorem w_State___sub__ (T : FT_State___sub__ K) (h : sp_State___sub__ K ds O k x) (lo : ∀ p ∈ O, p.loc = false) : wpS K W (fun e _ O' => x e O') (t_State___sub__ K W) (startD N_State___sub__.length ds) O { nx := fun _ O' => k .non O', rt := k } := by
  obtain ⟨gs, z, ⟨rfl, rfl⟩, v, hb, h1, h2⟩ := h
  obtain ⟨c1, n1, n2⟩ := T
  have hl := v.len
  unfold t_State___sub__
  walk_at "start"
  walk_at "w"
  walk_at "c0"
  refine wpR_ixA (.inl seq_l) (placeD (by omega) (by omega)) ?_
  walk_at "w"
  refine ⟨_, z, _, ⟨rfl, rfl⟩, hb, hasK_idx (v.nd (by omega)) z, fun hz => ?_, fun hz => ?_⟩
  · have hz : z ∈ row gs 0 := by simpa using hz
    walk_at "w"
    apply wpE_mapP (as := gs) (enc := L) (f := fun o => L (o.filter fun y => !decide (y = z))) true (gIn_name (by decide)) gMono_name
    walk_at "w"
    refine ⟨_, seq_l, rfl, small1000 (by omega), seq_l, fun i o ho => ?_, ?_⟩
    · have hi : i < gs.length := (List.getElem?_eq_some_iff.mp ho).1
      have hol : o.length ≤ 12 := by
        rw [← row_get ho]
        exact v.l12 (by omega)
      walk_at "w"
      refine ⟨rfl, ?_⟩
      apply wpE_filP (as := o) (enc := D.int) (c := fun y => !decide (y = z)) (f := D.int) true (gIn_name (by decide)) gMono_name
      walk_at "w"
      refine ⟨_, seq_l, rfl, small1000 (by omega), seq_l, fun i y hy => ?_, ?_⟩
      · walk_at "w"
        refine ⟨rfl, ?_, fun _ => ?_⟩
        · walk_at "w"
          exact ⟨rfl, rfl⟩
        · walk_at "w"
          exact ⟨rfl, rfl⟩
      · exact ⟨rfl, rfl⟩
    · have hf := h1 hz
      have ew : gs.map (fun o => L (o.filter fun y => !decide (y = z))) = (wout z gs).map L := by
        unfold wout
        rw [List.map_map] <;> rfl
      rw [ew]
      have v' := wout_vs (z := z) v
      obtain ⟨a, b, d, e3⟩ := v'.three
      rw [e3] at v' hf ⊢
      refine wpG_lst (ds := [L a, L b, L d]) seq_l rfl ?_
      walk_at "wr"
      refine wpE_make (fun _ => .nil) ?_
      walk_at "w"
      refine ⟨[], lent_nil, fun s _ => ⟨s, _, _, _, a, b, d, [], ⟨rfl, rfl⟩, ⟨seq_l, seq_l, seq_l⟩, ⟨wrong_sm (v'.ok _ (by simp)), wrong_sm (v'.ok _ (by simp)), wrong_sm (v'.ok _ (by simp))⟩, fun _ => ⟨rfl, [], _, rfl, hf⟩, fun q hq => ?_⟩⟩
      rw [v'.rep] at hq
      cases hq
  · have hz : z ∉ row gs 0 := by simpa using hz
    exact h2 hz
end
section
variable {K : PySem.W.Frag} {W : WX} {ds : List D} {O : Ow} {k : Kk} {x : Xk}
theorem wrong_perm {o p : List Int} (h : wrong o = none) (s : p.Perm o) : wrong p = none := wrong_none fun j hj => by
  have hn := s.nodup_iff.mpr (wrong_nodup h)
  have hr := wrong_rng h _ (s.mem_iff.mp (List.getElem_mem hj))
  have hl := s.length_eq
  have hw := wrong_len h
  rw [bad_parts (List.getElem?_eq_getElem hj)]
  simp only [Bool.or_eq_false_iff, decide_eq_false_iff_not]
  refine ⟨by omega, by omega, by omega, fun hm => ?_⟩
  obtain ⟨i, hi, e⟩ := List.getElem_of_mem hm
  rw [List.length_take] at hi
  rw [List.getElem_take] at e
  have := nd_ix hn (List.getElem?_eq_getElem (by omega)) ((List.getElem?_eq_getElem hj).trans (congrArg some e.symm))
  omega
theorem stepB_ok {gs : List (List Int)} {s : Int × Int} (h : stepB gs s = true) : (0 ≤ s.1 ∧ s.1 < 3) ∧ 0 ≤ s.2 ∧ s.2 + 1 < ((row gs 0).length : Int) := by
  unfold stepB at h
  simp only [Bool.and_eq_true, decide_eq_true_eq] at h
  omega
theorem w_is_swap (T : FT_is_swap K) (h : sp_is_swap K ds O k x) (lo : ∀ p ∈ O, p.loc = false) : wpS K W (fun e _ O' => x e O') (t_is_swap K W) (startD N_is_swap.length ds) O { nx := fun _ O' => k .non O', rt := k } := by
  obtain ⟨gs, ⟨s1, s2⟩, ⟨rfl, rfl⟩, hl, h12, hk⟩ := h
  obtain ⟨T1, u, T2⟩ := T.cv_State_REPLICAS
  unfold t_is_swap
  walk_at "start"
  walk_at "w"
  refine wpC_lenO ⟨gs, ⟨rfl, rfl⟩, hl, _, rfl, by omega, by omega, ?_⟩
  walk_at "w"
  refine wpS_ret ?_
  refine wpE_joinP (d := .bl (stepB gs (s1, s2))) ?_ hk
  refine wpE_andP ?_ fun _ => ?_
  · walk_at "w"
    refine ⟨fun h => ?_, fun h => ?_⟩
    · refine wpE_cval T1 T2 (fun _ => .int 3) ?_
      walk_at "w"
      refine ⟨rfl, ?_⟩
      walk_at "w"
      exact ⟨by rw [h, Bool.true_and], rfl⟩
    · exact ⟨by rw [h, Bool.false_and], rfl⟩
  · walk_at "w"
    refine ⟨fun h => ?_, fun h => ?_⟩
    · walk_at "w"
      exact ⟨by rw [h, Bool.true_and], rfl⟩
    · exact ⟨by rw [h, Bool.false_and], rfl⟩
theorem w_swap_pair (h : sp_swap_pair K ds O k x) (lo : ∀ p ∈ O, p.loc = false) : wpS K W (fun e _ O' => x e O') (t_swap_pair K W) (startD N_swap_pair.length ds) O { nx := fun _ O' => k .non O', rt := k } := by
  obtain ⟨gs, ⟨s1, s2⟩, ⟨rfl, rfl⟩, v, h1, h2⟩ := h
  unfold t_swap_pair
  walk_at "start"
  walk_at "w"
  walk_at "c0"
  refine ⟨gs, (s1, s2), ⟨rfl, rfl⟩, v.len, by have := v.l12 (h := 0) (by omega); omega, ?_⟩
  walk_at "w"
  refine ⟨fun hc => ?_, fun hc => ?_⟩
  · walk_at "w"
    exact ⟨fmt_small (by omega), h2 (by simpa using hc)⟩
  · have hc : stepB gs (s1, s2) = true := by simpa using hc
    have hs := stepB_ok hc
    have hl := v.leq (h := s1.toNat) (by omega)
    walk_at "w"
    walk_at "m0"
    refine ⟨gs, s1, ⟨rfl, rfl⟩, v.len, by omega, fun _ c => ?_, fun q => absurd hs.1 q⟩
    walk_at "wf"
    refine ⟨by show 2 ≤ sizeLine; decide, [], List.nil_sublist _, ?_⟩
    have e : (s2 + 1).toNat = s2.toNat + 1 := by omega
    rw [e]
    exact h1 hc
theorem sil_others {gs : List (List Int)} {h i : Nat} (hh : h < 3) : ∃ a b : Nat, ((([0, 1, 2] : List Int)).filter fun z => !decide (z = (h : Int))) = [(a : Int), (b : Int)] ∧ a < 3 ∧ b < 3 ∧ silB gs h i = decide (sayB (row gs a) (kx gs h i) (kx gs h (i + 1)) = sayB (row gs b) (kx gs h i) (kx gs h (i + 1))) := by
  unfold silB
  have : h = 0 ∨ h = 1 ∨ h = 2 := by omega
  rcases this with rfl | rfl | rfl
  · exact ⟨1, 2, rfl, by omega, by omega, rfl⟩
  · exact ⟨0, 2, rfl, by omega, by omega, decide_eq_decide.mpr ⟨Eq.symm, Eq.symm⟩⟩
  · exact ⟨0, 1, rfl, by omega, by omega, rfl⟩
theorem kx_mem {gs : List (List Int)} (v : VS gs) {h i : Nat} (hh : h < 3) (hi : i < (row gs 0).length) : kx gs h i ∈ row gs 0 := by
  unfold kx
  exact (v.row hh).2.mem_iff.mp (mem_getD (by rw [v.leq hh]; exact hi))
theorem w_is_silent (h : sp_is_silent K ds O k x) (lo : ∀ p ∈ O, p.loc = false) : wpS K W (fun e _ O' => x e O') (t_is_silent K W) (startD N_is_silent.length ds) O { nx := fun _ O' => k .non O', rt := k } := by
  obtain ⟨gs, ⟨s1, s2⟩, ⟨rfl, rfl⟩, v, h1, h2⟩ := h
  unfold t_is_silent
  walk_at "start"
  walk_at "w"
  walk_at "c0"
  refine ⟨gs, (s1, s2), ⟨rfl, rfl⟩, v, fun hc => ?_, fun hc => h2 hc⟩
  have hs := stepB_ok hc
  have hf := h1 hc
  obtain ⟨a, b, e, ha, hb, es⟩ := sil_others (gs := gs) (h := s1.toNat) (i := s2.toNat) (by omega)
  have e0 : ((s1.toNat : Nat) : Int) = s1 := by omega
  rw [e0] at e
  have m1 := kx_mem v (h := s1.toNat) (i := s2.toNat) (by omega) (by omega)
  have m2 := kx_mem v (h := s1.toNat) (i := s2.toNat + 1) (by omega) (by omega)
  have b1 := wrong_rng (v.row (h := 0) (by omega)).1 _ m1
  have b2 := wrong_rng (v.row (h := 0) (by omega)).1 _ m2
  walk_at "w"
  walk_at "c0"
  refine ⟨s1, ⟨rfl, rfl⟩, hs.1, ?_⟩
  rw [e]
  refine wpG_lst (ds := [.int (a : Int), .int (b : Int)]) seq_l rfl ?_
  walk_at "wr"
  walk_at "m0"
  refine ⟨gs, _, _, _, ⟨rfl, rfl⟩, v, by omega, by omega, by omega, fun _ _ _ => ?_, fun q => absurd (by omega) q, fun _ q => absurd m1 q, fun _ _ q => absurd m2 q⟩
  walk_at "m0"
  refine ⟨gs, _, _, _, ⟨rfl, rfl⟩, v, by omega, by omega, by omega, fun _ _ _ => ?_, fun q => absurd (by omega) q, fun _ q => absurd m1 q, fun _ _ q => absurd m2 q⟩
  walk_at "w"
  have es' : sil gs (s1, s2) = _ := es
  rw [es'] at hf
  exact hf
theorem w_swapped_state (h : sp_swapped_state K ds O k x) (lo : ∀ p ∈ O, p.loc = false) : wpS K W (fun e _ O' => x e O') (t_swapped_state K W) (startD N_swapped_state.length ds) O { nx := fun _ O' => k .non O', rt := k } := by
  obtain ⟨gs, ⟨s1, s2⟩, ⟨rfl, rfl⟩, v, hc, hk⟩ := h
  have hs := stepB_ok hc
  have vr := v.row (h := s1.toNat) (by omega)
  have hl := v.leq (h := s1.toNat) (by omega)
  unfold t_swapped_state
  walk_at "start"
  walk_at "w"
  refine wpS_ret ?_
  walk_at "m0"
  refine wpE_fz ?_
  walk_at "c0"
  refine wpE_fz ?_
  walk_at "m0"
  refine ⟨gs, s1, ⟨rfl, rfl⟩, v.len, by omega, fun _ c => ⟨c, _, _, rfl, rfl, ?_⟩, fun q => absurd hs.1 q⟩
  walk_at "w"
  refine ⟨_, s2, ⟨rfl, rfl⟩, wrong_sm vr.1, fun _ c => ⟨c, _, _, rfl, rfl, ?_⟩, fun q => absurd ?_ q⟩
  · walk_at "w"
    have hp := (exch_perm (row gs s1.toNat) s2.toNat (by omega))
    refine ⟨gs, s1, _, ⟨rfl, rfl⟩, v, by omega, (wrong_sm vr.1).perm hp, fun _ _ _ => hk, fun q => absurd hs.1 q, fun _ q => absurd ⟨?_, hp.trans vr.2⟩ q⟩
    exact wrong_perm vr.1 hp
  · unfold resS
    rw [vr.1]
    dsimp only
    rw [if_neg (by omega)]
end
section
variable {K : PySem.W.Frag} {W : WX} {ds : List D} {O : Ow} {k : Kk} {x : Xk}
theorem VS.swp {gs : List (List Int)} (v : VS gs) {s : Int × Int} (hc : stepB gs s = true) : VS (sws gs s) := by
  have hs := stepB_ok hc
  have vr := v.row (h := s.1.toNat) (by omega)
  have hl := v.leq (h := s.1.toNat) (by omega)
  have hp := (exch_perm (Q.row gs s.1.toNat) s.2.toNat (by omega))
  exact v.set (by omega) (wrong_perm vr.1 hp) (hp.trans vr.2)
theorem row_set {gs : List (List Int)} {h j : Nat} {o : List Int} (hh : h < gs.length) : row (gs.set h o) j = if h = j then o else row gs j := by
  unfold row
  rw [List.getD_eq_getElem?_getD, List.getElem?_set, List.getD_eq_getElem?_getD]
  split
  · rename_i e
    rfl
  · rfl
theorem sws_row0 {gs : List (List Int)} (v : VS gs) {s : Int × Int} (hc : stepB gs s = true) : (row (sws gs s) 0).Perm (row gs 0) := by
  have hs := stepB_ok hc
  have hl := v.len
  have hq := v.leq (h := s.1.toNat) (by omega)
  have hp := (exch_perm (Q.row gs s.1.toNat) s.2.toNat (by omega))
  show (row (gs.set s.1.toNat (exch (row gs s.1.toNat) s.2.toNat)) 0).Perm _
  rw [row_set (by omega)]
  split
  · rename_i e
    exact hp.trans (v.row (h := s.1.toNat) (by omega)).2
  · exact List.Perm.refl _
theorem w__state_after (h : sp__state_after K ds O k x) (lo : ∀ p ∈ O, p.loc = false) : wpS K W (fun e _ O' => x e O') (t__state_after K W) (startD N__state_after.length ds) O { nx := fun _ O' => k .non O', rt := k } := by
  obtain ⟨gs, s, n, ⟨rfl, rfl⟩, v, hn, h1, h2, h3⟩ := h
  unfold t__state_after
  walk_at "start"
  walk_at "w"
  walk_at "c0"
  refine ⟨gs, s, ⟨rfl, rfl⟩, v.len, by have := v.l12 (h := 0) (by omega); omega, ?_⟩
  walk_at "w"
  refine ⟨fun hc => ?_, fun hc => ?_⟩
  · walk_at "w"
    exact ⟨fmt_small (by omega), h3 (by simpa using hc)⟩
  · have hc : stepB gs s = true := by simpa using hc
    walk_at "w"
    walk_at "c0"
    refine ⟨gs, s, ⟨rfl, rfl⟩, v, fun _ => ?_, fun q => by rw [hc] at q; cases q⟩
    walk_at "w"
    refine ⟨fun hb => ?_, fun hb => ?_⟩
    · walk_at "w"
      exact ⟨fmt_small (by omega), h2 hc (by simpa using hb)⟩
    · have hb : sil gs s = true := by simpa using hb
      walk_at "wr"
      walk_at "c0"
      exact ⟨gs, s, ⟨rfl, rfl⟩, v, hc, h1 hc hb⟩
theorem playR_cons {gs : List (List Int)} {s : Int × Int} {sw : List (Int × Int)} {n : Nat} : playR gs (s :: sw) n = if stepB gs s then (if sil gs s then playR (sws gs s) sw (n + 1) else .error (true, n)) else .error (false, n) := rfl
theorem playR_step {gs : List (List Int)} {s : Int × Int} {sw : List (Int × Int)} {n : Nat} (h1 : stepB gs s = true) (h2 : sil gs s = true) : playR gs (s :: sw) n = playR (sws gs s) sw (n + 1) := by
  show (if stepB gs s then (if sil gs s then playR (sws gs s) sw (n + 1) else .error (true, n)) else .error (false, n)) = _
  rw [h1, h2] <;> rfl
theorem w_play (h : sp_play K ds O k x) (lo : ∀ p ∈ O, p.loc = false) : wpS K W (fun e _ O' => x e O') (t_play K W) (startD N_play.length ds) O { nx := fun _ O' => k .non O', rt := k } := by
  obtain ⟨gs, sw, ⟨rfl, rfl⟩, v, hl, h1, h2⟩ := h
  unfold t_play
  walk_at "start"
  walk_at "w"
  refine wpS_seq ?_
  refine wpS_for3 2 3 4 (fun i q r s O' => O' = [] ∧ ∃ g, q = some (stD K g) ∧ VS g ∧ playR gs sw 0 = playR g (sw.drop i) i) (as := sw.zipIdx) (enc := fun p => D.tup [.int (p.2 : Nat), PyD.prD p.1]) ?_
  walk_at "w"
  refine wpE_fz ?_
  walk_at "m0"
  refine ⟨sw, ⟨rfl, rfl⟩, fun c' => ⟨c', _, _, rfl, rfl, ?_⟩⟩
  walk_at "w"
  refine ⟨_, _, rfl, seq_l, enumD_map PyD.prD sw, ⟨rfl, gs, rfl, v, rfl⟩, fun _ _ _ _ _ _ _ => seq_l, ?_, ?_⟩
  · intro i p q r s O' hp hJ
    obtain ⟨rfl, g, rfl, vg, e⟩ := hJ
    obtain ⟨st, i'⟩ := p
    obtain ⟨hst, ei⟩ := zip_get hp
    dsimp only at hst ei
    subst ei
    have hi : i' < sw.length := (List.getElem?_eq_some_iff.mp hst).1
    have hd : sw.drop i' = st :: sw.drop (i' + 1) := by
      rw [List.drop_eq_getElem_cons hi]
      rw [List.getElem?_eq_getElem hi] at hst
      rw [Option.some.inj hst]
    rw [hd] at e
    walk_at "w"
    walk_at "c0"
    refine ⟨g, st, i', ⟨rfl, rfl⟩, vg, by omega, fun hc hb => ?_, fun hc hb => ?_, fun hc => ?_⟩
    · exact ⟨_, _, _, rfl, rfl, _, rfl, vg.swp hc, by rw [e, playR_step hc hb]⟩
    · refine h2 _ ?_
      rw [e, playR_cons, hc, hb] <;> rfl
    · refine h2 _ ?_
      rw [e, playR_cons, hc] <;> rfl
  · intro q r s O' hJ
    obtain ⟨rfl, g, rfl, vg, e⟩ := hJ
    rw [List.length_zipIdx, List.drop_length] at e
    walk_at "wr"
    exact h1 g e
theorem playR_ok {gs : List (List Int)} {s : Int × Int} {sw : List (Int × Int)} {n : Nat} {g : List (List Int)} (h : playR gs (s :: sw) n = .ok g) : stepB gs s = true ∧ sil gs s = true ∧ playR (sws gs s) sw (n + 1) = .ok g := by
  have h : (if stepB gs s then (if sil gs s then playR (sws gs s) sw (n + 1) else .error (true, n)) else .error (false, n)) = Except.ok g := h
  cases h1 : stepB gs s with
  | false => rw [h1] at h; cases h
  | true =>
    cases h2 : sil gs s with
    | false => rw [h1, h2] at h; cases h
    | true => rw [h1, h2] at h; exact ⟨rfl, rfl, h⟩
theorem w_project_run (h : sp_project_run K ds O k x) (lo : ∀ p ∈ O, p.loc = false) : wpS K W (fun e _ O' => x e O') (t_project_run K W) (startD N_project_run.length ds) O { nx := fun _ O' => k .non O', rt := k } := by
  obtain ⟨gs, sw, z, ⟨rfl, rfl⟩, v, hl, hb, h1, h2⟩ := h
  unfold t_project_run
  walk_at "start"
  walk_at "w"
  walk_at "c0"
  refine wpE_fz ?_
  walk_at "m0"
  refine ⟨gs, ⟨rfl, rfl⟩, v.len, fun c' => ⟨c', _, _, rfl, rfl, ?_⟩⟩
  walk_at "w"
  refine ⟨_, z, _, ⟨rfl, rfl⟩, hb, .inl ⟨_, rfl, rfl⟩, fun hz => ?_, fun hz => ?_⟩
  · have hz : z ∈ row gs 0 := (srt_perm _).mem_iff.mp (by simpa using hz)
    obtain ⟨h2, h3⟩ := h2 hz
    walk_at "w"
    walk_at "c0"
    refine ⟨gs, sw, ⟨rfl, rfl⟩, v, hl, fun ge hge => ?_, fun e he => h3 e he⟩
    have h2 := h2 ge hge
    walk_at "w"
    refine wpE_lst false ?_
    walk_at "w"
    refine ⟨by decide, ?_⟩
    intro c _
    walk_at "w"
    refine wpS_seq ?_
    refine wpS_for4 4 5 6 7 (fun i q r s t O' => ∃ g l, q = some (stD K g) ∧ O' = [⟨c, true, prs l⟩] ∧ VS g ∧ (z ∈ row g 0) ∧ playR g (sw.drop i) i = .ok ge ∧ l ++ projL z g (sw.drop i) = projL z gs sw ∧ l.length ≤ i) (as := sw) (enc := PyD.prD) ?_
    walk_at "w"
    refine wpE_fz ?_
    walk_at "m0"
    refine ⟨sw, ⟨rfl, rfl⟩, fun c' => ⟨c', _, _, rfl, rfl, ?_⟩⟩
    walk_at "w"
    refine ⟨_, seq_l, rfl, ⟨gs, [], rfl, rfl, v, hz, hge, rfl, by simp⟩, fun _ _ _ _ _ _ _ _ => seq_l, ?_, ?_⟩
    · intro i st q r s t O' hst hJ
      obtain ⟨g, l, rfl, rfl, vg, zg, hp, hj, hll⟩ := hJ
      obtain ⟨s1, s2⟩ := st
      have hi : i < sw.length := (List.getElem?_eq_some_iff.mp hst).1
      have hd : sw.drop i = (s1, s2) :: sw.drop (i + 1) := by
        rw [List.drop_eq_getElem_cons hi]
        rw [List.getElem?_eq_getElem hi] at hst
        rw [Option.some.inj hst]
      rw [hd] at hp hj
      obtain ⟨hc, hsl, hp⟩ := playR_ok hp
      have hs := stepB_ok hc
      have h100 : 100001 ≤ sizeLine := by decide
      have pj : projL z g ((s1, s2) :: sw.drop (i + 1)) = (if ((row g s1.toNat).idxOf z : Int) < s2 then [(s1, s2 - 1)] else if s2 + 1 < ((row g s1.toNat).idxOf z : Int) then [(s1, s2)] else []) ++ projL z (sws g (s1, s2)) (sw.drop (i + 1)) := rfl
      rw [pj, ← List.append_assoc] at hj
      obtain ⟨l', hl'⟩ : ∃ l', l' = (if ((row g s1.toNat).idxOf z : Int) < s2 then [(s1, s2 - 1)] else if s2 + 1 < ((row g s1.toNat).idxOf z : Int) then [(s1, s2)] else []) := ⟨_, rfl⟩
      rw [← hl'] at hj
      have ll : l'.length ≤ 1 := by
        rw [hl']
        split
        · simp
        · split <;> simp
      walk_at "w"
      walk_at "m0"
      refine ⟨g, s1, z, ⟨rfl, rfl⟩, vg, by omega, hb, fun _ _ => ?_, fun q => absurd hs.1 q, fun _ q => absurd zg q⟩
      walk_at "w"
      refine wpS_mid (fun G O => G = [some (stD K gs), some (rnD K sw), some (D.int z), some (.mut c), some (stD K g), some (D.int s1), some (D.int s2), some (D.int ((row g s1.toNat).idxOf z : Nat))] ∧ O = [⟨c, true, prs (l ++ l')⟩]) ?_ ?_
      · walk_at "w"
        refine ⟨fun h => ?_, fun h => ?_⟩
        · have h := of_decide_eq_true h
          rw [if_pos h] at hl'
          walk_at "w"
          refine ⟨by show 2 ≤ sizeLine; decide, ?_⟩
          walk_at "w"
          refine wpM_appendC (f := PyD.prD) (x := (s1, s2 - 1)) (j := 0) rfl rfl (by omega) ?_
          walk_at "w"
          rw [hl']
          exact ⟨rfl, rfl⟩
        · have h := of_decide_eq_false h
          rw [if_neg h] at hl'
          walk_at "w"
          refine ⟨fun h => ?_, fun h => ?_⟩
          · have h := of_decide_eq_true h
            rw [if_pos h] at hl'
            walk_at "w"
            refine ⟨by show 2 ≤ sizeLine; decide, ?_⟩
            walk_at "w"
            refine wpM_appendC (f := PyD.prD) (x := (s1, s2)) (j := 0) rfl rfl (by omega) ?_
            walk_at "w"
            rw [hl']
            exact ⟨rfl, rfl⟩
          · have h := of_decide_eq_false h
            rw [if_neg h] at hl'
            walk_at "w"
            rw [hl', List.append_nil]
            exact ⟨rfl, rfl⟩
      · rintro _ _ ⟨rfl, rfl⟩
        walk_at "w"
        walk_at "c0"
        refine ⟨by show 2 ≤ sizeLine; decide, ?_⟩
        walk_at "w"
        refine ⟨g, (s1, s2), ⟨rfl, rfl⟩, vg, hc, ?_⟩
        refine ⟨_, _, _, _, rfl, _, _, rfl, rfl, vg.swp hc, ?_, hp, hj, by rw [List.length_append]; omega⟩
        exact (sws_row0 vg hc).mem_iff.mpr zg
    · intro q r s t O' hJ
      obtain ⟨g, l, rfl, rfl, vg, zg, hp, hj, hll⟩ := hJ
      rw [List.drop_length] at hj
      have e : l = projL z gs sw := by
        rw [← hj]
        show l = l ++ []
        rw [List.append_nil]
      subst e
      walk_at "w"
      refine wpS_frz (i := 3) (j := 0) rfl rfl ?_
      walk_at "wr"
      refine wpE_make (fun _ => .nil) ?_
      walk_at "w"
      refine ⟨[], lent_nil, fun s' _ => ?_⟩
      exact ⟨s', _, _, [], ⟨rfl, rfl⟩, seq_l, rfl, [], _, rfl, h2⟩
  · have hz : z ∉ row gs 0 := fun q => by
      have := (srt_perm (row gs 0)).mem_iff.mpr q
      simp [this] at hz
    exact h1 hz
end
section
variable {K : PySem.W.Frag} {W : WX} {ds : List D} {O : Ow} {k : Kk} {x : Xk}
theorem cut_from {ns : List Int} {n : Nat} (h : n ≤ ns.length) : cutD (ns.map D.int) (some (n : Int)) none = (ns.drop n).map D.int := by
  unfold cutD
  rw [HT.sIx_nat, HT.sIx_none, List.length_map, Nat.min_eq_left h, List.map_drop, List.take_of_length_le]
  rw [List.length_drop, List.length_map]
  exact Nat.le_refl _
end
section
variable {K : PySem.W.Frag} {W : WX} {ds : List D} {O : Ow} {k : Kk} {x : Xk} {ex : Ek} {G : Gm} {P : D → Ow → Prop}
/-- a draw -/
theorem wpE_take {j i : Nat} {a : Addr} {te : TE} (hi : G[i]? = some (some (.mut a))) (h : wpE K W ex te G O fun y O1 => ∃ n b d, y = .int n ∧ (1 ≤ n ∧ n < 1099511627776) ∧ O1[j]? = some ⟨a, b, d⟩ ∧ Bx d ∧ ∀ v d', 0 ≤ v → v < n → Bx d' → P (.int v) (O1.set j ⟨a, b, d'⟩)) :
    wpE K W ex (tCallSD (toSp K (sp__law_take K)) [] (WE W) (tCons (tVar i) (tCons te tNil))) G O P := by
  refine wpE_call1 (fun _ => .nil) (wpA_cons (wpE_var hi (wpA_cons (wpE_mono h fun y O1 ⟨n, b, d, e, hn, hj, hB, hk⟩ => wpA_nil ?_))))
  subst e
  exact ⟨j, a, b, d, hj, ⟨a, d, n, ⟨rfl, rfl⟩, hB, hn.1, hn.2, fun v d' v0 v1 hB' => ⟨[], d', rfl, hk v d' v0 v1 hB'⟩⟩⟩
theorem VS.v3 {gs : List (List Int)} (v : VS gs) : V3 gs := ⟨v.len, v.same, v.nd (by omega), v.l12 (by omega)⟩
theorem V3.row {gs : List (List Int)} (v : V3 gs) {h : Nat} (hh : h < 3) : (Q.row gs h).Perm (Q.row gs 0) := v.same _ (row_mem (by rw [v.len]; exact hh))
theorem V3.leq {gs : List (List Int)} (v : V3 gs) {h : Nat} (hh : h < 3) : (Q.row gs h).length = (Q.row gs 0).length := (v.row hh).length_eq
theorem V3.mem {gs : List (List Int)} (v : V3 gs) {h h' i : Nat} (hh : h < 3) (hh' : h' < 3) (hi : i < (Q.row gs 0).length) : kx gs h i ∈ Q.row gs h' := by
  unfold kx
  exact (v.row hh').mem_iff.mpr ((v.row hh).mem_iff.mp (mem_getD (by rw [v.leq hh]; exact hi)))
theorem V3.swp {gs : List (List Int)} (v : V3 gs) {s : Int × Int} (hc : stepB gs s = true) : V3 (sws gs s) ∧ (Q.row (sws gs s) 0).Perm (Q.row gs 0) := by
  have hs := stepB_ok hc
  have hl := v.len
  have hq := v.leq (h := s.1.toNat) (by omega)
  have hp := (exch_perm (Q.row gs s.1.toNat) s.2.toNat (by omega))
  have h0 : (Q.row (sws gs s) 0).Perm (Q.row gs 0) := by
    show (Q.row (gs.set s.1.toNat (exch (Q.row gs s.1.toNat) s.2.toNat)) 0).Perm _
    rw [row_set (by omega)]
    split
    · exact hp.trans (v.row (h := s.1.toNat) (by omega))
    · exact List.Perm.refl _
  refine ⟨⟨by show (gs.set _ _).length = 3; rw [List.length_set]; exact hl, fun o ho => ?_, h0.nodup_iff.mpr v.nd, by rw [h0.length_eq]; exact v.l12⟩, h0⟩
  rcases List.mem_or_eq_of_mem_set ho with ho | rfl
  · exact (v.same o ho).trans h0.symm
  · exact (hp.trans (v.row (h := s.1.toNat) (by omega))).trans h0.symm
theorem w__law_silent (h : sp__law_silent K ds O k x) (lo : ∀ p ∈ O, p.loc = false) : wpS K W (fun e _ O' => x e O') (t__law_silent K W) (startD N__law_silent.length ds) O { nx := fun _ O' => k .non O', rt := k } := by
  obtain ⟨gs, h, i, ⟨rfl, rfl⟩, v, hc, hk⟩ := h
  have hs := stepB_ok hc
  dsimp only at hs
  have hl := v.len
  have q := v.leq (h := h.toNat) (by omega)
  have e1 : ((h + 1) % 3).toNat = (h.toNat + 1) % 3 := by omega
  have e2 : ((h + 2) % 3).toNat = (h.toNat + 2) % 3 := by omega
  have e3 : (i + 1).toNat = i.toNat + 1 := by omega
  have m : ∀ j h', j ≤ i.toNat + 1 → h' < 3 → (row gs h.toNat).getD j 0 ∈ row gs h' := fun j h' hj hh => v.mem (h := h.toNat) (by omega) hh (by omega)
  unfold t__law_silent
  walk_at "start"
  walk_at "w"
  refine wpR_ixA (.inl seq_l) (rowD (by omega) (by omega)) ?_
  walk_at "w"
  refine wpR_ixA (.inl seq_l) (rowD (by omega) (by omega)) ?_
  walk_at "w"
  refine wpR_ixA (.inl seq_l) (rowD (by omega) (by omega)) ?_
  walk_at "w"
  refine wpR_ixA (.inl seq_l) (rowD (by omega) (by omega)) ?_
  rw [e1, e2, e3]
  walk_at "wr"
  refine wpM_indexI seq_l (m _ _ (by omega) (by omega)) ?_
  walk_at "w"
  refine wpM_indexI seq_l (m _ _ (by omega) (by omega)) ?_
  walk_at "w"
  refine wpM_indexI seq_l (m _ _ (by omega) (by omega)) ?_
  walk_at "w"
  refine wpM_indexI seq_l (m _ _ (by omega) (by omega)) ?_
  walk_at "w"
  have es : sil gs (h, i) = decide (decide (((row gs ((h.toNat + 1) % 3)).idxOf ((row gs h.toNat).getD i.toNat 0) : Int) < ((row gs ((h.toNat + 1) % 3)).idxOf ((row gs h.toNat).getD (i.toNat + 1) 0) : Nat)) = decide (((row gs ((h.toNat + 2) % 3)).idxOf ((row gs h.toNat).getD i.toNat 0) : Int) < ((row gs ((h.toNat + 2) % 3)).idxOf ((row gs h.toNat).getD (i.toNat + 1) 0) : Nat))) := by
    show silB gs h.toNat i.toNat = _
    unfold silB sayB kx
    simp only [Int.ofNat_lt]
  rw [es] at hk
  exact hk
theorem exch_cut {o : List Int} {i : Nat} (h : i + 1 < o.length) : (o.take i ++ [o.getD (i + 1) 0, o.getD i 0]) ++ o.drop (i + 2) = exch o i := by
  have h1 : o.getD i 0 = o[i] := by rw [List.getD_eq_getElem?_getD, List.getElem?_eq_getElem (by omega)] <;> rfl
  have h2 : o.getD (i + 1) 0 = o[i + 1] := by rw [List.getD_eq_getElem?_getD, List.getElem?_eq_getElem h] <;> rfl
  unfold exch
  rw [h1, h2]
  apply List.ext_getElem?
  intro j
  rw [List.getElem?_set, List.getElem?_set]
  have hm : (o.take i).length = i := by rw [List.length_take]; omega
  by_cases c1 : j < i
  · rw [List.getElem?_append_left (by simp; omega), List.getElem?_append_left (by omega), List.getElem?_take, if_pos c1, if_neg (by omega), if_neg (by omega)]
  · by_cases c2 : j = i
    · subst c2
      rw [List.getElem?_append_left (by simp; omega), List.getElem?_append_right (by omega), hm, Nat.sub_self, if_neg (by omega), if_pos rfl, if_pos (by omega)] <;> rfl
    · by_cases c3 : j = i + 1
      · subst c3
        rw [List.getElem?_append_left (by simp; omega), List.getElem?_append_right (by omega), hm, show i + 1 - i = 1 by omega, if_pos rfl, if_pos (by rw [List.length_set]; omega)] <;> rfl
      · rw [List.getElem?_append_right (by simp; omega), List.getElem?_drop, if_neg (by omega), if_neg (by omega)]
        congr 1
        simp
        omega
theorem w__law_swapped (h : sp__law_swapped K ds O k x) (lo : ∀ p ∈ O, p.loc = false) : wpS K W (fun e _ O' => x e O') (t__law_swapped K W) (startD N__law_swapped.length ds) O { nx := fun _ O' => k .non O', rt := k } := by
  obtain ⟨gs, h, i, ⟨rfl, rfl⟩, v, hc, hk⟩ := h
  have hs := stepB_ok hc
  dsimp only at hs
  have hl := v.len
  have q := v.leq (h := h.toNat) (by omega)
  have h12 := v.l12
  have e3 : (i + 1).toNat = i.toNat + 1 := by omega
  unfold t__law_swapped
  walk_at "start"
  walk_at "w"
  apply wpE_mapP (as := gs) (enc := L) (f := L) false (gIn_name (by decide)) gMono_name
  walk_at "w"
  refine ⟨_, seq_l, rfl, small1000 (by omega), seq_l, fun j o ho => ?_, ?_⟩
  · walk_at "w"
    refine ⟨rfl, ?_⟩
    walk_at "w"
    exact wpC_list true seq_l ⟨rfl, rfl⟩
  intro c _
  walk_at "w"
  refine wpE_slL true ?_
  walk_at "w"
  refine wpR_ixA (.inl (seq_m (i := 0) rfl)) (rowD (by omega) (by omega)) ?_
  walk_at "w"
  refine ⟨_, seq_l, ?_⟩
  have c1 : cutD ((row gs h.toNat).map D.int) none (some i) = ((row gs h.toNat).take i.toNat).map D.int := by
    have := cut_pre (ns := row gs h.toNat) (n := i.toNat) (by omega)
    rw [show ((i.toNat : Nat) : Int) = i by omega] at this
    exact this
  have c2 : cutD ((row gs h.toNat).map D.int) (some (i + 2)) none = ((row gs h.toNat).drop (i.toNat + 2)).map D.int := by
    have := cut_from (ns := row gs h.toNat) (n := i.toNat + 2) (by omega)
    rw [show ((i.toNat + 2 : Nat) : Int) = i + 2 by omega] at this
    exact this
  rw [c1]
  walk_at "w"
  refine wpE_lst true ?_
  walk_at "w"
  refine wpR_ixA (.inl (seq_m (i := 0) rfl)) (rowD (by omega) (by omega)) ?_
  walk_at "w"
  refine wpR_ixA (.inl (seq_m (i := 0) rfl)) (rowD (by omega) (by omega)) ?_
  walk_at "w"
  refine ⟨by show 2 ≤ sizeLine; decide, ?_⟩
  refine wpR_addL true lst_l lst_l (Nat.le_of_lt (small1000 (by simp; omega))) ?_
  walk_at "w"
  refine wpE_slL true ?_
  walk_at "w"
  refine wpR_ixA (.inl (seq_m (i := 0) rfl)) (rowD (by omega) (by omega)) ?_
  walk_at "w"
  refine ⟨_, seq_l, ?_⟩
  rw [c2]
  refine wpR_addL true lst_l lst_l (Nat.le_of_lt (small1000 (by simp; omega))) ?_
  walk_at "w"
  rw [e3]
  have ee : ∀ A B C : List D, A = ((row gs h.toNat).take i.toNat).map D.int → B = [D.int ((row gs h.toNat).getD (i.toNat + 1) 0), D.int ((row gs h.toNat).getD i.toNat 0)] → C = ((row gs h.toNat).drop (i.toNat + 2)).map D.int → (gs.map L).set h.toNat (D.lst (A ++ B ++ C)) = (sws gs (h, i)).map L := fun A B C e1 e2 e3 => by
    subst e1 e2 e3
    show _ = (gs.set h.toNat (exch (row gs h.toNat) i.toNat)).map L
    rw [List.map_set, ← exch_cut (o := row gs h.toNat) (i := i.toNat) (by omega)]
    show _ = (gs.map L).set h.toNat (D.lst (((row gs h.toNat).take i.toNat ++ [(row gs h.toNat).getD (i.toNat + 1) 0, (row gs h.toNat).getD i.toNat 0] ++ (row gs h.toNat).drop (i.toNat + 2)).map D.int))
    rw [List.map_append, List.map_append] <;> rfl
  rw [ee _ _ _ rfl rfl rfl]
  refine wpS_frz (i := 3) (j := 0) rfl rfl ?_
  walk_at "wr"
  exact hk
theorem w__law_whole (h : sp__law_whole K ds O k x) (lo : ∀ p ∈ O, p.loc = false) : wpS K W (fun e _ O' => x e O') (t__law_whole K W) (startD N__law_whole.length ds) O { nx := fun _ O' => k .non O', rt := k } := by
  obtain ⟨i, ⟨rfl, rfl⟩, hk⟩ := h
  unfold t__law_whole
  walk_at "start"
  walk_at "wr"
  refine wpC_isi (.int i) (b := true) (by decide +kernel) ?_
  walk_at "w"
  refine ⟨fun _ => ?_, fun h => (by cases h)⟩
  walk_at "w"
  refine wpC_isi (.int i) (b := false) (by decide +kernel) ?_
  walk_at "w"
  exact hk
theorem w__law_without (h : sp__law_without K ds O k x) (lo : ∀ p ∈ O, p.loc = false) : wpS K W (fun e _ O' => x e O') (t__law_without K W) (startD N__law_without.length ds) O { nx := fun _ O' => k .non O', rt := k } := by
  obtain ⟨gs, z, ⟨rfl, rfl⟩, hl, ho, hk⟩ := h
  unfold t__law_without
  walk_at "start"
  walk_at "w"
  refine wpE_lst false ?_
  walk_at "w"
  refine ⟨by decide, ?_⟩
  intro c _
  walk_at "w"
  refine wpS_seq ?_
  refine wpS_for1 3 (fun i q O' => O' = [⟨c, true, gD (wout z (gs.take i))⟩]) (as := gs) (enc := L) ?_
  walk_at "w"
  refine ⟨_, seq_l, rfl, rfl, fun _ _ _ _ _ => seq_l, ?_, ?_⟩
  · intro i o q O' hg hJ
    subst hJ
    have hi : i < gs.length := (List.getElem?_eq_some_iff.mp hg).1
    have ho' := ho o (List.mem_of_getElem? hg)
    walk_at "w"
    apply wpE_filP (as := o) (enc := D.int) (c := fun y => !decide (y = z)) (f := D.int) true (gIn_name (by decide)) gMono_name
    walk_at "w"
    refine ⟨_, seq_l, rfl, small1000 (by omega), seq_l, fun j y hy => ?_, ?_⟩
    · walk_at "w"
      refine ⟨rfl, ?_, fun _ => ?_⟩
      · walk_at "w"
        exact ⟨rfl, rfl⟩
      · walk_at "w"
        exact ⟨rfl, rfl⟩
    · walk_at "w"
      refine wpM_appendC (f := L) (x := o.filter fun y => !decide (y = z)) (j := 0) rfl rfl (small1000 (by unfold wout; rw [List.length_map, List.length_take]; omega)) ?_
      walk_at "w"
      have e : wout z (gs.take (i + 1)) = wout z (gs.take i) ++ [o.filter fun y => !decide (y = z)] := by
        unfold wout
        rw [List.take_succ, hg]
        simp
      rw [e]
  · intro q O' hJ
    subst hJ
    rw [List.take_length]
    refine wpS_frz (i := 2) (j := 0) rfl rfl ?_
    walk_at "wr"
    exact hk
theorem w__law_made (h : sp__law_made K ds O k x) (lo : ∀ p ∈ O, p.loc = false) : wpS K W (fun e _ O' => x e O') (t__law_made K W) (startD N__law_made.length ds) O { nx := fun _ O' => k .non O', rt := k } := by
  obtain ⟨gs, ⟨rfl, rfl⟩, v, hk⟩ := h
  obtain ⟨a, b, c, rfl⟩ := v.three
  unfold t__law_made
  walk_at "start"
  walk_at "wr"
  refine wpE_make (fun _ => .nil) ?_
  walk_at "w"
  refine wpC_list true seq_l ?_
  walk_at "w"
  refine wpC_list true seq_l ?_
  walk_at "w"
  refine wpC_list true seq_l ?_
  walk_at "w"
  refine ⟨[], lent_nil, fun s _ => ⟨s, _, _, _, a, b, c, [], ⟨rfl, rfl⟩, ⟨seq_l, seq_l, seq_l⟩, ⟨wrong_sm (v.ok _ (by simp)), wrong_sm (v.ok _ (by simp)), wrong_sm (v.ok _ (by simp))⟩, fun _ => ⟨rfl, [], _, rfl, hk⟩, fun q hq => ?_⟩⟩
  rw [v.rep] at hq
  cases hq
theorem w__law_steps (h : sp__law_steps K ds O k x) (lo : ∀ p ∈ O, p.loc = false) : wpS K W (fun e _ O' => x e O') (t__law_steps K W) (startD N__law_steps.length ds) O { nx := fun _ O' => k .non O', rt := k } := by
  obtain ⟨sw, ⟨rfl, rfl⟩, hk⟩ := h
  unfold t__law_steps
  walk_at "start"
  walk_at "w"
  refine wpC_isC ?_
  walk_at "w"
  refine ⟨fun h => (by cases h), fun _ => ?_⟩
  walk_at "w"
  walk_at "m0"
  refine ⟨sw, ⟨rfl, rfl⟩, fun c => ?_⟩
  walk_at "w"
  refine wpC_isi (.own (List.mem_cons_self)) (b := true) (by decide +kernel) ?_
  walk_at "w"
  refine ⟨fun h => (by cases h), fun _ => ?_⟩
  walk_at "w"
  refine wpS_seq ?_
  refine wpS_for1 2 (fun i q O' => O' = [⟨c, true, prs sw⟩]) (as := sw) (enc := PyD.prD) ?_
  walk_at "w"
  refine ⟨_, seq_m (i := 0) rfl, rfl, rfl, fun _ _ _ _ hO => by subst hO; exact seq_m (i := 0) rfl, ?_, ?_⟩
  · intro i s q O' hg hJ
    subst hJ
    walk_at "w"
    apply wpS_iteP (c := false) ?_ ⟨fun h => (by cases h), fun _ => ?_⟩
    · refine wpT_mono (wpT_orP (c1 := false) (c2 := false) ?_ fun _ => ?_) fun b O' h => h
      · walk_at "w"
        refine wpC_isi (.tup _) (b := true) (by decide +kernel) ?_
        walk_at "w"
        exact ⟨rfl, rfl⟩
      · walk_at "w"
        exact ⟨by simp, rfl⟩
    walk_at "w"
    apply wpS_iteP (c := false) ?_ ⟨fun h => (by cases h), fun _ => ?_⟩
    · refine wpT_mono (wpT_orP (c1 := false) (c2 := false) ?_ fun _ => ?_) fun b O' h => h
      · walk_at "w"
        walk_at "c0"
        refine ⟨s.1, ⟨rfl, rfl⟩, ?_⟩
        walk_at "w"
        exact ⟨rfl, rfl⟩
      · walk_at "w"
        walk_at "c0"
        refine ⟨s.2, ⟨rfl, rfl⟩, ?_⟩
        walk_at "w"
        exact ⟨rfl, rfl⟩
    walk_at "w"
  · intro q O' hJ
    subst hJ
    walk_at "wr"
    exact hk c
end
section
variable {K : PySem.W.Frag} {W : WX} {ds : List D} {O : Ow} {k : Kk} {x : Xk}
theorem drop_cons {α : Type} {l : List α} {i : Nat} {a : α} (h : l[i]? = some a) : l.drop i = a :: l.drop (i + 1) := by
  have hi : i < l.length := (List.getElem?_eq_some_iff.mp h).1
  rw [List.drop_eq_getElem_cons hi]
  rw [List.getElem?_eq_getElem hi] at h
  rw [Option.some.inj h]
theorem playR_any {gs : List (List Int)} {sw : List (Int × Int)} {n : Nat} {g : List (List Int)} (h : playR gs sw n = .ok g) (m : Nat) : playR gs sw m = .ok g := by
  induction sw generalizing gs n m with
  | nil => exact h
  | cons s sw ih =>
    obtain ⟨h1, h2, h3⟩ := playR_ok h
    rw [playR_step h1 h2]
    exact ih h3 _
theorem okR_cons {gs : List (List Int)} {s : Int × Int} {sw : List (Int × Int)} (h : okR gs (s :: sw)) : stepB gs s = true ∧ sil gs s = true ∧ okR (sws gs s) sw := by
  obtain ⟨g, hg⟩ := h
  obtain ⟨h1, h2, h3⟩ := playR_ok hg
  exact ⟨h1, h2, g, playR_any h3 0⟩
theorem okR_mk {gs : List (List Int)} {s : Int × Int} {sw : List (Int × Int)} (h1 : stepB gs s = true) (h2 : sil gs s = true) (h3 : okR (sws gs s) sw) : okR gs (s :: sw) := by
  obtain ⟨g, hg⟩ := h3
  exact ⟨g, by rw [playR_step h1 h2]; exact playR_any hg 1⟩
theorem okR_end {gs : List (List Int)} {sw : List (Int × Int)} {g : List (List Int)} (h : playR gs sw 0 = .ok g) : g = endL gs sw := by
  induction sw generalizing gs with
  | nil => cases h; rfl
  | cons s sw ih =>
    obtain ⟨h1, h2, h3⟩ := playR_ok h
    exact ih (playR_any h3 0)
theorem w__law_played (h : sp__law_played K ds O k x) (lo : ∀ p ∈ O, p.loc = false) : wpS K W (fun e _ O' => x e O') (t__law_played K W) (startD N__law_played.length ds) O { nx := fun _ O' => k .non O', rt := k } := by
  obtain ⟨gs, sw, ⟨rfl, rfl⟩, v, ho, hk⟩ := h
  unfold t__law_played
  walk_at "start"
  walk_at "w"
  refine wpS_seq ?_
  refine wpS_for2 2 3 (fun i q r O' => O' = [] ∧ ∃ g, q = some (gD g) ∧ V3 g ∧ okR g (sw.drop i) ∧ endL g (sw.drop i) = endL gs sw) (as := sw) (enc := PyD.prD) ?_
  walk_at "w"
  refine ⟨_, seq_l, rfl, ⟨rfl, gs, rfl, v, ho, rfl⟩, fun _ _ _ _ _ _ => seq_l, ?_, ?_⟩
  · intro i s q r O' hg hJ
    obtain ⟨rfl, g, rfl, vg, og, eg⟩ := hJ
    rw [drop_cons hg] at og eg
    obtain ⟨o1, o2, o3⟩ := okR_cons og
    walk_at "w"
    walk_at "c0"
    exact ⟨g, s.1, s.2, ⟨rfl, rfl⟩, vg, o1, _, _, rfl, rfl, _, rfl, (vg.swp o1).1, o3, eg⟩
  · intro q r O' hJ
    obtain ⟨rfl, g, rfl, vg, og, eg⟩ := hJ
    rw [List.drop_length] at eg
    walk_at "wr"
    have eg : g = endL gs sw := eg
    rw [eg]
    exact hk
theorem w__law_pairs (h : sp__law_pairs K ds O k x) (lo : ∀ p ∈ O, p.loc = false) : wpS K W (fun e _ O' => x e O') (t__law_pairs K W) (startD N__law_pairs.length ds) O { nx := fun _ O' => k .non O', rt := k } := by
  obtain ⟨gs, d, sw, A, ⟨rfl, rfl⟩, hd, v, hl, ho, hk⟩ := h
  unfold t__law_pairs
  walk_at "start"
  walk_at "w"
  refine wpE_lst false ?_
  walk_at "w"
  refine ⟨by decide, ?_⟩
  intro c _
  walk_at "w"
  refine wpS_seq ?_
  refine wpS_for4 2 4 5 6 (fun i q r s t O' => ∃ g l, q = some (gD g) ∧ O' = ⟨c, true, .lst (l.map trD)⟩ :: O ∧ V3 g ∧ okR g (sw.drop i) ∧ endL g (sw.drop i) = endL gs sw ∧ l ++ pairsL g (sw.drop i) = pairsL gs sw ∧ l.length ≤ i) (as := sw) (enc := PyD.prD) ?_
  walk_at "w"
  refine ⟨_, seq_weak hd, rfl, ⟨gs, [], rfl, rfl, v, ho, rfl, rfl, by simp⟩, fun _ _ _ _ _ _ _ hJ => ?_, ?_, ?_⟩
  · obtain ⟨g, l, _, rfl, _⟩ := hJ
    exact seq_weak hd
  · intro i s q r t u O' hg hJ
    obtain ⟨g, l, rfl, rfl, vg, og, eg, pg, hll⟩ := hJ
    obtain ⟨s1, s2⟩ := s
    have hi : i < sw.length := (List.getElem?_eq_some_iff.mp hg).1
    rw [drop_cons hg] at og eg pg
    obtain ⟨o1, o2, o3⟩ := okR_cons og
    have hs := stepB_ok o1
    dsimp only at hs
    have vl := vg.len
    have vq := vg.leq (h := s1.toNat) (by omega)
    walk_at "w"
    apply wpS_iteP (c := false) ?_ ⟨fun h => (by cases h), fun _ => ?_⟩
    · refine wpT_mono (wpT_orP (c1 := false) (c2 := false) ?_ fun _ => ?_) fun b O' h => h
      · walk_at "w"
        refine ⟨fun h => ?_, fun h => ?_⟩
        · walk_at "w"
          exact ⟨by simp; omega, rfl⟩
        · have := of_decide_eq_false h
          omega
      · walk_at "w"
        refine ⟨fun h => ?_, fun h => ?_⟩
        · walk_at "w"
          refine wpR_ixA (.inl seq_l) (rowD (by omega) (by omega)) ?_
          walk_at "w"
          exact ⟨by simp; omega, rfl⟩
        · have := of_decide_eq_false h
          omega
    walk_at "w"
    walk_at "c0"
    refine ⟨g, s1, s2, ⟨rfl, rfl⟩, vg, o1, ?_⟩
    rw [o2]
    walk_at "w"
    refine ⟨fun h => (by cases h), fun _ => ?_⟩
    walk_at "w"
    refine wpR_ixA (.inl seq_l) (rowD (by omega) (by omega)) ?_
    walk_at "w"
    refine wpR_ixA (.inl seq_l) (rowD (by omega) (by omega)) ?_
    walk_at "w"
    refine ⟨by show 3 ≤ sizeLine; decide, ?_⟩
    walk_at "w"
    have e3 : (s2 + 1).toNat = s2.toNat + 1 := by omega
    refine wpM_appendC (f := trD) (x := (s1, kx g s1.toNat s2.toNat, kx g s1.toNat (s2.toNat + 1))) (j := 0) rfl (by rw [e3] <;> rfl) (small1000 (by omega)) ?_
    walk_at "w"
    walk_at "c0"
    refine ⟨g, s1, s2, ⟨rfl, rfl⟩, vg, o1, ?_⟩
    refine ⟨_, _, _, _, rfl, _, _, rfl, rfl, (vg.swp o1).1, o3, eg, ?_, by simp; omega⟩
    rw [List.append_assoc]
    exact pg
  · intro q r s t O' hJ
    obtain ⟨g, l, rfl, rfl, vg, og, eg, pg, hll⟩ := hJ
    rw [List.drop_length] at eg pg
    have eg : g = endL gs sw := eg
    have pg' : l = pairsL gs sw := (List.append_nil l).symm.trans pg
    subst eg pg'
    walk_at "w"
    refine wpS_frz (i := 3) (j := 0) rfl rfl ?_
    walk_at "wr"
    refine wpE_lst true ?_
    walk_at "w"
    refine ⟨by show 2 ≤ sizeLine; decide, ?_⟩
    exact hk
theorem w__law_ways (h : sp__law_ways K ds O k x) (lo : ∀ p ∈ O, p.loc = false) : wpS K W (fun e _ O' => x e O') (t__law_ways K W) (startD N__law_ways.length ds) O { nx := fun _ O' => k .non O', rt := k } := by
  obtain ⟨gs, ⟨rfl, rfl⟩, v, hk⟩ := h
  have vl := v.len
  have v12 := v.l12
  unfold t__law_ways
  walk_at "start"
  walk_at "w"
  refine wpE_lst false ?_
  walk_at "w"
  refine ⟨by decide, ?_⟩
  intro c _
  walk_at "w"
  refine wpS_seq ?_
  refine wpS_for2 3 4 (fun i q r O' => ∃ ws : List (Int × Int), O' = [⟨c, true, prs ws⟩] ∧ (∀ s ∈ ws, stepB gs s = true ∧ sil gs s = true) ∧ ws.length ≤ i * 12) (as := [0, 1, 2]) (enc := D.int) ?_
  walk_at "w"
  refine ⟨rfl, ⟨[], rfl, by simp, by simp⟩, fun _ _ _ _ _ _ => trivial, ?_, ?_⟩
  · intro i h q r O' hh hJ
    obtain ⟨ws, rfl, hw, hwl⟩ := hJ
    have hi : i < 3 := (List.getElem?_eq_some_iff.mp hh).1
    have hb : 0 ≤ h ∧ h < 3 := by
      have hm := List.mem_of_getElem? hh
      simp only [List.mem_cons, List.not_mem_nil, or_false] at hm
      omega
    walk_at "w"
    refine wpS_for1 4 (fun j q O' => ∃ ws : List (Int × Int), O' = [⟨c, true, prs ws⟩] ∧ (∀ s ∈ ws, stepB gs s = true ∧ sil gs s = true) ∧ ws.length ≤ i * 12 + j) (as := List.range ((row gs 0).length - 1 : Int).toNat) (enc := fun (i : Nat) => D.int (0 + (i : Int))) ?_
    walk_at "w"
    refine wpR_ixA (.inl seq_l) (rowD (by omega) (by omega)) ?_
    walk_at "w"
    refine ⟨⟨by omega, by omega⟩, rfl, ⟨ws, rfl, hw, by omega⟩, fun _ _ _ _ _ => trivial, ?_, ?_⟩
    · intro j j' q O' hj hJ
      obtain ⟨rfl, hj⟩ := range_get hj
      obtain ⟨ws, rfl, hw, hwl⟩ := hJ
      have hst : stepB gs (h, 0 + (j' : Int)) = true := by
        unfold stepB
        simp only [Bool.and_eq_true, decide_eq_true_eq]
        omega
      walk_at "w"
      walk_at "c0"
      refine ⟨gs, h, 0 + (j' : Int), ⟨rfl, rfl⟩, v, hst, ?_⟩
      walk_at "w"
      refine ⟨fun hs => ?_, fun hs => ?_⟩
      · walk_at "w"
        refine ⟨by show 2 ≤ sizeLine; decide, ?_⟩
        walk_at "w"
        refine wpM_appendC (f := PyD.prD) (x := (h, 0 + (j' : Int))) (j := 0) rfl rfl (small1000 (by omega)) ?_
        walk_at "w"
        refine ⟨fun s hs' => ?_, by simp; omega⟩
        rcases List.mem_append.mp hs' with hs' | hs'
        · exact hw s hs'
        · rw [List.mem_singleton.mp hs']
          exact ⟨hst, hs⟩
      · walk_at "w"
        exact ⟨hw, by omega⟩
    · intro q O' hJ
      obtain ⟨ws, rfl, hw, hwl⟩ := hJ
      rw [List.length_range] at hwl
      exact ⟨_, _, rfl, ws, rfl, hw, by omega⟩
  · intro q r O' hJ
    obtain ⟨ws, rfl, hw, hwl⟩ := hJ
    refine wpS_frz (i := 2) (j := 0) rfl rfl ?_
    walk_at "wr"
    exact hk ws hw (by simp at hwl; omega)
end
section
variable {K : PySem.W.Frag} {W : WX} {ds : List D} {O : Ow} {k : Kk} {x : Xk}
theorem okR_append {gs : List (List Int)} {a b : List (Int × Int)} : okR gs (a ++ b) ↔ okR gs a ∧ okR (endL gs a) b := by
  induction a generalizing gs with
  | nil => exact ⟨fun h => ⟨⟨gs, rfl⟩, h⟩, fun h => h.2⟩
  | cons s a ih =>
    constructor
    · intro h
      obtain ⟨h1, h2, h3⟩ := okR_cons h
      obtain ⟨h4, h5⟩ := ih.mp h3
      exact ⟨okR_mk h1 h2 h4, h5⟩
    · rintro ⟨h, h'⟩
      obtain ⟨h1, h2, h3⟩ := okR_cons h
      exact okR_mk h1 h2 (ih.mpr ⟨h3, h'⟩)
theorem endL_append {gs : List (List Int)} {a b : List (Int × Int)} : endL gs (a ++ b) = endL (endL gs a) b := List.foldl_append
theorem endL_v3 {gs : List (List Int)} (v : V3 gs) {sw : List (Int × Int)} (h : okR gs sw) : V3 (endL gs sw) ∧ (row (endL gs sw) 0).Perm (row gs 0) := by
  induction sw generalizing gs with
  | nil => exact ⟨v, .refl _⟩
  | cons s sw ih =>
    obtain ⟨h1, h2, h3⟩ := okR_cons h
    obtain ⟨a, b⟩ := v.swp h1
    obtain ⟨c, d⟩ := ih a h3
    exact ⟨c, d.trans b⟩
theorem w__law_walk (h : sp__law_walk K ds O k x) (lo : ∀ p ∈ O, p.loc = false) : wpS K W (fun e _ O' => x e O') (t__law_walk K W) (startD N__law_walk.length ds) O { nx := fun _ O' => k .non O', rt := k } := by
  obtain ⟨b, d, gs, n, ⟨rfl, rfl⟩, hB, v, n0, n1, hk⟩ := h
  unfold t__law_walk
  walk_at "start"
  walk_at "w"
  refine wpE_lst false ?_
  walk_at "w"
  refine ⟨by decide, ?_⟩
  intro c _
  walk_at "w"
  refine wpS_mid (fun G O => ∃ sw d q4 q6 q7 q8, G = [some (.mut b), some (gD gs), some (.int n), some (.tup [.int 0, .int 1, .int 2]), q4, some (.mut c), q6, q7, q8] ∧ O = [⟨c, true, prs sw⟩, ⟨b, false, d⟩] ∧ Bx d ∧ okR gs sw ∧ (sw.length : Int) ≤ n) ?_ ?_
  · refine wpS_for4 4 6 7 8 (fun i q r s t O' => ∃ sw d, q = some (gD (endL gs sw)) ∧ O' = [⟨c, true, prs sw⟩, ⟨b, false, d⟩] ∧ Bx d ∧ okR gs sw ∧ sw.length ≤ i) (as := List.range n.toNat) (enc := fun (i : Nat) => D.int (0 + (i : Int))) ?_
    walk_at "w"
    refine ⟨⟨by omega, by omega⟩, rfl, ⟨[], d, rfl, rfl, hB, ⟨gs, rfl⟩, by simp⟩, fun _ _ _ _ _ _ _ _ => trivial, ?_, ?_⟩
    · intro i i' q r s t O' hi hJ
      obtain ⟨rfl, hi⟩ := range_get hi
      obtain ⟨sw, d, rfl, rfl, hB, ho, hl⟩ := hJ
      obtain ⟨ve, _⟩ := endL_v3 v ho
      walk_at "w"
      walk_at "c0"
      refine ⟨_, ⟨rfl, rfl⟩, ve, fun ws hw hwl => ?_⟩
      walk_at "w"
      refine ⟨fun hc => ?_, fun hc => ?_⟩
      · walk_at "w"
        exact ⟨sw, d, _, _, _, _, rfl, rfl, hB, ho, by omega⟩
      · have hp : 0 < ws.length := by
          cases ws with
          | nil => simp at hc
          | cons a l => simp
        walk_at "w"
        refine wpE_take (j := 1) rfl ?_
        walk_at "w"
        refine ⟨_, _, _, rfl, ⟨by simp; omega, by simp; omega⟩, rfl, hB, fun u d u0 u1 hB => ?_⟩
        rw [List.length_map] at u1
        obtain ⟨st, hst⟩ : ∃ st, ws[u.toNat]? = some st := ⟨_, List.getElem?_eq_getElem (by omega)⟩
        obtain ⟨w1, w2⟩ := hw st (List.mem_of_getElem? hst)
        refine wpR_ixA (.inl seq_l) (atI_nn u0 (y := PyD.prD st) (by rw [List.getElem?_map, hst] <;> rfl)) ?_
        walk_at "w"
        refine wpM_appendC (f := PyD.prD) (x := st) (j := 0) rfl rfl (small1000 (by omega)) ?_
        walk_at "w"
        walk_at "c0"
        refine ⟨_, st.1, st.2, ⟨rfl, rfl⟩, ve, w1, ?_⟩
        have e : sws (endL gs sw) (st.1, st.2) = endL gs (sw ++ [st]) := by
          rw [endL_append] <;> rfl
        exact ⟨_, _, _, _, rfl, sw ++ [st], _, by rw [← e], rfl, hB, okR_append.mpr ⟨ho, okR_mk w1 w2 ⟨_, rfl⟩⟩, by simp; omega⟩
    · intro q r s t O' hJ
      obtain ⟨sw, d, rfl, rfl, hB, ho, hl⟩ := hJ
      rw [List.length_range] at hl
      exact ⟨sw, d, _, _, _, _, rfl, rfl, hB, ho, by omega⟩
  · rintro _ _ ⟨sw, d, q4, q6, q7, q8, rfl, rfl, hB, ho, hl⟩
    refine wpS_frz (i := 5) (j := 0) rfl rfl ?_
    walk_at "wr"
    exact hk sw d hB ho hl
theorem ins_perm (a : List Int) (i : Nat) (z : Int) : (a.take i ++ [z] ++ a.drop i).Perm (z :: a) := by
  have : (a.take i ++ [z] ++ a.drop i).Perm ([z] ++ (a.take i ++ a.drop i)) := by
    rw [← List.append_assoc]
    exact List.perm_append_comm.append_right _
  rw [List.take_append_drop] at this
  exact this
theorem w__law_strange (h : sp__law_strange K ds O k x) (lo : ∀ p ∈ O, p.loc = false) : wpS K W (fun e _ O' => x e O') (t__law_strange K W) (startD N__law_strange.length ds) O { nx := fun _ O' => k .non O', rt := k } := by
  obtain ⟨b, d, ks, ⟨rfl, rfl⟩, hB, hn, hl, hk⟩ := h
  unfold t__law_strange
  walk_at "start"
  walk_at "w"
  refine wpE_take (j := 0) rfl ?_
  walk_at "w"
  refine ⟨_, _, _, rfl, ⟨by omega, by omega⟩, rfl, hB, fun u d u0 u1 hB => ?_⟩
  walk_at "w"
  refine wpS_seq ?_
  refine wpS_for2 2 3 (fun i q r O' => O' = [⟨b, false, d⟩] ∧ ∃ z : Int, q = some (.int z) ∧ u ≤ z ∧ z ≤ u + i ∧ (z ∉ ks ∨ (z = u + i ∧ ∀ j : Nat, j < i → u + (j : Int) ∈ ks))) (as := List.range ks.length) (enc := fun (i : Nat) => D.int (0 + (i : Int))) ?_
  walk_at "w"
  refine ⟨⟨by omega, by omega⟩, by rw [rngD_map]; simp, ⟨rfl, u, rfl, by omega, by omega, .inr ⟨by omega, fun j hj => by omega⟩⟩, fun _ _ _ _ _ _ => trivial, ?_, ?_⟩
  · intro i i' q r O' hi hJ
    obtain ⟨rfl, hi⟩ := range_get hi
    obtain ⟨rfl, z, rfl, z0, z1, hz⟩ := hJ
    walk_at "w"
    refine wpR_inI (.inl seq_l) ?_
    walk_at "w"
    refine ⟨fun hc => ?_, fun hc => ?_⟩
    · have hc : z ∈ ks := by simpa using hc
      walk_at "w"
      refine ⟨_, _, rfl, rfl, _, rfl, by omega, by omega, .inr ?_⟩
      rcases hz with hz | ⟨hz, ha⟩
      · exact absurd hc hz
      · refine ⟨by omega, fun j hj => ?_⟩
        by_cases e : j = i'
        · rw [e, ← hz]
          exact hc
        · exact ha j (by omega)
    · have hc : z ∉ ks := by simpa using hc
      walk_at "w"
      exact ⟨_, _, rfl, rfl, _, rfl, by omega, by omega, .inl hc⟩
  · intro q r O' hJ
    obtain ⟨rfl, z, rfl, z0, z1, hz⟩ := hJ
    rw [List.length_range] at z1 hz
    walk_at "wr"
    refine hk z d hB ?_ (by omega)
    rcases hz with hz | ⟨hz, ha⟩
    · exact hz
    · intro hm
      have hsub : ((List.range (ks.length + 1)).map fun (j : Nat) => u + (j : Int)) ⊆ ks := by
        intro y hy
        obtain ⟨j, hj, rfl⟩ := List.mem_map.mp hy
        have hj := List.mem_range.mp hj
        by_cases e : j = ks.length
        · rw [e, ← hz]
          exact hm
        · exact ha j (by omega)
      have hnd : ((List.range (ks.length + 1)).map fun (j : Nat) => u + (j : Int)).Nodup := by
        rw [List.Nodup, List.pairwise_map]
        exact List.nodup_range.imp fun hne e => hne (by omega)
      have := hnd.length_le_of_subset hsub
      simp at this
      omega
theorem w__law_put_in (h : sp__law_put_in K ds O k x) (lo : ∀ p ∈ O, p.loc = false) : wpS K W (fun e _ O' => x e O') (t__law_put_in K W) (startD N__law_put_in.length ds) O { nx := fun _ O' => k .non O', rt := k } := by
  obtain ⟨b, r0, r1, r2, d, a0, a1, a2, z, ⟨rfl, rfl⟩, hB, ⟨hl, e1, e2⟩, hk⟩ := h
  unfold t__law_put_in
  walk_at "start"
  walk_at "w"
  refine wpE_take (j := 0) rfl ?_
  walk_at "w"
  refine ⟨_, _, _, rfl, ⟨by omega, by omega⟩, rfl, hB, fun u d u0 u1 hB => ?_⟩
  walk_at "w"
  refine wpE_take (j := 0) rfl ?_
  walk_at "w"
  refine ⟨_, _, _, rfl, ⟨by omega, by omega⟩, rfl, hB, fun p d p0 p1 hB => ?_⟩
  walk_at "w"
  -- the three rows, one after the other
  have one : ∀ (j : Nat) (r : Addr) (a : List Int) (O : Ow) (d : D) (p : Int) (q5 : Option D) (E : EnD), (j = 1 ∨ j = 2 ∨ j = 3) → O[j]? = some ⟨r, false, L a⟩ → O[0]? = some ⟨b, false, d⟩ → Bx d → a.length = a0.length → 0 ≤ p → p < (a0.length : Int) + 1 →
      (∀ d' p' b0, Bx d' → 0 ≤ p' → p' < (a0.length : Int) + 1 → b0.Perm (z :: a) → E.nx [some (.mut b), some (.lst [.mut r0, .mut r1, .mut r2]), some (.int z), some (.int u), some (.int p'), some (.mut r)] ((O.set 0 ⟨b, false, d'⟩).set j ⟨r, false, L b0⟩)) →
      wpS K W (fun e _ O' => x e O') (tSeq (tIfS (tTest (tOp (rEqA K) (tVar 3) (tC (.int 0)))) (tAsg (tCallSD (toSp K (sp__law_take K)) [] (WE W) (tCons (tVar 0) (tCons (tOp rAddA (tCB (rLenA K) (tCons (tVar 5) (tNil))) (tC (.int 1))) (tNil)))) (gName 4)) (tNext))
        (tDrop (tBM K "list" rInsert (tVar 5) (tCons (tVar 4) (tCons (tVar 2) (tNil)))))) [some (.mut b), some (.lst [.mut r0, .mut r1, .mut r2]), some (.int z), some (.int u), some (.int p), some (.mut r)] O E := by
    intro j r a O d p q5 E hj3 hj h0 hB ha p0 p1 hn
    refine wpS_mid (fun G O' => ∃ d' p', Bx d' ∧ 0 ≤ p' ∧ p' < (a0.length : Int) + 1 ∧ G = [some (.mut b), some (.lst [.mut r0, .mut r1, .mut r2]), some (.int z), some (.int u), some (.int p'), some (.mut r)] ∧ O' = O.set 0 ⟨b, false, d'⟩) ?_ ?_
    · walk_at "w"
      refine ⟨fun hc => ?_, fun hc => ?_⟩
      · walk_at "w"
        refine wpE_take (j := 0) rfl ?_
        walk_at "w"
        refine wpC_lenI (seq_m hj) ?_
        walk_at "w"
        refine ⟨_, _, _, rfl, ⟨by omega, by omega⟩, h0, hB, fun p d p0 p1 hB => ?_⟩
        walk_at "w"
        exact ⟨d, p, hB, p0, by omega, rfl, rfl⟩
      · walk_at "w"
        refine ⟨d, p, hB, p0, p1, rfl, ?_⟩
        apply List.ext_getElem?
        intro i
        rw [List.getElem?_set]
        split
        · rename_i e
          subst e
          rw [h0, if_pos]
          exact (List.getElem?_eq_some_iff.mp h0).1
        · rfl
    · rintro _ _ ⟨d', p', hB', p0', p1', rfl, rfl⟩
      have hj' : (O.set 0 ⟨b, false, d'⟩)[j]? = some ⟨r, false, L a⟩ := by
        rw [List.getElem?_set_ne (by omega)]
        exact hj
      walk_at "w"
      refine ⟨⟨_, seq_m hj'⟩, ?_⟩
      walk_at "w"
      refine wpM_insertI hj' (by omega) p0' (by omega) ?_
      exact hn d' p' _ hB' p0' p1' (ins_perm a p'.toNat z)
  refine wpS_for2 4 5 (fun i q r O' => ∃ (d' : D) (p' : Int) (l0 l1 l2 : List Int), q = some (.int p') ∧ O' = [⟨b, false, d'⟩, ⟨r0, false, L l0⟩, ⟨r1, false, L l1⟩, ⟨r2, false, L l2⟩] ∧ Bx d' ∧ (0 ≤ p' ∧ p' < (a0.length : Int) + 1) ∧
    (if 0 < i then l0.Perm (z :: a0) else l0 = a0) ∧ (if 1 < i then l1.Perm (z :: a1) else l1 = a1) ∧ (if 2 < i then l2.Perm (z :: a2) else l2 = a2)) (as := [r0, r1, r2]) (enc := D.mut) ?_
  walk_at "w"
  refine ⟨_, seq_l, rfl, ⟨d, p, a0, a1, a2, rfl, rfl, hB, ⟨p0, p1⟩, rfl, rfl, rfl⟩, fun _ _ _ _ _ _ => seq_l, ?_, ?_⟩
  · intro i r q q5 O' hr hJ
    obtain ⟨d, p, l0, l1, l2, rfl, rfl, hB, ⟨p0, p1⟩, h0, h1, h2⟩ := hJ
    have hi : i < 3 := (List.getElem?_eq_some_iff.mp hr).1
    have : i = 0 ∨ i = 1 ∨ i = 2 := by omega
    rcases this with rfl | rfl | rfl
    · cases hr
      obtain rfl : l0 = a0 := h0
      walk_at "w"
      refine one 1 r0 l0 _ d p none _ (by omega) rfl rfl hB rfl p0 p1 fun d' p' b0 hB' p0' p1' hp => ?_
      exact ⟨_, _, rfl, _, _, b0, l1, l2, rfl, rfl, hB', ⟨p0', p1'⟩, hp, h1, h2⟩
    · cases hr
      obtain rfl : l1 = a1 := h1
      walk_at "w"
      refine one 2 r1 l1 _ d p none _ (by omega) rfl rfl hB e1 p0 p1 fun d' p' b0 hB' p0' p1' hp => ?_
      exact ⟨_, _, rfl, _, _, l0, b0, l2, rfl, rfl, hB', ⟨p0', p1'⟩, h0, hp, h2⟩
    · cases hr
      obtain rfl : l2 = a2 := h2
      walk_at "w"
      refine one 3 r2 l2 _ d p none _ (by omega) rfl rfl hB e2 p0 p1 fun d' p' b0 hB' p0' p1' hp => ?_
      exact ⟨_, _, rfl, _, _, l0, l1, b0, rfl, rfl, hB', ⟨p0', p1'⟩, h0, h1, hp⟩
  · intro q r O' hJ
    obtain ⟨d, p, l0, l1, l2, rfl, rfl, hB, _, h0, h1, h2⟩ := hJ
    exact hk d l0 l1 l2 hB h0 h1 h2
end
section
variable {K : PySem.W.Frag} {W : WX} {ds : List D} {O : Ow} {k : Kk} {x : Xk}
theorem cut_mid {ns : List Int} {a b : Nat} (h1 : a ≤ b) (h2 : b ≤ ns.length) : cutD (ns.map D.int) (some (a : Int)) (some (b : Int)) = ((ns.drop a).take (b - a)).map D.int := by
  unfold cutD
  rw [HT.sIx_nat, HT.sIx_nat, List.length_map, Nat.min_eq_left h2, Nat.min_eq_left (by omega), List.map_take, List.map_drop]
theorem fresh_ok {o : List Int} (hn : o.Nodup) (hl : o.length ≤ 12) (hb : ∀ z ∈ o, 0 ≤ z ∧ z ≤ 9999) : wrong o = none := wrong_none fun j hj => by
  have hr := hb _ (List.getElem_mem hj)
  rw [bad_parts (List.getElem?_eq_getElem hj)]
  simp only [Bool.or_eq_false_iff, decide_eq_false_iff_not]
  refine ⟨by omega, by omega, by omega, fun hm => ?_⟩
  obtain ⟨i, hi, e⟩ := List.getElem_of_mem hm
  rw [List.length_take] at hi
  rw [List.getElem_take] at e
  have := nd_ix hn (List.getElem?_eq_getElem (by omega)) ((List.getElem?_eq_getElem hj).trans (congrArg some e.symm))
  omega
theorem vs3 {a b c ks : List Int} (h : wrong ks = none) (ha : a.Perm ks) (hb : b.Perm ks) (hc : c.Perm ks) : VS [a, b, c] := by
  refine ⟨rfl, fun o ho => ?_, fun o ho => ?_⟩
  · simp only [List.mem_cons, List.not_mem_nil, or_false] at ho
    rcases ho with rfl | rfl | rfl
    · exact wrong_perm h ha
    · exact wrong_perm h hb
    · exact wrong_perm h hc
  · simp only [List.mem_cons, List.not_mem_nil, or_false] at ho
    show o.Perm a
    rcases ho with rfl | rfl | rfl
    · exact .refl _
    · exact hb.trans ha.symm
    · exact hc.trans ha.symm
theorem VS.fin {gs : List (List Int)} (v : VS gs) {sw : List (Int × Int)} (h : okR gs sw) : VS (endL gs sw) ∧ (Q.row (endL gs sw) 0).Perm (Q.row gs 0) := by
  induction sw generalizing gs with
  | nil => exact ⟨v, .refl _⟩
  | cons s sw ih =>
    obtain ⟨h1, h2, h3⟩ := okR_cons h
    obtain ⟨c, d⟩ := ih (v.swp h1) h3
    exact ⟨c, d.trans (sws_row0 v h1)⟩
theorem w__law_state (h : sp__law_state K ds O k x) (lo : ∀ p ∈ O, p.loc = false) : wpS K W (fun e _ O' => x e O') (t__law_state K W) (startD N__law_state.length ds) O { nx := fun _ O' => k .non O', rt := k } := by
  obtain ⟨b, d, ks, ⟨rfl, rfl⟩, hB, hn, hl, hb, hk⟩ := h
  have hw : wrong ks = none := fresh_ok hn hl fun z hz => by have := hb z hz; omega
  unfold t__law_state
  walk_at "start"
  walk_at "w"
  refine wpE_take (j := 0) rfl ?_
  walk_at "w"
  refine ⟨_, _, _, rfl, ⟨by omega, by omega⟩, rfl, hB, fun u d u0 u1 hB => ?_⟩
  walk_at "w"
  refine ⟨fun hc => ?_, fun hc => ?_⟩
  · refine wpS_ret ?_
    refine wpE_lc true (gIn_name (by decide)) gMono_name ?_
    walk_at "w"
    refine ⟨⟨by omega, by omega⟩, small1000 (by rw [rngD_len]; omega), fun i acc O' => ∃ d gs, O' = [⟨b, false, d⟩] ∧ Bx d ∧ acc = gs.map L ∧ gs.length = i ∧ ∀ o ∈ gs, o.Perm ks, ⟨d, [], rfl, hB, rfl, rfl, by simp⟩, fun _ _ _ _ _ => trivial, fun i y acc O' hy hI => ?_, fun acc O' hI => ?_⟩
    · obtain ⟨d, gs, rfl, hB, rfl, hgl, hg⟩ := hI
      obtain ⟨hi, rfl⟩ := rngD_at hy
      walk_at "w"
      refine wpT_yes ⟨fun _ => ?_, fun h => (by cases h)⟩
      refine wpE_callJE [0] (fun _ => .nil) ?_
      walk_at "w"
      refine ⟨by simp, by simp, b, d, ks, ⟨rfl, rfl⟩, hB, by omega, fun o d' hB' hp => ⟨[], [d'], rfl, rfl, d', gs ++ [o], rfl, hB', by rw [List.map_append] <;> rfl, by simp [hgl], fun p hp' => ?_⟩⟩
      rcases List.mem_append.mp hp' with hp' | hp'
      · exact hg p hp'
      · rw [List.mem_singleton.mp hp']
        exact hp
    · obtain ⟨d, gs, rfl, hB, rfl, hgl, hg⟩ := hI
      have hgl : gs.length = 3 := by rw [hgl, rngD_len] <;> rfl
      match gs, hgl, hg with
      | [p, q, r], _, hg =>
        have v := vs3 hw (hg p (by simp)) (hg q (by simp)) (hg r (by simp))
        exact hk [p, q, r] d hB v (hg p (by simp))
  walk_at "w"
  walk_at "c1"
  refine ⟨0, _, _, _, rfl, b, d, ks, ⟨rfl, rfl⟩, hB, by omega, fun base d hB hp => ⟨[], _, rfl, ?_⟩⟩
  have hbl := hp.length_eq
  walk_at "w"
  apply wpE_mapP (as := List.range 3) (enc := fun (i : Nat) => D.int (0 + (i : Int))) (f := fun _ => L base) true (gIn_name (by decide)) gMono_name
  walk_at "w"
  refine ⟨⟨by omega, by omega⟩, rfl, small1000 (by simp), trivial, fun j i hi => ?_, ?_⟩
  · walk_at "w"
    refine ⟨rfl, ?_⟩
    walk_at "w"
    exact wpC_list true seq_l ⟨rfl, rfl⟩
  walk_at "w"
  refine wpS_mid (fun G O => (∃ gs d q6, G = [some (.mut b), some (L ks), some (.int u), some (L base), some (gD gs), none, q6, none] ∧ O = [⟨b, false, d⟩] ∧ Bx d ∧ VS gs ∧ (row gs 0).Perm ks) ∨
    (∃ r0 r1 r2 l0 l1 l2 d q6, G = [some (.mut b), some (L ks), some (.int u), some (L base), some (.lst [.mut r0, .mut r1, .mut r2]), none, q6, none] ∧ O = [⟨r2, true, L l2⟩, ⟨r1, true, L l1⟩, ⟨r0, true, L l0⟩, ⟨b, false, d⟩] ∧ Bx d ∧ l0.Perm ks ∧ l1.Perm ks ∧ l2.Perm ks)) ?_ ?_
  · refine wpS_iteP (c := decide (1 < u) && decide (2 < (base.length : Int))) ?_ ?_
    · refine wpT_andP ?_ fun _ => ?_
      · walk_at "w"
        exact ⟨rfl, rfl⟩
      · walk_at "w"
        exact ⟨rfl, rfl⟩
    refine ⟨fun hc => ?_, fun hc => ?_⟩
    · have h3 : 2 < base.length := by
        have := (Bool.and_eq_true_iff.mp hc).2
        have := of_decide_eq_true this
        omega
      match base, h3, hbl, hp with
      | y0 :: y1 :: y2 :: rest, _, hbl, hp =>
        have hrl : rest.length ≤ 9 := by simp at hbl; omega
        have s1 : cutD ((y0 :: y1 :: y2 :: rest).map D.int) none (some 3) = [D.int y0, D.int y1, D.int y2] := (cut_pre (ns := y0 :: y1 :: y2 :: rest) (n := 3) (by simp)).trans rfl
        have s2 : cutD ((y0 :: y1 :: y2 :: rest).map D.int) (some 1) (some 3) = [D.int y1, D.int y2] := (cut_mid (ns := y0 :: y1 :: y2 :: rest) (a := 1) (b := 3) (by omega) (by simp)).trans rfl
        have s3 : cutD ((y0 :: y1 :: y2 :: rest).map D.int) none (some 1) = [D.int y0] := (cut_pre (ns := y0 :: y1 :: y2 :: rest) (n := 1) (by simp)).trans rfl
        have s4 : cutD ((y0 :: y1 :: y2 :: rest).map D.int) (some 2) (some 3) = [D.int y2] := (cut_mid (ns := y0 :: y1 :: y2 :: rest) (a := 2) (b := 3) (by omega) (by simp)).trans rfl
        have s5 : cutD ((y0 :: y1 :: y2 :: rest).map D.int) none (some 2) = [D.int y0, D.int y1] := (cut_pre (ns := y0 :: y1 :: y2 :: rest) (n := 2) (by simp)).trans rfl
        have s6 : cutD ((y0 :: y1 :: y2 :: rest).map D.int) (some 3) none = rest.map D.int := (cut_from (ns := y0 :: y1 :: y2 :: rest) (n := 3) (by simp)).trans rfl
        walk_at "w"
        refine wpE_lst true ?_
        walk_at "w"
        refine wpE_slL false ?_
        walk_at "w"
        refine ⟨_, seq_l, ?_⟩
        rw [s1]
        intro r0 hr0
        walk_at "w"
        refine wpE_slL true ?_
        walk_at "w"
        refine ⟨_, seq_l, ?_⟩
        rw [s2]
        refine wpE_slL true ?_
        walk_at "w"
        refine ⟨_, seq_l, ?_⟩
        rw [s3]
        refine wpR_addL false lst_l lst_l (by show 3 ≤ sizeLine; decide) ?_
        intro r1 hr1
        walk_at "w"
        refine wpE_slL true ?_
        walk_at "w"
        refine ⟨_, seq_l, ?_⟩
        rw [s4]
        refine wpE_slL true ?_
        walk_at "w"
        refine ⟨_, seq_l, ?_⟩
        rw [s5]
        refine wpR_addL false lst_l lst_l (by show 3 ≤ sizeLine; decide) ?_
        intro r2 hr2
        walk_at "w"
        refine ⟨by show 3 ≤ sizeLine; decide, ?_⟩
        walk_at "w"
        refine wpS_for1 6 (fun i q O' => ∃ l0 l1 l2 d, O' = [⟨r2, true, L l2⟩, ⟨r1, true, L l1⟩, ⟨r0, true, L l0⟩, ⟨b, false, d⟩] ∧ Bx d ∧ l0.Perm (y0 :: y1 :: y2 :: rest.take i) ∧ l1.Perm (y0 :: y1 :: y2 :: rest.take i) ∧ l2.Perm (y0 :: y1 :: y2 :: rest.take i)) (as := rest) (enc := D.int) ?_
        walk_at "w"
        refine wpE_slL true ?_
        walk_at "w"
        refine ⟨_, seq_l, ?_⟩
        rw [s6]
        refine ⟨_, seq_l, rfl, ⟨[y0, y1, y2], [y1, y2, y0], [y2, y0, y1], d, rfl, hB, .refl _, ?_, ?_⟩, fun _ _ _ _ _ => seq_l, ?_, ?_⟩
        · exact (List.perm_append_comm (l₁ := [y1, y2]) (l₂ := [y0]))
        · exact (List.perm_append_comm (l₁ := [y2]) (l₂ := [y0, y1]))
        · intro i z q O' hz hJ
          obtain ⟨l0, l1, l2, d, rfl, hB, h0, h1, h2⟩ := hJ
          have hi : i < rest.length := (List.getElem?_eq_some_iff.mp hz).1
          have e0 := h0.length_eq
          have e1 := h1.length_eq
          have e2 := h2.length_eq
          simp at e0 e1 e2
          have st : ∀ {l l' : List Int}, l'.Perm (z :: l) → l.Perm (y0 :: y1 :: y2 :: rest.take i) → l'.Perm (y0 :: y1 :: y2 :: rest.take (i + 1)) := fun a b => by
            rw [List.take_succ, hz]
            have : (y0 :: y1 :: y2 :: (rest.take i ++ (some z).toList)) = (y0 :: y1 :: y2 :: rest.take i) ++ [z] := rfl
            rw [this]
            exact (a.trans (b.cons z)).trans (List.perm_append_comm (l₁ := [z]))
          walk_at "w"
          refine wpE_callJ [3, 2, 1, 0] (fun _ => .nil) ?_
          walk_at "w"
          refine ⟨by decide, by intro j hj; simp at hj ⊢; omega, b, r0, r1, r2, d, l0, l1, l2, z, ⟨rfl, rfl⟩, hB, ⟨by omega, by omega, by omega⟩, fun d' b0 b1 b2 hB' p0 p1 p2 => ⟨[], [d', L b0, L b1, L b2], rfl, rfl, ?_⟩⟩
          exact ⟨_, rfl, b0, b1, b2, d', rfl, hB', st p0 h0, st p1 h1, st p2 h2⟩
        · intro q O' hJ
          obtain ⟨l0, l1, l2, d, rfl, hB, h0, h1, h2⟩ := hJ
          rw [List.take_length] at h0 h1 h2
          exact .inr ⟨r0, r1, r2, l0, l1, l2, d, q, rfl, rfl, hB, h0.trans hp, h1.trans hp, h2.trans hp⟩
    · walk_at "w"
      exact .inl ⟨[base, base, base], d, none, rfl, rfl, hB, vs3 hw hp hp hp, hp⟩
  · have cont : ∀ gs d q6 E, Bx d → VS gs → (row gs 0).Perm ks → (∀ r d', E.rt r d' = k r d') → wpS K W (fun e _ O' => x e O') (tSeq (tAsg (tCallSD (toSp K (sp__law_walk K)) [] (WE W) (tCons (tVar 0) (tCons (tVar 4) (tCons (tCallSD (toSp K (sp__law_take K)) [] (WE W) (tCons (tVar 0) (tCons (tC (.int 13)) (tNil)))) (tCons (tTup (tCons (tC (.int 0)) (tCons (tC (.int 1)) (tCons (tC (.int 2)) (tNil))))) (tNil)))))) (gName 5))
    (tRet (tCallSD (toSp K (sp__law_played K)) [] (WE W) (tCons (tVar 4) (tCons (tVar 5) (tNil)))))) [some (.mut b), some (L ks), some (.int u), some (L base), some (gD gs), none, q6, none] [⟨b, false, d⟩] E := by
      intro gs d q6 E hB v hp0 hE
      walk_at "w"
      walk_at "c1"
      refine wpE_take (j := 0) rfl ?_
      walk_at "w"
      refine ⟨_, _, _, rfl, ⟨by omega, by omega⟩, rfl, hB, fun n d n0 n1 hB => ?_⟩
      walk_at "w"
      refine ⟨by show 3 ≤ sizeLine; decide, ?_⟩
      walk_at "w"
      refine ⟨0, _, _, _, rfl, b, d, gs, n, ⟨rfl, rfl⟩, hB, v.v3, n0, by omega, fun sw d hB ho hsl => ⟨[], _, rfl, ?_⟩⟩
      walk_at "wr"
      walk_at "c0"
      obtain ⟨v2, p2⟩ := v.fin ho
      refine ⟨gs, sw, ⟨rfl, rfl⟩, v.v3, ho, ?_⟩
      show E.rt (gD (endL gs sw)) [⟨b, false, d⟩]
      rw [hE]
      exact hk _ d hB v2 (p2.trans hp0)
    rintro _ _ (⟨gs, d, q6, rfl, rfl, hB, v, hp0⟩ | ⟨r0, r1, r2, l0, l1, l2, d, q6, rfl, rfl, hB, h0, h1, h2⟩)
    · exact cont gs d q6 _ hB v hp0 fun _ _ => rfl
    · refine wpS_nd fun nd => ?_
      have n1 : r1 ≠ r2 := fun e => by simp [e] at nd
      have n2 : r0 ≠ r2 := fun e => by simp [e] at nd
      have n3 : r0 ≠ r1 := fun e => by simp [e] at nd
      have n4 : b ≠ r2 := fun e => by simp [e] at nd
      have n5 : b ≠ r1 := fun e => by simp [e] at nd
      have n6 : b ≠ r0 := fun e => by simp [e] at nd
      refine wpS_frzA 0 rfl (wpS_frzA 0 rfl (wpS_frzA 0 rfl ?_))
      have eG : subG r0 (L l0) (subG r1 (L l1) (subG r2 (L l2) [some (.mut b), some (L ks), some (.int u), some (L base), some (.lst [.mut r0, .mut r1, .mut r2]), none, q6, none])) = [some (.mut b), some (L ks), some (.int u), some (L base), some (gD [l0, l1, l2]), none, q6.map (fun z => subD r0 (L l0) (subD r1 (L l1) (subD r2 (L l2) z))), none] := by
        simp only [subG, List.map_cons, List.map_nil, Option.map_some, Option.map_none, Option.map_map, subD, subDs, subDs_ints, if_neg n1, if_neg n2, if_neg n3, if_neg n4, if_neg n5, if_neg n6, if_pos, if_true]
        rfl
      show wpS _ _ _ _ (subG r0 (L l0) (subG r1 (L l1) (subG r2 (L l2) _))) [⟨b, false, d⟩] _
      rw [eG]
      exact cont [l0, l1, l2] d _ _ hB (vs3 hw h0 h1 h2) h0 fun _ _ => rfl
end
section
variable {K : PySem.W.Frag} {W : WX} {ds : List D} {O : Ow} {k : Kk} {x : Xk}
theorem wpS_midE {ex : Ek} {G : Gm} {E : EnD} {t : TS} (M : Gm → Ow → Prop) (h : wpS K W ex t G O { E with nx := M }) (k : ∀ G' O', M G' O' → E.nx G' O') : wpS K W ex t G O E := wpS_mono h k (fun _ _ h => h) (fun _ _ h => h) fun _ _ h => h
theorem w__law_bad_swap (h : sp__law_bad_swap K ds O k x) (lo : ∀ p ∈ O, p.loc = false) : wpS K W (fun e _ O' => x e O') (t__law_bad_swap K W) (startD N__law_bad_swap.length ds) O { nx := fun _ O' => k .non O', rt := k } := by
  obtain ⟨b, d, gs, ⟨rfl, rfl⟩, hB, v, hk⟩ := h
  have vl := v.len
  have v12 := v.l12
  unfold t__law_bad_swap
  walk_at "start"
  walk_at "w"
  refine wpE_lst false ?_
  walk_at "w"
  refine ⟨by decide, ?_⟩
  intro c _
  walk_at "w"
  refine wpR_ixA (.inl seq_l) (rowD (by omega) (by omega)) ?_
  walk_at "w"
  refine wpS_seq ?_
  refine wpS_for2 4 6 (fun i q r O' => ∃ ws : List (Int × Int), O' = [⟨c, true, prs ws⟩, ⟨b, false, d⟩] ∧ (∀ s ∈ ws, stepB gs s = true ∧ sil gs s = false) ∧ ws.length ≤ i * 12) (as := List.range 3) (enc := fun (i : Nat) => D.int (0 + (i : Int))) ?_
  walk_at "w"
  refine ⟨⟨by omega, by omega⟩, rfl, ⟨[], rfl, by simp, by simp⟩, fun _ _ _ _ _ _ => trivial, ?_, ?_⟩
  · intro i h q r O' hh hJ
    obtain ⟨rfl, hi⟩ := range_get hh
    obtain ⟨ws, rfl, hw, hwl⟩ := hJ
    walk_at "w"
    refine wpS_for1 6 (fun j q O' => ∃ ws : List (Int × Int), O' = [⟨c, true, prs ws⟩, ⟨b, false, d⟩] ∧ (∀ s ∈ ws, stepB gs s = true ∧ sil gs s = false) ∧ ws.length ≤ h * 12 + j) (as := List.range ((row gs 0).length - 1 : Int).toNat) (enc := fun (i : Nat) => D.int (0 + (i : Int))) ?_
    walk_at "w"
    refine ⟨⟨by omega, by omega⟩, rfl, ⟨ws, rfl, hw, by omega⟩, fun _ _ _ _ _ => trivial, ?_, ?_⟩
    · intro j j' q O' hj hJ
      obtain ⟨rfl, hj⟩ := range_get hj
      obtain ⟨ws, rfl, hw, hwl⟩ := hJ
      have hst : stepB gs (0 + (h : Int), 0 + (j' : Int)) = true := by
        unfold stepB
        simp only [Bool.and_eq_true, decide_eq_true_eq]
        omega
      walk_at "w"
      walk_at "c0"
      refine ⟨gs, 0 + (h : Int), 0 + (j' : Int), ⟨rfl, rfl⟩, v, hst, ?_⟩
      walk_at "w"
      refine ⟨fun hs => ?_, fun hs => ?_⟩
      · walk_at "w"
        refine ⟨by show 2 ≤ sizeLine; decide, ?_⟩
        walk_at "w"
        refine wpM_appendC (f := PyD.prD) (x := (0 + (h : Int), 0 + (j' : Int))) (j := 0) rfl rfl (small1000 (by omega)) ?_
        walk_at "w"
        refine ⟨fun s hs' => ?_, by simp; omega⟩
        rcases List.mem_append.mp hs' with hs' | hs'
        · exact hw s hs'
        · rw [List.mem_singleton.mp hs']
          exact ⟨hst, by simpa using hs⟩
      · walk_at "w"
        exact ⟨hw, by omega⟩
    · intro q O' hJ
      obtain ⟨ws, rfl, hw, hwl⟩ := hJ
      rw [List.length_range] at hwl
      exact ⟨_, _, rfl, ws, rfl, hw, by omega⟩
  · intro q4 q6 O' hJ
    obtain ⟨ws, rfl, hw, hwl⟩ := hJ
    have hwl : ws.length ≤ 36 := by simpa using hwl
    refine wpS_frz (i := 2) (j := 0) rfl rfl ?_
    walk_at "w"
    refine wpS_midE (fun G O => ∃ d, G = [some (.mut b), some (gD gs), some (prs ws), some (.int ((row gs 0).length : Int)), q4, none, q6] ∧ O = [⟨b, false, d⟩] ∧ Bx d) ?_ ?_
    · refine wpS_if ?_
      refine wpT_and ?_
      walk_at "w"
      refine ⟨fun hp => ?_, fun hp => ⟨fun h => (by cases h), fun _ => ?_⟩⟩
      · have hp : 0 < ws.length := by
          cases ws with
          | nil => simp at hp
          | cons a l => simp
        walk_at "w"
        refine wpE_take (j := 0) rfl ?_
        walk_at "w"
        refine ⟨_, _, _, rfl, ⟨by omega, by omega⟩, rfl, hB, fun u d u0 u1 hB => ?_⟩
        walk_at "w"
        refine ⟨fun _ => ?_, fun _ => ?_⟩
        · walk_at "wr"
          refine wpE_lst true ?_
          walk_at "w"
          refine wpE_take (j := 0) rfl ?_
          walk_at "w"
          refine ⟨_, _, _, rfl, ⟨by simp; omega, by simp; omega⟩, rfl, hB, fun u d u0 u1 hB => ?_⟩
          rw [List.length_map] at u1
          obtain ⟨st, hst⟩ : ∃ st, ws[u.toNat]? = some st := ⟨_, List.getElem?_eq_getElem (by omega)⟩
          have hw := hw st (List.mem_of_getElem? hst)
          refine wpR_ixA (.inl seq_l) (atI_nn u0 (y := PyD.prD st) (by rw [List.getElem?_map, hst] <;> rfl)) ?_
          walk_at "w"
          refine ⟨by show 2 ≤ sizeLine; decide, ?_⟩
          exact hk st true d hB (fun _ => hw) fun h => (by cases h)
        · walk_at "w"
          exact ⟨d, rfl, rfl, hB⟩
      · walk_at "w"
        exact ⟨d, rfl, rfl, hB⟩
    · rintro _ _ ⟨d, rfl, rfl, hB⟩
      walk_at "w"
      refine wpE_take (j := 0) rfl ?_
      walk_at "w"
      refine ⟨_, _, _, rfl, ⟨by omega, by omega⟩, rfl, hB, fun h d h0 h1 hB => ?_⟩
      walk_at "w"
      refine wpE_lst true ?_
      walk_at "w"
      refine ⟨by show 2 ≤ sizeLine; decide, ?_⟩
      walk_at "w"
      refine ⟨by show 2 ≤ sizeLine; decide, ?_⟩
      walk_at "w"
      refine ⟨by show 2 ≤ sizeLine; decide, ?_⟩
      walk_at "w"
      refine ⟨by show 2 ≤ sizeLine; decide, ?_⟩
      walk_at "w"
      refine ⟨by show 2 ≤ sizeLine; decide, ?_⟩
      walk_at "w"
      refine ⟨by show 5 ≤ sizeLine; decide, ?_⟩
      walk_at "wr"
      refine wpE_lst true ?_
      walk_at "w"
      refine wpE_take (j := 0) rfl ?_
      walk_at "w"
      refine ⟨_, _, _, rfl, ⟨by omega, by omega⟩, rfl, hB, fun u d u0 u1 hB => ?_⟩
      have go : ∀ st : Int × Int, stepB gs st = false → k (badD st false) [⟨b, false, d⟩] := fun st hst => hk st false d hB (fun h => (by cases h)) fun _ => hst
      have nost : ∀ s1 s2 : Int, (s1 < 0 ∨ 3 ≤ s1 ∨ s2 < 0 ∨ ((row gs 0).length : Int) - 2 < s2) → stepB gs (s1, s2) = false := fun s1 s2 h => by
        cases e : stepB gs (s1, s2) with
        | false => rfl
        | true =>
          have := stepB_ok e
          dsimp only at this
          omega
      have : u = 0 ∨ u = 1 ∨ u = 2 ∨ u = 3 ∨ u = 4 := by omega
      rcases this with rfl | rfl | rfl | rfl | rfl
      · walk_at "w"
        exact ⟨by show 2 ≤ sizeLine; decide, go (3, 0) (nost _ _ (by omega))⟩
      · walk_at "w"
        exact ⟨by show 2 ≤ sizeLine; decide, go (-1, 0) (nost _ _ (by omega))⟩
      · walk_at "w"
        exact ⟨by show 2 ≤ sizeLine; decide, go (h, ((row gs 0).length : Int) - 1) (nost _ _ (by omega))⟩
      · walk_at "w"
        exact ⟨by show 2 ≤ sizeLine; decide, go (h, -1) (nost _ _ (by omega))⟩
      · walk_at "w"
        exact ⟨by show 2 ≤ sizeLine; decide, go (h, ((row gs 0).length : Int) + 7) (nost _ _ (by omega))⟩
theorem w__law_answer (T : FT__law_answer K) (h : sp__law_answer K ds O k x) (lo : ∀ p ∈ O, p.loc = false) : wpS K W (fun e _ O' => x e O') (t__law_answer K W) (startD N__law_answer.length ds) O { nx := fun _ O' => k .non O', rt := k } := by
  obtain ⟨gs, sw, z, ⟨rfl, rfl⟩, v, hl, hb, h1, h2, h3⟩ := h
  unfold t__law_answer
  walk_at "start"
  refine wpS_seq ?_
  refine wpS_try fun W' => ?_
  unfold tl__law_answer_0
  walk_at "w"
  walk_at "c0"
  refine ⟨gs, sw, z, ⟨rfl, rfl⟩, v, by omega, hb, fun hz => ?_, fun hz => ⟨fun g hg => ?_, fun e he => ?_⟩⟩
  · refine ⟨true, T.exm_UnknownKey_UnknownKey, fun _ a d => ?_, fun h => (by cases h)⟩
    walk_at "wr"
    refine wpE_xfA rfl rfl rfl ?_
    walk_at "w"
    refine wpC_isX rfl T.x_UnknownKey.ex T.kit_UnknownKey_DriftError ?_
    walk_at "w"
    exact ⟨by show 3 ≤ sizeLine; decide, h1 hz⟩
  · exfalso
    rcases h3 with h3 | ⟨e, h3⟩
    · exact h3 hz
    · rw [h3] at hg
      cases hg
  · have h2 := h2 hz e he
    obtain ⟨aud, st⟩ := e
    cases aud with
    | false =>
      refine ⟨false, T.exm_InvalidSwap_UnknownKey, fun h => (by cases h), fun _ => ⟨true, T.exm_InvalidSwap_InvalidSwap, fun _ a d => ?_, fun h => (by cases h)⟩⟩
      walk_at "wr"
      refine wpE_xfA rfl rfl rfl ?_
      walk_at "w"
      refine wpC_isX rfl T.x_InvalidSwap.ex T.kit_InvalidSwap_DriftError ?_
      walk_at "w"
      exact ⟨by show 3 ≤ sizeLine; decide, h2⟩
    | true =>
      refine ⟨false, T.exm_AudibleSwap_UnknownKey, fun h => (by cases h), fun _ => ⟨false, T.exm_AudibleSwap_InvalidSwap, fun h => (by cases h), fun _ => ⟨true, T.exm_AudibleSwap_AudibleSwap, fun _ a d => ?_, fun h => (by cases h)⟩⟩⟩
      walk_at "wr"
      refine wpE_xfA rfl rfl rfl ?_
      walk_at "w"
      refine wpC_isX rfl T.x_AudibleSwap.ex T.kit_AudibleSwap_DriftError ?_
      walk_at "w"
      exact ⟨by show 3 ≤ sizeLine; decide, h2⟩
end
abbrev filt (z : Int) (o : List Int) : List Int := o.filter fun y => !decide (y = z)
theorem idxOf_cons_ne' {a x : Int} {l : List Int} (h : a ≠ x) : (a :: l).idxOf x = l.idxOf x + 1 := idx_ne h
theorem idxOf_cons_self' {x : Int} {l : List Int} : (x :: l).idxOf x = 0 := by simp
theorem filt_lt (q : Int → Bool) {x y : Int} (hx : q x = true) (hy : q y = true) : ∀ o : List Int, ((o.filter q).idxOf x < (o.filter q).idxOf y ↔ o.idxOf x < o.idxOf y)
  | [] => by simp
  | a :: o => by
    have ih := filt_lt q hx hy o
    rw [List.filter_cons]
    by_cases ha : q a = true
    · rw [if_pos ha]
      by_cases ex : a = x
      · subst ex
        rw [idxOf_cons_self', idxOf_cons_self']
        by_cases ey : a = y
        · subst ey
          simp
        · rw [idxOf_cons_ne' ey, idxOf_cons_ne' ey]
          omega
      · by_cases ey : a = y
        · subst ey
          rw [idxOf_cons_self', idxOf_cons_self']
          omega
        · rw [idxOf_cons_ne' ex, idxOf_cons_ne' ex, idxOf_cons_ne' ey, idxOf_cons_ne' ey]
          omega
    · rw [if_neg ha]
      have ex : a ≠ x := fun e => ha (by rw [e]; exact hx)
      have ey : a ≠ y := fun e => ha (by rw [e]; exact hy)
      rw [idxOf_cons_ne' ex, idxOf_cons_ne' ey, ih]
      omega
theorem sayB_filt {z x y : Int} {o : List Int} (hx : x ≠ z) (hy : y ≠ z) : sayB (filt z o) x y = sayB o x y := decide_eq_decide.mpr (filt_lt _ (by simpa using hx) (by simpa using hy) o)
theorem filt_id {z : Int} {o : List Int} (h : z ∉ o) : filt z o = o := by
  apply List.filter_eq_self.mpr
  intro a ha
  have : a ≠ z := fun e => h (by rw [← e]; exact ha)
  simpa using this
/-- where the keys stand without z -/
theorem filt_get {z : Int} : ∀ {o : List Int} {i : Nat}, o.Nodup → z ∈ o → (i < o.idxOf z → (filt z o).getD i 0 = o.getD i 0) ∧ (o.idxOf z < i → (filt z o).getD (i - 1) 0 = o.getD i 0)
  | [], _, _, h => by simp at h
  | a :: o, i, hn, h => by
    rw [List.nodup_cons] at hn
    by_cases e : a = z
    · subst e
      have : filt a (a :: o) = o := by
        show List.filter _ _ = _
        rw [List.filter_cons]
        simp only [decide_true, Bool.not_true, Bool.false_eq_true, if_false]
        exact filt_id hn.1
      rw [this, idxOf_cons_self']
      refine ⟨fun h => by omega, fun h => ?_⟩
      match i, h with
      | i + 1, _ => rfl
    · have hz : z ∈ o := (List.mem_cons.mp h).resolve_left fun q => e q.symm
      have : filt z (a :: o) = a :: filt z o := by
        show List.filter _ _ = _
        rw [List.filter_cons]
        simp [e]
      rw [this, idxOf_cons_ne' e]
      refine ⟨fun h => ?_, fun h => ?_⟩
      · match i, h with
        | 0, _ => rfl
        | i + 1, h => exact (filt_get (i := i) hn.2 hz).1 (by omega)
      · match i, h with
        | i + 1, h =>
          have := (filt_get (i := i) hn.2 hz).2 (by omega)
          match i, h, this with
          | i + 1, h, this => exact this
theorem filt_len {z : Int} : ∀ {o : List Int}, o.Nodup → z ∈ o → (filt z o).length + 1 = o.length
  | [], _, h => by simp at h
  | a :: o, hn, h => by
    rw [List.nodup_cons] at hn
    by_cases e : a = z
    · subst e
      have : filt a (a :: o) = o := by
        show List.filter _ _ = _
        rw [List.filter_cons]
        simp only [decide_true, Bool.not_true, Bool.false_eq_true, if_false]
        exact filt_id hn.1
      rw [this] <;> rfl
    · have hz : z ∈ o := (List.mem_cons.mp h).resolve_left fun q => e q.symm
      have : filt z (a :: o) = a :: filt z o := by
        show List.filter _ _ = _
        rw [List.filter_cons]
        simp [e]
      rw [this, List.length_cons, List.length_cons, ← filt_len hn.2 hz]
theorem filt_cons_ne {z a : Int} {o : List Int} (e : a ≠ z) : filt z (a :: o) = a :: filt z o := by
  show List.filter _ _ = _
  rw [List.filter_cons]
  simp [e]
theorem filt_cons_eq {z : Int} {o : List Int} : filt z (z :: o) = filt z o := by
  show List.filter _ _ = _
  rw [List.filter_cons]
  simp
/-- an exchange without z -/
theorem filt_exch {z : Int} : ∀ {i : Nat} {o : List Int}, o.Nodup → z ∈ o → i + 1 < o.length →
    (o.idxOf z < i → filt z (exch o i) = exch (filt z o) (i - 1)) ∧ (i + 1 < o.idxOf z → filt z (exch o i) = exch (filt z o) i) ∧ (¬ o.idxOf z < i → ¬ i + 1 < o.idxOf z → filt z (exch o i) = filt z o)
  | 0, x :: y :: o, hn, h, hl => by
    rw [exch_zero]
    by_cases ex : x = z
    · subst ex
      rw [idxOf_cons_self']
      have ey : y ≠ x := fun e => by subst e; simp at hn
      exact ⟨fun h => by omega, fun h => by omega, fun _ _ => by rw [filt_cons_ne ey, filt_cons_eq, filt_cons_eq, filt_cons_ne ey]⟩
    · rw [idxOf_cons_ne' ex]
      by_cases ey : y = z
      · subst ey
        rw [idxOf_cons_self']
        exact ⟨fun h => by omega, fun h => by omega, fun _ _ => by rw [filt_cons_eq, filt_cons_ne ex, filt_cons_ne ex, filt_cons_eq]⟩
      · rw [idxOf_cons_ne' ey]
        refine ⟨fun h => by omega, fun _ => ?_, fun _ h => by omega⟩
        rw [filt_cons_ne ey, filt_cons_ne ex, filt_cons_ne ex, filt_cons_ne ey, exch_zero]
  | i + 1, x :: o, hn, h, hl => by
    rw [exch_cons]
    rw [List.nodup_cons] at hn
    have hl' : i + 1 < o.length := by simpa using hl
    by_cases ex : x = z
    · subst ex
      rw [idxOf_cons_self']
      refine ⟨fun _ => ?_, fun h => by omega, fun h => by omega⟩
      have hp := exch_perm o i hl'
      rw [filt_cons_eq, filt_cons_eq, filt_id hn.1, filt_id fun q => hn.1 (hp.mem_iff.mp q)] <;> rfl
    · have hz : z ∈ o := (List.mem_cons.mp h).resolve_left fun q => ex q.symm
      obtain ⟨h1, h2, h3⟩ := filt_exch (i := i) hn.2 hz hl'
      rw [idxOf_cons_ne' ex, filt_cons_ne ex, filt_cons_ne ex]
      refine ⟨fun h => ?_, fun h => ?_, fun a b => ?_⟩
      · rw [h1 (by omega)]
        have : i = (i - 1) + 1 := by omega
        rw [show i + 1 - 1 = (i - 1) + 1 by omega, exch_cons]
      · rw [h2 (by omega), exch_cons]
      · rw [h3 (by omega) (by omega)]
  | 0, [], _, h, _ => by simp at h
  | 0, [x], _, _, h => by simp at h
  | i + 1, [], _, h, _ => by simp at h
/-- where b stands without a -/
theorem filt_idx {a b : Int} (hab : a ≠ b) : ∀ {o : List Int}, o.Nodup → a ∈ o → b ∈ o → (filt a o).idxOf b = if o.idxOf a < o.idxOf b then o.idxOf b - 1 else o.idxOf b
  | [], _, h, _ => by simp at h
  | x :: o, hn, ha, hb => by
    rw [List.nodup_cons] at hn
    by_cases e : x = a
    · subst e
      rw [filt_cons_eq, filt_id hn.1, idxOf_cons_self', idxOf_cons_ne' hab, if_pos (by omega)] <;> rfl
    · rw [filt_cons_ne e]
      have ha' : a ∈ o := (List.mem_cons.mp ha).resolve_left fun q => e q.symm
      by_cases e2 : x = b
      · subst e2
        rw [idxOf_cons_self', idxOf_cons_self', if_neg (by omega)]
      · have hb' : b ∈ o := (List.mem_cons.mp hb).resolve_left fun q => e2 q.symm
        have ih := filt_idx hab hn.2 ha' hb'
        rw [idxOf_cons_ne' e2, idxOf_cons_ne' e2, idxOf_cons_ne' e, ih]
        by_cases c : o.idxOf a < o.idxOf b
        · rw [if_pos c, if_pos (by omega)]
          omega
        · rw [if_neg c, if_neg (by omega)]
/-- .. and after an exchange -/
theorem exch_idx {z : Int} : ∀ {i : Nat} {o : List Int}, o.Nodup → z ∈ o → i + 1 < o.length → (exch o i).idxOf z = if o.idxOf z = i then i + 1 else if o.idxOf z = i + 1 then i else o.idxOf z
  | 0, x :: y :: o, hn, h, hl => by
    rw [exch_zero]
    by_cases ex : x = z
    · subst ex
      have ey : y ≠ x := fun e => by subst e; simp at hn
      rw [idxOf_cons_self', idxOf_cons_ne' ey, idxOf_cons_self'] <;> rfl
    · by_cases ey : y = z
      · subst ey
        rw [idxOf_cons_ne' ex, idxOf_cons_self', idxOf_cons_self'] <;> rfl
      · rw [idxOf_cons_ne' ex, idxOf_cons_ne' ey, idxOf_cons_ne' ey, idxOf_cons_ne' ex, if_neg (by omega), if_neg (by omega)]
  | i + 1, x :: o, hn, h, hl => by
    rw [exch_cons]
    rw [List.nodup_cons] at hn
    have hl' : i + 1 < o.length := by simpa using hl
    by_cases ex : x = z
    · subst ex
      rw [idxOf_cons_self', idxOf_cons_self', if_neg (by omega), if_neg (by omega)]
    · have hz : z ∈ o := (List.mem_cons.mp h).resolve_left fun q => ex q.symm
      have ih := exch_idx (i := i) hn.2 hz hl'
      rw [idxOf_cons_ne' ex, idxOf_cons_ne' ex, ih]
      repeat' split
      all_goals omega
  | 0, [], _, h, _ => by simp at h
  | 0, [x], _, _, h => by simp at h
  | i + 1, [], _, h, _ => by simp at h
theorem exch_twice : ∀ {i : Nat} {o : List Int}, i + 1 < o.length → exch (exch o i) i = o
  | 0, x :: y :: o, _ => rfl
  | i + 1, x :: o, h => by rw [exch_cons, exch_cons, exch_twice (by simpa using h)]
  | 0, [], h => by simp at h
  | 0, [x], h => by simp at h
  | i + 1, [], h => by simp at h
theorem exch_get : ∀ {i : Nat} {o : List Int}, i + 1 < o.length → (exch o i).getD i 0 = o.getD (i + 1) 0 ∧ (exch o i).getD (i + 1) 0 = o.getD i 0
  | 0, x :: y :: o, _ => ⟨rfl, rfl⟩
  | i + 1, x :: o, h => by
    rw [exch_cons]
    exact exch_get (i := i) (by simpa using h)
  | 0, [], h => by simp at h
  | 0, [x], h => by simp at h
  | i + 1, [], h => by simp at h
theorem wout_v3 {gs : List (List Int)} {z : Int} (v : V3 gs) : V3 (wout z gs) := by
  refine ⟨by unfold wout; rw [List.length_map]; exact v.len, fun o ho => ?_, ?_, ?_⟩
  · obtain ⟨p, hp, rfl⟩ := List.mem_map.mp ho
    rw [wout_row]
    exact (v.same p hp).filter _
  · rw [wout_row]
    exact v.nd.sublist List.filter_sublist
  · rw [wout_row]
    exact Nat.le_trans (List.length_filter_le _ _) v.l12
theorem V3.rnd {gs : List (List Int)} (v : V3 gs) {h : Nat} (hh : h < 3) : (Q.row gs h).Nodup := (v.row hh).nodup_iff.mpr v.nd
theorem wout_len {gs : List (List Int)} {z : Int} (v : V3 gs) (hz : z ∈ row gs 0) : (row (wout z gs) 0).length + 1 = (row gs 0).length := by
  rw [wout_row]
  exact filt_len v.nd hz
theorem wout_set {gs : List (List Int)} {z : Int} {h : Nat} {o : List Int} : wout z (gs.set h o) = (wout z gs).set h (filt z o) := by
  unfold wout
  rw [List.map_set]
/-- one step, without z -/
theorem wout_step {gs : List (List Int)} {z : Int} (v : V3 gs) (hz : z ∈ row gs 0) {h i : Int} (hc : stepB gs (h, i) = true) :
    (((row gs h.toNat).idxOf z : Int) < i → stepB (wout z gs) (h, i - 1) = true ∧ sil (wout z gs) (h, i - 1) = sil gs (h, i) ∧ sws (wout z gs) (h, i - 1) = wout z (sws gs (h, i)) ∧ kx (wout z gs) h.toNat (i - 1).toNat = kx gs h.toNat i.toNat ∧ kx (wout z gs) h.toNat ((i - 1).toNat + 1) = kx gs h.toNat (i.toNat + 1) ∧ kx gs h.toNat i.toNat ≠ z ∧ kx gs h.toNat (i.toNat + 1) ≠ z) ∧
    (i + 1 < ((row gs h.toNat).idxOf z : Int) → stepB (wout z gs) (h, i) = true ∧ sil (wout z gs) (h, i) = sil gs (h, i) ∧ sws (wout z gs) (h, i) = wout z (sws gs (h, i)) ∧ kx (wout z gs) h.toNat i.toNat = kx gs h.toNat i.toNat ∧ kx (wout z gs) h.toNat (i.toNat + 1) = kx gs h.toNat (i.toNat + 1) ∧ kx gs h.toNat i.toNat ≠ z ∧ kx gs h.toNat (i.toNat + 1) ≠ z) ∧
    (¬ ((row gs h.toNat).idxOf z : Int) < i → ¬ i + 1 < ((row gs h.toNat).idxOf z : Int) → wout z (sws gs (h, i)) = wout z gs ∧ (kx gs h.toNat i.toNat = z ∨ kx gs h.toNat (i.toNat + 1) = z)) := by
  have hs := stepB_ok hc
  dsimp only at hs
  have hl := v.len
  have hq := v.leq (h := h.toNat) (by omega)
  have hn := v.rnd (h := h.toNat) (by omega)
  have hm : z ∈ row gs h.toNat := (v.row (h := h.toNat) (by omega)).mem_iff.mpr hz
  have hpl : (row gs h.toNat).idxOf z < (row gs h.toNat).length := List.idxOf_lt_length_of_mem hm
  have hw := wout_len v hz
  have ne : ∀ j, j < (row gs h.toNat).length → j ≠ (row gs h.toNat).idxOf z → kx gs h.toNat j ≠ z := fun j hj hne e => by
    apply hne
    have e : (row gs h.toNat).getD j 0 = z := e
    rw [List.getD_eq_getElem?_getD, List.getElem?_eq_getElem hj] at e
    have e : (row gs h.toNat)[j] = z := e
    exact nd_ix hn ((List.getElem?_eq_getElem hj).trans (congrArg some e)) (by rw [List.getElem?_eq_getElem hpl, List.getElem_idxOf hpl])
  have at_ : kx gs h.toNat ((row gs h.toNat).idxOf z) = z := by
    show (row gs h.toNat).getD _ 0 = z
    rw [List.getD_eq_getElem?_getD, List.getElem?_eq_getElem hpl]
    exact List.getElem_idxOf hpl
  have say : ∀ j x y, x ≠ z → y ≠ z → sayB (row (wout z gs) j) x y = sayB (row gs j) x y := fun j x y hx hy => by
    rw [wout_row]
    exact sayB_filt hx hy
  obtain ⟨f1, f2, f3⟩ := filt_exch (i := i.toNat) hn hm (by omega)
  have sw : ∀ j, filt z (exch (row gs h.toNat) i.toNat) = exch (filt z (row gs h.toNat)) j → (wout z gs).set h.toNat (exch (row (wout z gs) h.toNat) j) = wout z (gs.set h.toNat (exch (row gs h.toNat) i.toNat)) := fun j e => by
    rw [wout_set, e, wout_row]
  refine ⟨fun hp => ?_, fun hp => ?_, fun h1 h2 => ?_⟩
  · have e0 : (i - 1).toNat = i.toNat - 1 := by omega
    have k1 : kx (wout z gs) h.toNat (i - 1).toNat = kx gs h.toNat i.toNat := by
      unfold kx
      rw [wout_row, e0]
      exact (filt_get hn hm).2 (by omega)
    have k2 : kx (wout z gs) h.toNat ((i - 1).toNat + 1) = kx gs h.toNat (i.toNat + 1) := by
      unfold kx
      rw [wout_row, e0, show i.toNat - 1 + 1 = i.toNat + 1 - 1 by omega]
      exact (filt_get hn hm).2 (by omega)
    have n1 := ne i.toNat (by omega) (by omega)
    have n2 := ne (i.toNat + 1) (by omega) (by omega)
    refine ⟨?_, ?_, ?_, k1, k2, n1, n2⟩
    · unfold stepB
      simp only [Bool.and_eq_true, decide_eq_true_eq]
      omega
    · show silB _ _ _ = silB _ _ _
      unfold silB
      rw [k1, k2, say _ _ _ n1 n2, say _ _ _ n1 n2]
    · exact sw (i - 1).toNat (by rw [e0]; exact f1 (by omega))
  · have k1 : kx (wout z gs) h.toNat i.toNat = kx gs h.toNat i.toNat := by
      unfold kx
      rw [wout_row]
      exact (filt_get hn hm).1 (by omega)
    have k2 : kx (wout z gs) h.toNat (i.toNat + 1) = kx gs h.toNat (i.toNat + 1) := by
      unfold kx
      rw [wout_row]
      exact (filt_get hn hm).1 (by omega)
    have n1 := ne i.toNat (by omega) (by omega)
    have n2 := ne (i.toNat + 1) (by omega) (by omega)
    refine ⟨?_, ?_, ?_, k1, k2, n1, n2⟩
    · unfold stepB
      simp only [Bool.and_eq_true, decide_eq_true_eq]
      omega
    · show silB _ _ _ = silB _ _ _
      unfold silB
      rw [k1, k2, say _ _ _ n1 n2, say _ _ _ n1 n2]
    · exact sw i.toNat (f2 (by omega))
  · refine ⟨?_, ?_⟩
    · show wout z (gs.set h.toNat (exch (row gs h.toNat) i.toNat)) = _
      rw [wout_set, f3 (by omega) (by omega)]
      apply List.ext_getElem?
      intro j
      rw [List.getElem?_set]
      split
      · rename_i e
        subst e
        have hlw : (wout z gs).length = 3 := (wout_v3 v).len
        rw [if_pos (by omega), row_at (gs := wout z gs) (by omega), wout_row]
      · rfl
    · have : (row gs h.toNat).idxOf z = i.toNat ∨ (row gs h.toNat).idxOf z = i.toNat + 1 := by omega
      rcases this with e | e
      · exact .inl (by rw [← e]; exact at_)
      · exact .inr (by rw [← e]; exact at_)
abbrev without (z : Int) (t : Int × Int × Int) : Bool := !decide (t.2.1 = z) && !decide (t.2.2 = z)
/-- a run without z -/
theorem proj_run {z : Int} : ∀ {sw : List (Int × Int)} {gs : List (List Int)}, V3 gs → z ∈ row gs 0 → okR gs sw →
    okR (wout z gs) (projL z gs sw) ∧ endL (wout z gs) (projL z gs sw) = wout z (endL gs sw) ∧ pairsL (wout z gs) (projL z gs sw) = (pairsL gs sw).filter (without z)
  | [], gs, v, hz, _ => ⟨⟨_, rfl⟩, rfl, rfl⟩
  | (h, i) :: sw, gs, v, hz, ho => by
    obtain ⟨o1, o2, o3⟩ := okR_cons ho
    obtain ⟨v2, p2⟩ := v.swp o1
    obtain ⟨i1, i2, i3⟩ := proj_run (sw := sw) v2 (p2.mem_iff.mpr hz) o3
    obtain ⟨w1, w2, w3⟩ := wout_step v hz o1
    have pj : projL z gs ((h, i) :: sw) = (if ((row gs h.toNat).idxOf z : Int) < i then [(h, i - 1)] else if i + 1 < ((row gs h.toNat).idxOf z : Int) then [(h, i)] else []) ++ projL z (sws gs (h, i)) sw := rfl
    have pp : pairsL gs ((h, i) :: sw) = (h, kx gs h.toNat i.toNat, kx gs h.toNat (i.toNat + 1)) :: pairsL (sws gs (h, i)) sw := rfl
    have ee : endL gs ((h, i) :: sw) = endL (sws gs (h, i)) sw := rfl
    by_cases c1 : ((row gs h.toNat).idxOf z : Int) < i
    · obtain ⟨a1, a2, a3, a4, a5, a6, a7⟩ := w1 c1
      rw [pj, if_pos c1]
      show okR _ ((h, i - 1) :: projL z (sws gs (h, i)) sw) ∧ endL (sws (wout z gs) (h, i - 1)) (projL z (sws gs (h, i)) sw) = wout z (endL (sws gs (h, i)) sw) ∧ (h, kx (wout z gs) h.toNat (i - 1).toNat, kx (wout z gs) h.toNat ((i - 1).toNat + 1)) :: pairsL (sws (wout z gs) (h, i - 1)) (projL z (sws gs (h, i)) sw) = _
      rw [a3, a4, a5, pp, List.filter_cons, if_pos (by simp [without, a6, a7]), i3]
      exact ⟨okR_mk a1 (by rw [a2]; exact o2) (by rw [a3]; exact i1), i2, rfl⟩
    · by_cases c2 : i + 1 < ((row gs h.toNat).idxOf z : Int)
      · obtain ⟨a1, a2, a3, a4, a5, a6, a7⟩ := w2 c2
        rw [pj, if_neg c1, if_pos c2]
        show okR _ ((h, i) :: projL z (sws gs (h, i)) sw) ∧ endL (sws (wout z gs) (h, i)) (projL z (sws gs (h, i)) sw) = wout z (endL (sws gs (h, i)) sw) ∧ (h, kx (wout z gs) h.toNat i.toNat, kx (wout z gs) h.toNat (i.toNat + 1)) :: pairsL (sws (wout z gs) (h, i)) (projL z (sws gs (h, i)) sw) = _
        rw [a3, a4, a5, pp, List.filter_cons, if_pos (by simp [without, a6, a7]), i3]
        exact ⟨okR_mk a1 (by rw [a2]; exact o2) (by rw [a3]; exact i1), i2, rfl⟩
      · obtain ⟨a1, a2⟩ := w3 c1 c2
        rw [pj, if_neg c1, if_neg c2, pp, List.filter_cons, if_neg, ← a1]
        · exact ⟨i1, i2, i3⟩
        · rcases a2 with a2 | a2 <;> simp [without, a2]
theorem proj_app {z : Int} {b : List (Int × Int)} : ∀ {a : List (Int × Int)} {gs : List (List Int)}, projL z gs (a ++ b) = projL z gs a ++ projL z (endL gs a) b
  | [], gs => rfl
  | s :: a, gs => by
    show _ ++ projL z (sws gs s) (a ++ b) = (_ ++ projL z (sws gs s) a) ++ projL z (endL (sws gs s) a) b
    rw [proj_app (a := a), List.append_assoc]
theorem proj_len {z : Int} : ∀ {a : List (Int × Int)} {gs : List (List Int)}, (projL z gs a).length ≤ a.length
  | [], gs => Nat.le_refl _
  | s :: a, gs => by
    show (_ ++ projL z (sws gs s) a).length ≤ _
    rw [List.length_append, List.length_cons]
    have := proj_len (z := z) (a := a) (gs := sws gs s)
    split
    · simp only [List.length_singleton]; omega
    · split
      · simp only [List.length_singleton]; omega
      · simp only [List.length_nil]; omega
/-- a step taken back -/
theorem back_step {gs : List (List Int)} (v : V3 gs) {s : Int × Int} (h1 : stepB gs s = true) (h2 : sil gs s = true) : stepB (sws gs s) s = true ∧ sil (sws gs s) s = true ∧ sws (sws gs s) s = gs ∧ ∀ z ∈ row gs 0, projL z (sws gs s) [s] = projL z gs [s] := by
  obtain ⟨h, i⟩ := s
  have hs := stepB_ok h1
  dsimp only at hs
  have hl := v.len
  have hq := v.leq (h := h.toNat) (by omega)
  obtain ⟨v2, p2⟩ := v.swp h1
  have rw_ : ∀ j, row (sws gs (h, i)) j = if h.toNat = j then exch (row gs h.toNat) i.toNat else row gs j := fun j => row_set (by omega)
  have kk : kx (sws gs (h, i)) h.toNat i.toNat = kx gs h.toNat (i.toNat + 1) ∧ kx (sws gs (h, i)) h.toNat (i.toNat + 1) = kx gs h.toNat i.toNat := by
    unfold kx
    rw [rw_, if_pos rfl]
    exact exch_get (by omega)
  have n12 : kx gs h.toNat i.toNat ≠ kx gs h.toNat (i.toNat + 1) := fun e => by
    have hn := v.rnd (h := h.toNat) (by omega)
    unfold kx at e
    rw [List.getD_eq_getElem?_getD, List.getD_eq_getElem?_getD, List.getElem?_eq_getElem (by omega), List.getElem?_eq_getElem (by omega)] at e
    have e : (row gs h.toNat)[i.toNat] = (row gs h.toNat)[i.toNat + 1] := e
    have := nd_ix hn ((List.getElem?_eq_getElem (by omega)).trans (congrArg some e)) (List.getElem?_eq_getElem (i := i.toNat + 1) (by omega))
    omega
  have turn : ∀ j, j < 3 → sayB (row gs j) (kx gs h.toNat (i.toNat + 1)) (kx gs h.toNat i.toNat) = !sayB (row gs j) (kx gs h.toNat i.toNat) (kx gs h.toNat (i.toNat + 1)) := fun j hj => by
    have m1 := v.mem (h := h.toNat) (h' := j) (i := i.toNat) (by omega) hj (by omega)
    have m2 := v.mem (h := h.toNat) (h' := j) (i := i.toNat + 1) (by omega) hj (by omega)
    unfold sayB
    have : (row gs j).idxOf (kx gs h.toNat i.toNat) ≠ (row gs j).idxOf (kx gs h.toNat (i.toNat + 1)) := fun e => n12 (idx_inj m1 m2 e)
    rw [← decide_not]
    exact decide_eq_decide.mpr (by omega)
  refine ⟨?_, ?_, ?_, fun z hz => ?_⟩
  · unfold stepB
    simp only [Bool.and_eq_true, decide_eq_true_eq]
    rw [p2.length_eq]
    omega
  · have h2 : silB gs h.toNat i.toNat = true := h2
    show silB _ h.toNat i.toNat = true
    unfold silB at h2 ⊢
    rw [kk.1, kk.2, rw_, rw_, if_neg (by omega), if_neg (by omega), turn _ (by omega), turn _ (by omega)]
    have h2 := of_decide_eq_true h2
    rw [h2]
    simp
  · show (gs.set h.toNat (exch (row gs h.toNat) i.toNat)).set h.toNat (exch (row (sws gs (h, i)) h.toNat) i.toNat) = gs
    rw [rw_, if_pos rfl, exch_twice (by omega), List.set_set]
    apply List.ext_getElem?
    intro j
    rw [List.getElem?_set]
    split
    · rename_i e
      subst e
      rw [if_pos (by omega), row_at (by omega)]
    · rfl
  · have hn := v.rnd (h := h.toNat) (by omega)
    have hm : z ∈ row gs h.toNat := (v.row (h := h.toNat) (by omega)).mem_iff.mpr hz
    show (if ((row (sws gs (h, i)) h.toNat).idxOf z : Int) < i then [(h, i - 1)] else if i + 1 < ((row (sws gs (h, i)) h.toNat).idxOf z : Int) then [(h, i)] else []) ++ [] = (if ((row gs h.toNat).idxOf z : Int) < i then [(h, i - 1)] else if i + 1 < ((row gs h.toNat).idxOf z : Int) then [(h, i)] else []) ++ []
    rw [rw_, if_pos rfl, exch_idx hn hm (by omega)]
    by_cases c1 : (row gs h.toNat).idxOf z = i.toNat
    · rw [if_pos c1, if_neg (by omega), if_neg (by omega), if_neg (by omega), if_neg (by omega)]
    · rw [if_neg c1]
      by_cases c2 : (row gs h.toNat).idxOf z = i.toNat + 1
      · rw [if_pos c2, if_neg (by omega), if_neg (by omega), if_neg (by omega), if_neg (by omega)]
      · rw [if_neg c2]
theorem endL_snoc {gs : List (List Int)} {sw : List (Int × Int)} {s : Int × Int} : endL gs (sw ++ [s]) = sws (endL gs sw) s := by
  rw [endL_append] <;> rfl
/-- a run taken back -/
theorem back_run {sw : List (Int × Int)} : ∀ {gs : List (List Int)}, V3 gs → okR gs sw → okR (endL gs sw) sw.reverse ∧ endL (endL gs sw) sw.reverse = gs ∧ ∀ z ∈ row gs 0, projL z (endL gs sw) sw.reverse = (projL z gs sw).reverse := by
  induction sw with
  | nil => exact fun v h => ⟨⟨_, rfl⟩, rfl, fun _ _ => rfl⟩
  | cons s sw ih =>
    intro gs v h
    obtain ⟨h1, h2, h3⟩ := okR_cons h
    obtain ⟨v2, p2⟩ := v.swp h1
    obtain ⟨i1, i2, i3⟩ := ih v2 h3
    obtain ⟨b1, b2, b3, b4⟩ := back_step v h1 h2
    have ee : endL gs (s :: sw) = endL (sws gs s) sw := rfl
    rw [ee, List.reverse_cons]
    refine ⟨okR_append.mpr ⟨i1, ?_⟩, ?_, fun z hz => ?_⟩
    · rw [i2]
      exact okR_mk b1 b2 ⟨_, rfl⟩
    · rw [endL_snoc, i2, b3]
    · have pj : projL z gs (s :: sw) = projL z gs [s] ++ projL z (sws gs s) sw := by
        show _ ++ _ = (_ ++ []) ++ _
        rw [List.append_nil]
      rw [proj_app, i3 z (p2.mem_iff.mpr hz), i2, b4 z hz, pj, List.reverse_append]
      congr 1
      show (_ ++ [] : List (Int × Int)) = (_ ++ [] : List (Int × Int)).reverse
      split
      · rfl
      · split <;> rfl
/-- two keys taken out -/
theorem two_out {a b : Int} (hab : a ≠ b) : ∀ {sw : List (Int × Int)} {gs : List (List Int)}, V3 gs → a ∈ row gs 0 → b ∈ row gs 0 → okR gs sw → projL b (wout a gs) (projL a gs sw) = projL a (wout b gs) (projL b gs sw)
  | [], gs, _, _, _, _ => rfl
  | (h, i) :: sw, gs, v, ha, hb, ho => by
    obtain ⟨o1, o2, o3⟩ := okR_cons ho
    obtain ⟨v2, p2⟩ := v.swp o1
    have ih := two_out hab (sw := sw) v2 (p2.mem_iff.mpr ha) (p2.mem_iff.mpr hb) o3
    obtain ⟨w1, w2, w3⟩ := wout_step v ha o1
    obtain ⟨u1, u2, u3⟩ := wout_step v hb o1
    have hs := stepB_ok o1
    dsimp only at hs
    have hn := v.rnd (h := h.toNat) (by omega)
    have hma : a ∈ row gs h.toNat := (v.row (h := h.toNat) (by omega)).mem_iff.mpr ha
    have hmb : b ∈ row gs h.toNat := (v.row (h := h.toNat) (by omega)).mem_iff.mpr hb
    have f1 := filt_idx hab hn hma hmb
    have f2 := filt_idx (Ne.symm hab) hn hmb hma
    have hne : (row gs h.toNat).idxOf a ≠ (row gs h.toNat).idxOf b := fun e => hab (idx_inj hma hmb e)
    have r1 : row (wout a gs) h.toNat = filt a (row gs h.toNat) := wout_row
    have r2 : row (wout b gs) h.toNat = filt b (row gs h.toNat) := wout_row
    have pj : ∀ (z : Int) (gs : List (List Int)) (h i : Int) sw, projL z gs ((h, i) :: sw) = (if ((row gs h.toNat).idxOf z : Int) < i then [(h, i - 1)] else if i + 1 < ((row gs h.toNat).idxOf z : Int) then [(h, i)] else []) ++ projL z (sws gs (h, i)) sw := fun _ _ _ _ _ => rfl
    rw [pj a, pj b]
    generalize hp : (row gs h.toNat).idxOf a = p at *
    generalize hq : (row gs h.toNat).idxOf b = q at *
    have ga : ∀ j l, sws (wout a gs) (h, j) = wout a (sws gs (h, i)) → projL b (wout a gs) ([(h, j)] ++ l) = (if ((row (wout a gs) h.toNat).idxOf b : Int) < j then [(h, j - 1)] else if j + 1 < ((row (wout a gs) h.toNat).idxOf b : Int) then [(h, j)] else []) ++ projL b (wout a (sws gs (h, i))) l := fun j l e => by
      show projL b (wout a gs) ((h, j) :: l) = _
      rw [pj, e]
    have gb : ∀ j l, sws (wout b gs) (h, j) = wout b (sws gs (h, i)) → projL a (wout b gs) ([(h, j)] ++ l) = (if ((row (wout b gs) h.toNat).idxOf a : Int) < j then [(h, j - 1)] else if j + 1 < ((row (wout b gs) h.toNat).idxOf a : Int) then [(h, j)] else []) ++ projL a (wout b (sws gs (h, i))) l := fun j l e => by
      show projL a (wout b gs) ((h, j) :: l) = _
      rw [pj, e]
    by_cases c1 : (p : Int) < i
    · rw [if_pos c1, ga _ _ (w1 c1).2.2.1, r1, f1]
      by_cases d1 : (q : Int) < i
      · rw [if_pos d1, gb _ _ (u1 d1).2.2.1, r2, f2, ih]
        congr 1
        repeat' split
        all_goals first | rfl | omega
      · rw [if_neg d1]
        by_cases d2 : i + 1 < (q : Int)
        · rw [if_pos d2, gb _ _ (u2 d2).2.2.1, r2, f2, ih]
          congr 1
          repeat' split
          all_goals first | rfl | omega
        · rw [if_neg d2]
          have e3 := (u3 d1 d2).1
          show _ = projL a (wout b gs) (projL b (sws gs (h, i)) sw)
          rw [← e3, ih]
          have : ∀ X Y : List (Int × Int), X = [] → X ++ Y = Y := fun X Y e => by rw [e]; rfl
          apply this
          repeat' split
          all_goals first | rfl | omega
    · rw [if_neg c1]
      by_cases c2 : i + 1 < (p : Int)
      · rw [if_pos c2, ga _ _ (w2 c2).2.2.1, r1, f1]
        by_cases d1 : (q : Int) < i
        · rw [if_pos d1, gb _ _ (u1 d1).2.2.1, r2, f2, ih]
          congr 1
          repeat' split
          all_goals first | rfl | omega
        · rw [if_neg d1]
          by_cases d2 : i + 1 < (q : Int)
          · rw [if_pos d2, gb _ _ (u2 d2).2.2.1, r2, f2, ih]
            congr 1
            repeat' split
            all_goals first | rfl | omega
          · rw [if_neg d2]
            have e3 := (u3 d1 d2).1
            show _ = projL a (wout b gs) (projL b (sws gs (h, i)) sw)
            rw [← e3, ih]
            have : ∀ X Y : List (Int × Int), X = [] → X ++ Y = Y := fun X Y e => by rw [e]; rfl
            apply this
            repeat' split
            all_goals first | rfl | omega
      · rw [if_neg c2]
        have e3 := (w3 c1 c2).1
        show projL b (wout a gs) (projL a (sws gs (h, i)) sw) = _
        rw [← e3, ih]
        by_cases d1 : (q : Int) < i
        · rw [if_pos d1, gb _ _ (u1 d1).2.2.1, r2, f2]
          symm
          have : ∀ X Y : List (Int × Int), X = [] → X ++ Y = Y := fun X Y e => by rw [e]; rfl
          apply this
          repeat' split
          all_goals first | rfl | omega
        · rw [if_neg d1]
          by_cases d2 : i + 1 < (q : Int)
          · rw [if_pos d2, gb _ _ (u2 d2).2.2.1, r2, f2]
            symm
            have : ∀ X Y : List (Int × Int), X = [] → X ++ Y = Y := fun X Y e => by rw [e]; rfl
            apply this
            repeat' split
            all_goals first | rfl | omega
          · rw [if_neg d2]
            have e4 := (u3 d1 d2).1
            show _ = projL a (wout b gs) (projL b (sws gs (h, i)) sw)
            rw [← e4]
theorem playR_append {b : List (Int × Int)} : ∀ {a : List (Int × Int)} {gs : List (List Int)} {n : Nat}, okR gs a → playR gs (a ++ b) n = playR (endL gs a) b (n + a.length)
  | [], gs, n, _ => rfl
  | s :: a, gs, n, h => by
    obtain ⟨h1, h2, h3⟩ := okR_cons h
    show playR gs (s :: (a ++ b)) n = _
    rw [playR_step h1 h2, playR_append h3]
    show playR (endL (sws gs s) a) b _ = playR (endL (sws gs s) a) b _
    rw [List.length_cons, show n + 1 + a.length = n + (a.length + 1) by omega]
theorem playR_bad {gs : List (List Int)} {s : Int × Int} {sw : List (Int × Int)} {n : Nat} {aud : Bool} (h1 : aud = true → stepB gs s = true ∧ sil gs s = false) (h2 : aud = false → stepB gs s = false) : playR gs (s :: sw) n = .error (aud, n) := by
  rw [playR_cons]
  cases aud with
  | true => rw [(h1 rfl).1, (h1 rfl).2] <;> rfl
  | false => rw [h2 rfl] <;> rfl
section
variable {K : PySem.W.Frag} {W : WX} {ds : List D} {O : Ow} {k : Kk} {x : Xk} {P : D → Ow → Prop} {α : Type}
structure Codes (n : Nat) (f : α → D) : Prop where
  inj : ∀ a b, toPd (f a) = toPd (f b) → a = b
  sh : ∀ a, shalN n (f a)
theorem Codes.lst {n : Nat} {f : α → D} (c : Codes n f) (h : n + 1 ≤ 64) (xs : List α) : shal (.lst (xs.map f)) := (shalN_lst fun x hx => by
  obtain ⟨a, _, rfl⟩ := List.mem_map.mp hx
  exact c.sh a).ok h
theorem wpR_eqC [DecidableEq α] {n : Nat} {f : α → D} {x y : D} {xs ys : List α} (c : Codes n f) (hn : n + 1 ≤ 64) (hx : viewOf O x (.lst (xs.map f))) (hy : viewOf O y (.lst (ys.map f))) (p : P (.bl (decide (xs = ys))) O) : wpR K (rEqA K) x y O P :=
  wpR_eqD hx hy (c.lst hn xs) (c.lst hn ys) fun b hb => by
    rw [pd_lst c.inj] at hb
    have : b = decide (xs = ys) := by
      cases b with
      | true => exact (decide_eq_true (hb.mp rfl)).symm
      | false => exact (decide_eq_false fun e => by have := hb.mpr e; cases this).symm
    rw [this]
    exact p
theorem wpR_neC [DecidableEq α] {n : Nat} {f : α → D} {x y : D} {xs ys : List α} (c : Codes n f) (hn : n + 1 ≤ 64) (hx : viewOf O x (.lst (xs.map f))) (hy : viewOf O y (.lst (ys.map f))) (p : P (.bl (!decide (xs = ys))) O) : wpR K (rNeA K) x y O P :=
  wpR_neD hx hy (c.lst hn xs) (c.lst hn ys) fun b hb => by
    rw [pd_lst c.inj] at hb
    have : b = decide (xs = ys) := by
      cases b with
      | true => exact (decide_eq_true (hb.mp rfl)).symm
      | false => exact (decide_eq_false fun e => by have := hb.mpr e; cases this).symm
    rw [this]
    exact p
theorem codes_pr : Codes 1 PyD.prD := ⟨fun a b h => toPd_pr h, shal_pr⟩
theorem codes_L : Codes 1 L := ⟨fun a b h => pd_L.mp h, fun a => shalN_lst fun x hx => by
  obtain ⟨z, _, rfl⟩ := List.mem_map.mp hx
  exact shalN_int⟩
theorem codes_tr : Codes 1 trD := ⟨fun a b h => by
  obtain ⟨a1, a2, a3⟩ := a
  obtain ⟨b1, b2, b3⟩ := b
  simp only [trD, toPd, toPds, PyData.tuple.injEq, List.cons.injEq, PyData.int.injEq, and_true] at h
  obtain ⟨rfl, rfl, rfl⟩ := h
  rfl, fun a => shalN_tup fun x hx => by
  simp only [List.mem_cons, List.not_mem_nil, or_false] at hx
  rcases hx with rfl | rfl | rfl <;> exact shalN_int⟩
theorem okR_play {gs : List (List Int)} {sw : List (Int × Int)} (h : okR gs sw) : playR gs sw 0 = .ok (endL gs sw) := by
  obtain ⟨g, hg⟩ := h
  rw [hg, okR_end hg]
theorem rl_len {gs : List (List Int)} (v : VS gs) : ∀ o ∈ gs, o.length ≤ 100 := fun o ho => by
  have := wrong_len (v.ok o ho)
  omega
theorem lent1 {j : Nat} {a : Addr} {b : Bool} {d : D} (h : O[j]? = some ⟨a, b, d⟩) : Lent O [⟨a, false, d⟩] := ⟨fun p hp => by
  rw [List.mem_singleton.mp hp]
  exact ⟨b, List.mem_of_getElem? h⟩, by simp, fun p hp => by rw [List.mem_singleton.mp hp]⟩
theorem pairs_len : ∀ {sw : List (Int × Int)} {gs : List (List Int)}, (pairsL gs sw).length = sw.length
  | [], _ => rfl
  | s :: sw, gs => by
    show (pairsL (sws gs s) sw).length + 1 = _
    rw [pairs_len] <;> rfl
theorem cut_last {f : α → D} {xs : List α} {x : α} : cutD ((xs ++ [x]).map f) none (some (-1)) = xs.map f := by
  unfold cutD
  have e : HT.sIx ((xs ++ [x]).map f).length ((xs ++ [x]).map f).length (some (-1)) = xs.length := by
    unfold HT.sIx
    dsimp only
    rw [if_pos (by omega), List.length_map, List.length_append, List.length_singleton]
    omega
  rw [e, HT.sIx_none, List.drop_zero, Nat.sub_zero, List.map_append, List.take_left' (by rw [List.length_map])]
theorem w__law_key_out (h : sp__law_key_out K ds O k x) (lo : ∀ p ∈ O, p.loc = false) : wpS K W (fun e _ O' => x e O') (t__law_key_out K W) (startD N__law_key_out.length ds) O { nx := fun _ O' => k .non O', rt := k } := by
  obtain ⟨gs, sw, z, ⟨rfl, rfl⟩, v, hl, ho, hz, hk⟩ := h
  have hzb := wrong_rng (v.row (h := 0) (by omega)).1 z hz
  obtain ⟨p1, p2, p3⟩ := proj_run v.v3 hz ho
  have pl := proj_len (z := z) (a := sw) (gs := gs)
  have v2 := wout_vs (z := z) v
  obtain ⟨ve, pe⟩ := v.fin ho
  have hze : z ∈ row (endL gs sw) 0 := pe.mem_iff.mpr hz
  unfold t__law_key_out
  walk_at "start"
  walk_at "w"
  walk_at "c0"
  refine ⟨gs, _, sw, [], ⟨rfl, rfl⟩, seq_l, v.v3, by omega, ho, ?_⟩
  walk_at "w"
  walk_at "c0"
  refine ⟨gs, sw, z, ⟨rfl, rfl⟩, v, by omega, by omega, fun q => absurd hz q, fun _ => ⟨fun g hg => ?_, fun e he => ?_⟩⟩
  rotate_left
  · rw [okR_play ho] at he
    cases he
  walk_at "w"
  walk_at "c0"
  refine ⟨_, ⟨rfl, rfl⟩, fun c => ?_⟩
  walk_at "w"
  refine wpS_iteP (c := false) ?_ ⟨fun h => (by cases h), fun _ => ?_⟩
  · refine wpT_mono (wpT_orP (c1 := false) (c2 := false) ?_ fun _ => ?_) fun b O' h => h
    · walk_at "w"
      exact ⟨rfl, rfl⟩
    · walk_at "w"
      exact ⟨rfl, rfl⟩
  walk_at "w"
  walk_at "c0"
  refine ⟨gs, z, ⟨rfl, rfl⟩, by have := v.len; omega, rl_len v, ?_⟩
  walk_at "w"
  refine wpE_callN (fun _ => .nil) ?_
  walk_at "w"
  refine ⟨_, lent1 (j := 0) rfl, wout z gs, _, projL z gs sw, _, ⟨rfl, rfl⟩, seq_m (i := 0) rfl, wout_v3 v.v3, by omega, p1, [], rfl, ?_⟩
  walk_at "w"
  refine ⟨fun h => (by cases h), fun _ => ?_⟩
  walk_at "w"
  refine wpE_lst false ?_
  walk_at "w"
  refine ⟨by decide, ?_⟩
  intro c2 _
  walk_at "w"
  refine wpS_seq ?_
  have pll : (pairsL gs sw).length = sw.length := pairs_len
  refine wpS_for1 11 (fun i q O' => O' = [⟨c2, true, .lst (((pairsL gs sw).take i).filter (without z) |>.map trD)⟩, ⟨c, true, prs (projL z gs sw)⟩]) (as := pairsL gs sw) (enc := trD) ?_
  walk_at "w"
  refine ⟨_, seq_l, rfl, rfl, fun _ _ _ _ _ => seq_l, ?_, ?_⟩
  · intro i t q O' ht hJ
    subst hJ
    have hi : i < (pairsL gs sw).length := (List.getElem?_eq_some_iff.mp ht).1
    have et : ((pairsL gs sw).take (i + 1)).filter (without z) = ((pairsL gs sw).take i).filter (without z) ++ (if without z t then [t] else []) := by
      rw [List.take_succ, ht, List.filter_append]
      congr 1
      show List.filter _ [t] = _
      rw [List.filter_cons]
      cases without z t <;> rfl
    walk_at "w"
    refine wpS_iteP (c := without z t) ?_ ⟨fun hc => ?_, fun hc => ?_⟩
    · refine wpT_andP ?_ fun _ => ?_
      · walk_at "w"
        exact ⟨rfl, rfl⟩
      · walk_at "w"
        exact ⟨rfl, rfl⟩
    · rw [hc] at et
      walk_at "w"
      refine wpM_appendC (f := trD) (x := t) (j := 0) rfl rfl (small1000 ?_) ?_
      · have := List.length_filter_le (without z) ((pairsL gs sw).take i)
        rw [List.length_take] at this
        omega
      walk_at "w"
      rw [et]
      rfl
    · rw [hc] at et
      walk_at "w"
      rw [et]
      simp
  · intro q O' hJ
    subst hJ
    rw [List.take_length]
    walk_at "w"
    walk_at "c0"
    have v3e := (endL_v3 v.v3 ho).1
    refine ⟨endL gs sw, z, ⟨rfl, rfl⟩, by have := ve.len; omega, rl_len ve, ?_⟩
    walk_at "w"
    refine wpS_iteP (c := false) ?_ ⟨fun h => (by cases h), fun _ => ?_⟩
    · refine wpT_mono (wpT_orP (c1 := false) (c2 := false) ?_ fun _ => ?_) fun b O' h => h
      · walk_at "w"
        rw [p3]
        refine wpR_neC codes_tr (by decide) view_self (view_m (i := 0) rfl) ?_
        walk_at "w"
        exact ⟨by simp, rfl⟩
      · walk_at "w"
        rw [p2]
        refine wpR_neC codes_L (by decide) view_self view_self ?_
        walk_at "w"
        exact ⟨by simp, rfl⟩
    walk_at "w"
    refine wpE_binN ?_
    walk_at "w"
    refine ⟨_, _, rfl, rfl, gs, z, ⟨rfl, rfl⟩, v, by omega, fun _ => ?_, fun q => absurd hz q⟩
    walk_at "w"
    refine wpS_iteP (c := false) ?_ ⟨fun h => (by cases h), fun _ => ?_⟩
    · refine wpT_mono (wpT_orP (c1 := false) (c2 := false) ?_ fun _ => ?_) fun b O' h => h
      · walk_at "w"
        refine wpC_isC ?_
        walk_at "w"
        exact ⟨rfl, rfl⟩
      · walk_at "w"
        refine wpE_fz ?_
        walk_at "m0"
        refine ⟨_, ⟨rfl, rfl⟩, by have := v2.len; omega, fun c' => ⟨c', _, _, rfl, rfl, ?_⟩⟩
        walk_at "w"
        refine wpR_neC codes_L (by decide) view_self view_self ?_
        walk_at "w"
        exact ⟨by simp, rfl⟩
    walk_at "w"
    refine ⟨by show 2 ≤ sizeLine; decide, ?_⟩
    walk_at "w"
    refine wpM_appendC (f := PyD.prD) (x := (0, 0)) (j := 1) rfl rfl (small1000 (by omega)) ?_
    walk_at "w"
    refine wpS_iteP (c := false) ?_ ⟨fun h => (by cases h), fun _ => ?_⟩
    · refine wpT_mono (wpT_orP (c1 := false) (c2 := false) ?_ fun _ => ?_) fun b O' h => h
      · walk_at "w"
        refine wpE_fz ?_
        walk_at "m0"
        refine ⟨_, ⟨rfl, rfl⟩, fun c' => ⟨c', _, _, rfl, rfl, ?_⟩⟩
        walk_at "w"
        refine wpE_slL true ?_
        walk_at "w"
        refine ⟨_, seq_m (i := 1) rfl, ?_⟩
        rw [cut_last]
        refine wpR_neC codes_pr (by decide) view_self view_self ?_
        walk_at "w"
        exact ⟨by simp, rfl⟩
      · walk_at "w"
        refine wpC_lenO ⟨_, ⟨rfl, rfl⟩, by omega, _, rfl, by omega, by omega, ?_⟩
        walk_at "w"
        have e : (projL z gs sw).length = (((pairsL gs sw).filter (without z)).map trD).length := by
          rw [List.length_map, ← p3, pairs_len]
        exact ⟨by simp [e], rfl⟩
    refine wpS_subO (List.nil_sublist _) ?_
    walk_at "wr"
    refine wpE_fz ?_
    refine wpE_meth0 (fun _ => .nil) ?_
    walk_at "c0"
    refine ⟨wout z gs, projL z gs sw, ⟨rfl, rfl⟩, v2, by omega, fun g hg => ?_, fun e he => ?_⟩
    rotate_left
    · rw [okR_play p1] at he
      cases he
    rw [okR_play p1] at hg
    cases hg
    rw [p2]
    walk_at "w"
    refine ⟨rfl, ?_⟩
    walk_at "w"
    refine ⟨_, ⟨rfl, rfl⟩, by have := (wout_vs (z := z) ve).len; omega, fun c' => ⟨c', _, _, rfl, rfl, ?_⟩⟩
    walk_at "w"
    refine wpR_eqC codes_L (by decide) view_self view_self ?_
    walk_at "w"
    refine ⟨fun _ => ?_, fun h => (by simp at h)⟩
    walk_at "w"
    refine wpE_fz ?_
    refine wpE_meth0 (fun _ => .nil) ?_
    refine wpE_binN ?_
    walk_at "c0"
    refine ⟨gs, sw, ⟨rfl, rfl⟩, v, by omega, fun g hg => ?_, fun e he => ?_⟩
    rotate_left
    · rw [okR_play ho] at he
      cases he
    rw [okR_play ho] at hg
    cases hg
    walk_at "w"
    refine ⟨_, _, rfl, rfl, _, z, ⟨rfl, rfl⟩, ve, by omega, fun _ => ?_, fun q => absurd hze q⟩
    walk_at "w"
    refine ⟨rfl, ?_⟩
    walk_at "w"
    refine ⟨_, ⟨rfl, rfl⟩, by have := (wout_vs (z := z) ve).len; omega, fun c' => ⟨c', _, _, rfl, rfl, ?_⟩⟩
    walk_at "w"
    refine wpR_eqC codes_L (by decide) view_self view_self ?_
    simpa using hk
theorem playR_go {gs : List (List Int)} {sw : List (Int × Int)} (ho : okR gs sw) {g : List (List Int)} (hg : playR gs sw 0 = .ok g) : g = endL gs sw := okR_end hg
theorem playR_no {gs : List (List Int)} {sw : List (Int × Int)} (ho : okR gs sw) {e : Bool × Nat} (he : playR gs sw 0 = .error e) : False := by
  rw [okR_play ho] at he
  cases he
theorem cutC1 {f : α → D} {xs : List α} {n : Nat} (h : n ≤ xs.length) : cutD (xs.map f) none (some (n : Int)) = (xs.take n).map f := by
  unfold cutD
  rw [HT.sIx_nat, HT.sIx_none, List.length_map, Nat.min_eq_left h, List.drop_zero, Nat.sub_zero, List.map_take]
theorem cutC2 {f : α → D} {xs : List α} {n : Nat} (h : n ≤ xs.length) : cutD (xs.map f) (some (n : Int)) none = (xs.drop n).map f := by
  unfold cutD
  rw [HT.sIx_nat, HT.sIx_none, List.length_map, Nat.min_eq_left h, List.map_drop, List.take_of_length_le]
  rw [List.length_drop, List.length_map]
  exact Nat.le_refl _
theorem w__law_cut_run (h : sp__law_cut_run K ds O k x) (lo : ∀ p ∈ O, p.loc = false) : wpS K W (fun e _ O' => x e O') (t__law_cut_run K W) (startD N__law_cut_run.length ds) O { nx := fun _ O' => k .non O', rt := k } := by
  obtain ⟨b, d, gs, sw, z, ⟨rfl, rfl⟩, hB, v, hl, ho, hz, hk⟩ := h
  have hzb := wrong_rng (v.row (h := 0) (by omega)).1 z hz
  have pl := proj_len (z := z) (a := sw) (gs := gs)
  obtain ⟨ve, pe⟩ := v.fin ho
  have hze : z ∈ row (endL gs sw) 0 := pe.mem_iff.mpr hz
  obtain ⟨b1, b2, b3⟩ := back_run v.v3 ho
  unfold t__law_cut_run
  walk_at "start"
  walk_at "w"
  refine wpE_take (j := 0) rfl ?_
  walk_at "w"
  refine ⟨_, _, _, rfl, ⟨by simp; omega, by simp; omega⟩, rfl, hB, fun u d u0 u1 hB => ?_⟩
  rw [List.length_map] at u1
  obtain ⟨n, rfl⟩ : ∃ n : Nat, u = (n : Int) := ⟨u.toNat, by omega⟩
  have hn : n ≤ sw.length := by omega
  have hsp : sw = sw.take n ++ sw.drop n := (List.take_append_drop n sw).symm
  have ho2 := ho
  rw [hsp] at ho2
  obtain ⟨o1, o2⟩ := okR_append.mp ho2
  obtain ⟨v1, q1⟩ := v.fin o1
  have hz1 : z ∈ row (endL gs (sw.take n)) 0 := q1.mem_iff.mpr hz
  have t1 : (sw.take n).length ≤ sw.length := by rw [List.length_take]; omega
  have t2 : (sw.drop n).length ≤ sw.length := by rw [List.length_drop]; omega
  have pl1 := proj_len (z := z) (a := sw.take n) (gs := gs)
  have pl2 := proj_len (z := z) (a := sw.drop n) (gs := endL gs (sw.take n))
  walk_at "w"
  refine wpE_make (fun _ => .nil) ?_
  walk_at "w"
  refine wpE_slL true ?_
  walk_at "w"
  refine ⟨_, seq_l, ?_⟩
  rw [cutC1 hn]
  walk_at "w"
  refine wpC_list true seq_l ?_
  walk_at "w"
  refine ⟨[], lent_nil, fun s' _ => ⟨s', _, _, [], ⟨rfl, rfl⟩, seq_l, rfl, [], _, rfl, ?_⟩⟩
  walk_at "w"
  refine wpE_make (fun _ => .nil) ?_
  walk_at "w"
  refine wpE_slL true ?_
  walk_at "w"
  refine ⟨_, seq_l, ?_⟩
  rw [cutC2 hn]
  walk_at "w"
  refine wpC_list true seq_l ?_
  walk_at "w"
  refine ⟨[], lent_nil, fun s' _ => ⟨s', _, _, [], ⟨rfl, rfl⟩, seq_l, rfl, [], _, rfl, ?_⟩⟩
  walk_at "w"
  refine wpE_fz ?_
  refine wpE_meth0 (fun _ => .nil) ?_
  walk_at "c0"
  refine ⟨gs, sw, z, ⟨rfl, rfl⟩, v, by omega, by omega, fun q => absurd hz q, fun _ => ⟨fun g hg => ?_, fun e he => (playR_no ho he).elim⟩⟩
  walk_at "w"
  refine ⟨rfl, ?_⟩
  walk_at "w"
  refine ⟨_, ⟨rfl, rfl⟩, fun c' => ⟨c', _, _, rfl, rfl, ?_⟩⟩
  walk_at "w"
  refine wpE_binI ?_
  walk_at "c0"
  refine ⟨gs, sw.take n, z, ⟨rfl, rfl⟩, v, by omega, by omega, fun q => absurd hz q, fun _ => ⟨fun g hg => ?_, fun e he => (playR_no o1 he).elim⟩⟩
  walk_at "c0"
  walk_at "c0"
  refine ⟨gs, sw.take n, ⟨rfl, rfl⟩, v, by omega, fun g hg => ?_, fun e he => (playR_no o1 he).elim⟩
  obtain rfl := playR_go o1 hg
  walk_at "w"
  refine ⟨_, sw.drop n, z, ⟨rfl, rfl⟩, v1, by omega, by omega, fun q => absurd hz1 q, fun _ => ⟨fun g hg => ?_, fun e he => (playR_no o2 he).elim⟩⟩
  refine ⟨_, _, rfl, rfl, _, _, ⟨rfl, rfl⟩, by omega, ?_⟩
  rw [← proj_app, ← hsp]
  walk_at "w"
  walk_at "c0"
  walk_at "c0"
  refine ⟨gs, sw, ⟨rfl, rfl⟩, v, by omega, fun g hg => ?_, fun e he => (playR_no ho he).elim⟩
  obtain rfl := playR_go ho hg
  walk_at "w"
  refine wpE_negI ?_
  walk_at "w"
  refine ⟨_, ⟨rfl, rfl⟩, ?_⟩
  walk_at "w"
  refine ⟨_, sw.reverse, z, ⟨rfl, rfl⟩, ve, by simp; omega, by omega, fun q => absurd hze q, fun _ => ⟨fun g hg => ?_, fun e he => (playR_no b1 he).elim⟩⟩
  rw [b3 z hz]
  walk_at "wr"
  refine wpE_fz ?_
  walk_at "m0"
  refine ⟨_, ⟨rfl, rfl⟩, fun c' => ⟨c', _, _, rfl, rfl, ?_⟩⟩
  walk_at "w"
  refine wpR_eqC codes_pr (by decide) view_self view_self ?_
  walk_at "w"
  refine ⟨fun _ => ?_, fun h => (by simp at h)⟩
  walk_at "w"
  refine wpE_fz ?_
  walk_at "m0"
  refine ⟨_, ⟨rfl, rfl⟩, fun c' => ⟨c', _, _, rfl, rfl, ?_⟩⟩
  walk_at "w"
  refine wpE_revL true ?_
  walk_at "w"
  refine ⟨_, seq_l, ?_⟩
  rw [← List.map_reverse]
  refine wpR_eqC codes_pr (by decide) view_self view_self ?_
  simpa using hk d hB
theorem w__law_two_out (h : sp__law_two_out K ds O k x) (lo : ∀ p ∈ O, p.loc = false) : wpS K W (fun e _ O' => x e O') (t__law_two_out K W) (startD N__law_two_out.length ds) O { nx := fun _ O' => k .non O', rt := k } := by
  obtain ⟨gs, sw, y, z, ⟨rfl, rfl⟩, v, hl, ho, hy, hz, hyz, hk⟩ := h
  have hzb := wrong_rng (v.row (h := 0) (by omega)).1 z hz
  have hyb := wrong_rng (v.row (h := 0) (by omega)).1 y hy
  have ply := proj_len (z := y) (a := sw) (gs := gs)
  have plz := proj_len (z := z) (a := sw) (gs := gs)
  obtain ⟨py1, py2, py3⟩ := proj_run v.v3 hy ho
  obtain ⟨pz1, pz2, pz3⟩ := proj_run v.v3 hz ho
  have vy := wout_vs (z := y) v
  have vz := wout_vs (z := z) v
  have hz' : z ∈ row (wout y gs) 0 := by
    rw [wout_row]
    exact List.mem_filter.mpr ⟨hz, by simpa using Ne.symm hyz⟩
  have hy' : y ∈ row (wout z gs) 0 := by
    rw [wout_row]
    exact List.mem_filter.mpr ⟨hy, by simpa using hyz⟩
  have plyz := proj_len (z := z) (a := projL y gs sw) (gs := wout y gs)
  obtain ⟨pp1, pp2, pp3⟩ := proj_run vy.v3 hz' py1
  have com := two_out hyz v.v3 hy hz ho
  obtain ⟨ve, pe⟩ := v.fin ho
  have vye := wout_vs (z := y) ve
  unfold t__law_two_out
  walk_at "start"
  walk_at "w"
  walk_at "c0"
  refine wpE_binN ?_
  walk_at "w"
  refine ⟨_, _, rfl, rfl, gs, y, ⟨rfl, rfl⟩, v, by omega, fun _ => ?_, fun q => absurd hy q⟩
  walk_at "w"
  walk_at "c0"
  refine ⟨gs, sw, y, ⟨rfl, rfl⟩, v, by omega, by omega, fun q => absurd hy q, fun _ => ⟨fun g hg => ?_, fun e he => (playR_no ho he).elim⟩⟩
  walk_at "w"
  refine ⟨_, _, z, ⟨rfl, rfl⟩, vy, by omega, by omega, fun q => absurd hz' q, fun _ => ⟨fun g hg => ?_, fun e he => (playR_no py1 he).elim⟩⟩
  walk_at "w"
  walk_at "c0"
  refine wpE_binN ?_
  walk_at "w"
  refine ⟨_, _, rfl, rfl, gs, z, ⟨rfl, rfl⟩, v, by omega, fun _ => ?_, fun q => absurd hz q⟩
  walk_at "w"
  walk_at "c0"
  refine ⟨gs, sw, z, ⟨rfl, rfl⟩, v, by omega, by omega, fun q => absurd hz q, fun _ => ⟨fun g hg => ?_, fun e he => (playR_no ho he).elim⟩⟩
  walk_at "w"
  refine ⟨_, _, y, ⟨rfl, rfl⟩, vz, by omega, by omega, fun q => absurd hy' q, fun _ => ⟨fun g hg => ?_, fun e he => (playR_no pz1 he).elim⟩⟩
  rw [← com]
  walk_at "w"
  refine wpE_fz ?_
  walk_at "c0"
  refine ⟨_, ⟨rfl, rfl⟩, fun c => ⟨c, _, _, rfl, rfl, ?_⟩⟩
  walk_at "w"
  walk_at "c0"
  refine ⟨gs, _, sw, [], ⟨rfl, rfl⟩, seq_l, v.v3, by omega, ho, ?_⟩
  walk_at "w"
  refine wpS_iteP (c := false) ?_ ⟨fun h => (by cases h), fun _ => ?_⟩
  · refine wpT_mono (wpT_orP (c1 := false) (c2 := false) ?_ fun _ => wpT_orP (c1 := false) (c2 := false) ?_ fun _ => ?_) fun b O' h => h
    · walk_at "w"
      exact ⟨rfl, rfl⟩
    · walk_at "w"
      exact ⟨rfl, rfl⟩
    · walk_at "w"
      refine wpE_fz ?_
      walk_at "m0"
      refine ⟨_, ⟨rfl, rfl⟩, fun c' => ⟨c', _, _, rfl, rfl, ?_⟩⟩
      walk_at "w"
      refine wpR_neC codes_pr (by decide) view_self view_self ?_
      walk_at "w"
      exact ⟨by simp, rfl⟩
  walk_at "w"
  walk_at "c0"
  walk_at "c0"
  walk_at "c0"
  refine ⟨gs, y, ⟨rfl, rfl⟩, by have := v.len; omega, rl_len v, ?_⟩
  walk_at "w"
  refine ⟨_, z, ⟨rfl, rfl⟩, by have := vy.len; omega, rl_len vy, ?_⟩
  walk_at "w"
  refine ⟨_, _, _, [], ⟨rfl, rfl⟩, seq_l, wout_v3 vy.v3, by omega, pp1, ?_⟩
  walk_at "w"
  refine ⟨fun h => (by cases h), fun _ => ?_⟩
  walk_at "wr"
  walk_at "c0"
  walk_at "c0"
  refine ⟨_, y, ⟨rfl, rfl⟩, by have := ve.len; omega, rl_len ve, ?_⟩
  walk_at "w"
  refine ⟨_, z, ⟨rfl, rfl⟩, by have := vye.len; omega, rl_len vye, ?_⟩
  rw [pp2, py2]
  refine wpR_eqC codes_L (by decide) view_self view_self ?_
  simpa using hk
end
section
variable {K : PySem.W.Frag} {W : WX} {ds : List D} {O : Ow} {k : Kk} {x : Xk} {P : D → Ow → Prop}
theorem shal_told (s : Str) (n : Int) (b : Bool) (h : PySem.PyData.strOk s = true) : shalB (.tup [.str s, .int n, .bl b]) := ⟨by simp [plainB, plainBs, h], by simp [toPd, toPds, PyData.depth, PyData.depthAll]⟩
theorem strOk_aud (aud : Bool) : PySem.PyData.strOk (if aud then ("audible" : Str) else "invalid") = true := by
  cases aud
  · show PySem.PyData.strOk ("invalid" : Str) = true
    decide +kernel
  · show PySem.PyData.strOk ("audible" : Str) = true
    decide +kernel
theorem w__law_refused (h : sp__law_refused K ds O k x) (lo : ∀ p ∈ O, p.loc = false) : wpS K W (fun e _ O' => x e O') (t__law_refused K W) (startD N__law_refused.length ds) O { nx := fun _ O' => k .non O', rt := k } := by
  obtain ⟨b, d, gs, sw, ks, ⟨rfl, rfl⟩, hB, v, hl, ho, hp, hk⟩ := h
  have hkb : ∀ z ∈ ks, 0 ≤ z ∧ z ≤ 9999 := fun z hz => wrong_rng (v.row (h := 0) (by omega)).1 z (hp.mem_iff.mpr hz)
  have hkl : ks.length ≤ 12 := by rw [← hp.length_eq]; exact v.l12 (by omega)
  have hkn : ks.Nodup := hp.nodup_iff.mp (v.nd (h := 0) (by omega))
  have h100 : 10000 ≤ sizeLine := by decide
  unfold t__law_refused
  walk_at "start"
  walk_at "w"
  refine wpE_take (j := 0) rfl ?_
  walk_at "w"
  refine ⟨_, _, _, rfl, ⟨by simp; omega, by simp; omega⟩, rfl, hB, fun u d u0 u1 hB => ?_⟩
  rw [List.length_map] at u1
  obtain ⟨n, rfl⟩ : ∃ n : Nat, u = (n : Int) := ⟨u.toNat, by omega⟩
  have hn : n ≤ sw.length := by omega
  have hsp : sw = sw.take n ++ sw.drop n := (List.take_append_drop n sw).symm
  have ho2 := ho
  rw [hsp] at ho2
  obtain ⟨o1, o2⟩ := okR_append.mp ho2
  have tl : (sw.take n).length = n := by rw [List.length_take]; omega
  have dl : (sw.drop n).length ≤ 100 := by rw [List.length_drop]; omega
  obtain ⟨v1, q1⟩ := v.fin o1
  walk_at "w"
  walk_at "c1"
  walk_at "c0"
  refine wpE_slL true ?_
  walk_at "w"
  refine ⟨_, seq_l, ?_⟩
  rw [cutC1 hn]
  walk_at "w"
  refine ⟨gs, _, ⟨rfl, rfl⟩, v.v3, o1, ?_⟩
  walk_at "w"
  refine ⟨0, _, _, _, rfl, b, d, _, ⟨rfl, rfl⟩, hB, v1.v3, fun s aud d hB h1 h2 => ⟨[], _, rfl, ?_⟩⟩
  unfold badD
  walk_at "w"
  refine wpE_make (fun _ => .nil) ?_
  walk_at "w"
  refine wpE_slL true ?_
  walk_at "w"
  refine ⟨_, seq_l, ?_⟩
  rw [cutC1 hn]
  walk_at "w"
  refine wpC_list true seq_l ?_
  walk_at "w"
  refine wpE_lst true ?_
  walk_at "w"
  refine ⟨by show 1 ≤ sizeLine; decide, ?_⟩
  refine wpR_addL true lst_l lst_l (by simp; omega) ?_
  walk_at "w"
  refine wpE_slL true ?_
  walk_at "w"
  refine ⟨_, seq_l, ?_⟩
  rw [cutC2 hn]
  walk_at "w"
  refine wpC_list true seq_l ?_
  walk_at "w"
  refine wpR_addL true lst_l lst_l (by simp; omega) ?_
  walk_at "w"
  have es : (sw.take n).map PyD.prD ++ [PyD.prD s] ++ (sw.drop n).map PyD.prD = (sw.take n ++ s :: sw.drop n).map PyD.prD := by
    rw [List.map_append, List.map_cons, List.append_assoc] <;> rfl
  rw [es]
  refine ⟨[], lent_nil, fun s' _ => ⟨s', _, _, [], ⟨rfl, rfl⟩, seq_l, rfl, [], _, rfl, ?_⟩⟩
  have eb : playR gs (sw.take n ++ s :: sw.drop n) 0 = .error (aud, n) := by
    rw [playR_append o1, tl, Nat.zero_add]
    exact playR_bad h1 h2
  have ebl : (sw.take n ++ s :: sw.drop n).length ≤ 1000 := by simp; omega
  walk_at "w"
  walk_at "c1"
  refine ⟨0, _, _, _, rfl, b, d, ks, ⟨rfl, rfl⟩, hB, hkn, hkl, fun t d hB ht htb => ⟨[], _, rfl, ?_⟩⟩
  have ht0 : t ∉ row gs 0 := fun q => ht (hp.mem_iff.mp q)
  walk_at "w"
  refine wpS_seq ?_
  refine wpS_for1 10 (fun i q O' => O' = [⟨b, false, d⟩]) (as := ks) (enc := D.int) ?_
  walk_at "w"
  refine ⟨_, seq_l, rfl, rfl, fun _ _ _ _ _ => seq_l, ?_, ?_⟩
  · intro i z q O' hz hJ
    subst hJ
    have hm := List.mem_of_getElem? hz
    have hzb := hkb z hm
    have hz0 : z ∈ row gs 0 := hp.mem_iff.mpr hm
    walk_at "w"
    walk_at "c0"
    refine ⟨gs, _, z, ⟨rfl, rfl⟩, v, ebl, by omega, fun q => absurd hz0 q, fun _ e he => ?_, .inr ⟨_, eb⟩⟩
    rw [eb] at he
    cases he
    walk_at "w"
    refine ⟨by show 3 ≤ sizeLine; decide, ?_⟩
    refine wpR_neSame view_self view_self (shal_told _ _ _ (strOk_aud aud)) ?_
    walk_at "w"
    refine ⟨fun h => (by cases h), fun _ => ?_⟩
    walk_at "w"
  · intro q O' hJ
    subst hJ
    walk_at "w"
    walk_at "c0"
    refine ⟨gs, _, t, ⟨rfl, rfl⟩, v, ebl, by omega, fun _ => ?_, fun q => absurd q ht0, .inl ht0⟩
    walk_at "w"
    refine ⟨by show 3 ≤ sizeLine; decide, ?_⟩
    refine wpR_neSame view_self view_self (shal_told _ _ _ (by decide +kernel)) ?_
    walk_at "w"
    refine ⟨fun h => (by cases h), fun _ => ?_⟩
    walk_at "wr"
    walk_at "c0"
    refine ⟨gs, _, t, ⟨rfl, rfl⟩, v, by omega, by omega, fun _ => ?_, fun q => absurd q ht0, .inl ht0⟩
    walk_at "w"
    refine ⟨by show 3 ≤ sizeLine; decide, ?_⟩
    refine wpR_eqSame view_self view_self (shal_told _ _ _ (by decide +kernel)) ?_
    exact hk d hB
end
section
variable {K : PySem.W.Frag} {W : WX} {ds : List D} {O : Ow} {k : Kk} {x : Xk} {P : D → Ow → Prop}
theorem w_law_v2 (h : sp_law_v2 K ds O k x) (lo : ∀ p ∈ O, p.loc = false) : wpS K W (fun e _ O' => x e O') (t_law_v2 K W) (startD N_law_v2.length ds) O { nx := fun _ O' => k .non O', rt := k } := by
  obtain ⟨ns, ⟨rfl, rfl⟩, hl, hk⟩ := h
  unfold t_law_v2
  walk_at "start"
  walk_at "w"
  walk_at "c0"
  refine ⟨ns, ⟨rfl, rfl⟩, hl, fun c d hB => ?_⟩
  walk_at "w"
  refine wpE_take (j := 0) rfl ?_
  walk_at "w"
  refine ⟨_, _, _, rfl, ⟨by omega, by omega⟩, rfl, hB, fun u d u0 u1 hB => ?_⟩
  walk_at "w"
  refine wpS_mid (fun G O => ∃ (n : Int) (d : D), G = [some (.kl (ns.map D.int)), some (.mut c), some (.int n), none, none, none, none, none, none] ∧ O = [⟨c, true, d⟩] ∧ Bx d ∧ 1 ≤ n ∧ n ≤ 8) ?_ ?_
  · walk_at "w"
    refine wpE_take (j := 0) rfl ?_
    walk_at "w"
    refine ⟨_, _, _, rfl, ⟨by omega, by omega⟩, rfl, hB, fun u d u0 u1 hB => ?_⟩
    walk_at "w"
    refine ⟨fun h => ?_, fun h => ?_⟩
    · walk_at "w"
      refine wpE_take (j := 0) rfl ?_
      walk_at "w"
      refine ⟨_, _, _, rfl, ⟨by omega, by omega⟩, rfl, hB, fun u d u0 u1 hB => ?_⟩
      walk_at "w"
      exact ⟨_, _, rfl, rfl, hB, by omega, by omega⟩
    · walk_at "w"
      exact ⟨_, _, rfl, rfl, hB, by omega, by omega⟩
  rintro _ _ ⟨n, d, rfl, rfl, hB, n0, n1⟩
  walk_at "w"
  walk_at "c1"
  refine ⟨0, _, _, _, rfl, ⟨_, _, _, ⟨rfl, rfl⟩, hB, by omega, by omega, fun ks d hB hkl hkn hkb => ⟨[], _, rfl, ?_⟩⟩⟩
  walk_at "w"
  walk_at "c1"
  refine ⟨0, _, _, _, rfl, ⟨_, _, _, ⟨rfl, rfl⟩, hB, hkn, by omega, hkb, fun gs d hB v hp => ⟨[], _, rfl, ?_⟩⟩⟩
  have hkm : ∀ z, z ∈ ks ↔ z ∈ row gs 0 := fun z => hp.mem_iff.symm
  walk_at "w"
  walk_at "c1"
  refine wpE_take (j := 0) rfl ?_
  walk_at "w"
  refine ⟨_, _, _, rfl, ⟨by omega, by omega⟩, rfl, hB, fun m d m0 m1 hB => ?_⟩
  walk_at "w"
  refine ⟨by show 3 ≤ sizeLine; decide, ?_⟩
  walk_at "w"
  refine ⟨0, _, _, _, rfl, _, d, gs, m, ⟨rfl, rfl⟩, hB, v.v3, m0, by omega, fun sw d hB ho hsl => ⟨[], _, rfl, ?_⟩⟩
  have hl100 : sw.length ≤ 100 := by omega
  walk_at "w"
  walk_at "c0"
  refine ⟨gs, ⟨rfl, rfl⟩, v, ?_⟩
  walk_at "w"
  refine wpE_make (fun _ => .nil) ?_
  walk_at "w"
  refine wpC_list true seq_l ?_
  walk_at "w"
  refine ⟨[], lent_nil, fun s' _ => ⟨s', _, _, [], ⟨rfl, rfl⟩, seq_l, rfl, [], _, rfl, ?_⟩⟩
  walk_at "w"
  refine wpS_seq ?_
  refine wpS_for1 8 (fun i q O' => O' = [⟨c, true, d⟩]) (as := ks) (enc := D.int) ?_
  walk_at "w"
  refine ⟨_, seq_l, rfl, rfl, fun _ _ _ _ _ => seq_l, ?_, ?_⟩
  · intro i z q O' hz hJ
    subst hJ
    have hm := List.mem_of_getElem? hz
    walk_at "w"
    walk_at "c0"
    refine ⟨gs, sw, z, ⟨rfl, rfl⟩, v, hl100, ho, (hkm z).mp hm, ?_⟩
    walk_at "w"
    refine ⟨fun h => (by cases h), fun _ => ?_⟩
    walk_at "w"
  intro q O' hJ
  subst hJ
  have hkx : ∀ i : Int, 0 ≤ i → i < n → ks.getD i.toNat 0 ∈ row gs 0 := fun i h0 h1 => (hkm _).mp (mem_getD (by omega))
  walk_at "w"
  walk_at "c1"
  refine wpE_take (j := 0) rfl ?_
  walk_at "w"
  refine ⟨_, _, _, rfl, ⟨by omega, by omega⟩, rfl, hB, fun e d e0 e1 hB => ?_⟩
  refine wpR_ixI (ns := ks) seq_l e0 (by omega) ?_
  walk_at "w"
  refine ⟨0, _, _, _, rfl, _, d, gs, sw, _, ⟨rfl, rfl⟩, hB, v, hl100, ho, hkx e e0 e1, fun d hB => ⟨[], _, rfl, ?_⟩⟩
  walk_at "w"
  refine ⟨fun h => (by cases h), fun _ => ?_⟩
  walk_at "w"
  refine wpS_iteP (c := false) ?_ ⟨fun h => (by cases h), fun _ => ?_⟩
  · refine wpT_and ?_
    walk_at "w"
    refine ⟨fun h2 => ?_, fun h2 => ⟨rfl, rfl⟩⟩
    have h2 := of_decide_eq_true h2
    walk_at "w"
    walk_at "c0"
    refine ⟨gs, sw, _, _, ⟨rfl, rfl⟩, v, hl100, ho, hkx 0 (by omega) (by omega), hkx 1 (by omega) (by omega), ?_, ?_⟩
    · intro e
      have a0 : ks[0]? = some (ks.getD 0 0) := by rw [List.getD_eq_getElem?_getD, List.getElem?_eq_getElem (by omega)] <;> rfl
      have a1 : ks[1]? = some (ks.getD 1 0) := by rw [List.getD_eq_getElem?_getD, List.getElem?_eq_getElem (by omega)] <;> rfl
      have e : ks.getD 0 0 = ks.getD 1 0 := e
      have : (0 : Nat) = 1 := nd_ix hkn a0 (a1.trans (congrArg some e.symm))
      omega
    · walk_at "w"
      exact ⟨rfl, rfl⟩
  walk_at "w"
  walk_at "c1"
  refine ⟨0, _, _, _, rfl, _, d, gs, sw, ks, ⟨rfl, rfl⟩, hB, v, hl100, ho, hp, fun d hB => ⟨[], _, rfl, ?_⟩⟩
  walk_at "w"
  refine ⟨fun h => (by cases h), fun _ => ?_⟩
  refine wpS_subO (List.nil_sublist _) ?_
  walk_at "wr"
  refine wpE_fz ?_
  walk_at "m0"
  refine ⟨_, ⟨rfl, rfl⟩, by have := v.len; omega, fun c' => ⟨c', _, _, rfl, rfl, ?_⟩⟩
  walk_at "w"
  refine wpR_eqC codes_L (by decide) view_self view_self ?_
  walk_at "w"
  refine ⟨fun _ => ?_, fun h => (by simp at h)⟩
  walk_at "w"
  refine wpE_fz ?_
  walk_at "m0"
  refine ⟨_, ⟨rfl, rfl⟩, fun c' => ⟨c', _, _, rfl, rfl, ?_⟩⟩
  walk_at "w"
  refine wpR_eqC codes_pr (by decide) view_self view_self ?_
  simpa using hk
end
section
variable {K : PySem.W.Frag} {W : WX} {ds : List D} {O : Ow} {k : Kk} {x : Xk}
theorem w__law_take (h : sp__law_take K ds O k x) (lo : ∀ p ∈ O, p.loc = false) : wpS K W (fun e _ O' => x e O') (t__law_take K W) (startD N__law_take.length ds) O { nx := fun _ O' => k .non O', rt := k } := by
  obtain ⟨a, d, n, ⟨rfl, rfl⟩, ⟨cs, r, t, rfl, hr, ht, hl⟩, h1, h2, hk⟩ := h
  unfold t__law_take boxD
  walk_at "start"
  walk_at "w"
  refine ⟨fun h => ?_, fun h => ?_⟩
  · have hr' := of_decide_eq_true h
    walk_at "wr"
    exact hk _ _ (Int.emod_nonneg _ (by omega)) (Int.emod_lt_of_pos _ (by omega)) ⟨cs, r / n, t, rfl, Int.ediv_nonneg hr (by omega), ht, hl⟩
  · walk_at "w"
    -- the cell
    refine wpS_mid (fun G O' => ∃ c : Int, 0 ≤ c ∧ G = [some (.mut a), some (.int n), some (.int r), some (.int (t + 1)), some (L cs), some (.int c), none] ∧ O' = [⟨a, false, boxD cs r (t + 1)⟩]) ?_ ?_
    · walk_at "w"
      refine ⟨fun h1' => ?_, fun h1' => ?_⟩
      · have h1' := of_decide_eq_true h1'
        walk_at "w"
        have hc : ∀ z : Int, 0 ≤ if z < 0 then -z else z := fun z => by split <;> omega
        generalize e : (if cs.getD (t + 1 - 1).toNat 0 < 0 then -cs.getD (t + 1 - 1).toNat 0 else cs.getD (t + 1 - 1).toNat 0) = c
        have c0 : 0 ≤ c := by rw [← e]; exact hc _
        refine ⟨fun h2' => ?_, fun h2' => ?_⟩
        · walk_at "wr"
          exact hk _ _ (Int.emod_nonneg _ (by omega)) (Int.emod_lt_of_pos _ (by omega)) ⟨cs, c / n, t + 1, rfl, Int.ediv_nonneg c0 (by omega), by omega, hl⟩
        · walk_at "w"
          exact ⟨c, c0, rfl, rfl⟩
      · walk_at "w"
        refine ⟨fun h2' => ?_, fun h2' => ?_⟩
        · have hp : 0 < cs.length := by
            cases cs with
            | nil => simp at h2'
            | cons a b => simp
          walk_at "w"
          refine wpR_ixI seq_l (Int.emod_nonneg _ (by omega)) (Int.emod_lt_of_pos _ (by omega)) ?_
          walk_at "w"
          exact ⟨_, by split <;> omega, rfl, rfl⟩
        · walk_at "w"
          exact ⟨0, by omega, rfl, rfl⟩
    · intro G O' h
      obtain ⟨c, c0, rfl, rfl⟩ := h
      walk_at "wr"
      exact hk _ _ (Int.emod_nonneg _ (by omega)) (Int.emod_lt_of_pos _ (by omega)) ⟨cs, r, t + 1, rfl, hr, by omega, hl⟩
end
section
variable {K : PySem.W.Frag} {W : WX} {ds : List D} {O : Ow} {k : Kk} {x : Xk}
theorem w__law_box (h : sp__law_box K ds O k x) (lo : ∀ p ∈ O, p.loc = false) : wpS K W (fun e _ O' => x e O') (t__law_box K W) (startD N__law_box.length ds) O { nx := fun _ O' => k .non O', rt := k } := by
  obtain ⟨ns, ⟨rfl, rfl⟩, hl, hk⟩ := h
  unfold t__law_box
  walk_at "start"
  walk_at "wr"
  refine wpE_lst false ?_
  walk_at "w"
  refine wpE_slL true ?_
  walk_at "w"
  refine ⟨ns.map D.int, seq_k, ?_⟩
  walk_at "w"
  rw [show (some (63 : Int)) = some ((63 : Nat) : Int) from rfl, cut_take hl]
  refine wpC_list true seq_l ?_
  walk_at "w"
  refine ⟨by show 3 ≤ sizeLine; decide, ?_⟩
  intro c hc
  exact hk c _ ⟨ns, 0, 0, rfl, by omega, by omega, hl⟩
theorem perm_erase : ∀ (l : List Int) (i : Nat) (h : i < l.length), (l[i] :: l.eraseIdx i).Perm l
  | [], _, h => by simp at h
  | a :: l, 0, _ => List.Perm.refl _
  | a :: l, i + 1, h => by
    have h2 : i < l.length := by simpa using h
    refine List.Perm.trans (List.Perm.swap a (l[i]'h2) _) ?_
    exact List.Perm.cons a (perm_erase l i h2)
theorem perm_pop {o l ns : List Int} {i : Nat} (h : (o ++ l).Perm ns) (hi : i < l.length) : (o ++ [l.getD i 0] ++ l.eraseIdx i).Perm ns := by
  refine List.Perm.trans ?_ h
  rw [List.append_assoc]
  refine List.Perm.append_left o ?_
  have e : l.getD i 0 = l[i] := by rw [List.getD_eq_getElem?_getD, List.getElem?_eq_getElem hi] <;> rfl
  rw [e]
  exact perm_erase l i hi
theorem w__law_order (h : sp__law_order K ds O k x) (lo : ∀ p ∈ O, p.loc = false) : wpS K W (fun e _ O' => x e O') (t__law_order K W) (startD N__law_order.length ds) O { nx := fun _ O' => k .non O', rt := k } := by
  obtain ⟨a, d, ns, ⟨rfl, rfl⟩, hB, hl, hk⟩ := h
  unfold t__law_order
  walk_at "start"
  walk_at "w"
  refine wpC_list false seq_l ?_
  intro lf hlf
  walk_at "w"
  refine wpE_lst false ?_
  walk_at "w"
  refine ⟨by simp, ?_⟩
  intro od hod
  refine wpS_seq ?_
  refine wpS_forA (List.range ns.length) (fun i => .int (0 + (i : Int))) (fun i G O => ∃ v o l d', G = [some (.mut a), some (L ns), some (.mut lf), some (.mut od), v] ∧ O = [⟨od, true, L o⟩, ⟨lf, true, L l⟩, ⟨a, false, d'⟩] ∧ Bx d' ∧ (o ++ l).Perm ns ∧ o.length = i ∧ o.length + l.length = ns.length) ?_
  walk_at "w"
  refine ⟨⟨by omega, by omega⟩, by rw [Int.toNat_natCast]; rfl, ⟨none, [], ns, d, rfl, rfl, hB, List.Perm.refl _, rfl, by simp⟩, fun _ _ _ _ _ => trivial, ?_, ?_⟩
  · intro i j G' O' hij hI
    obtain ⟨rfl, hi⟩ := range_get hij
    obtain ⟨v, o, l, d', rfl, rfl, hB, hp, h1, h2⟩ := hI
    walk_at "w"
    walk_at "w"
    walk_at "w"
    walk_at "c1"
    refine ⟨2, _, _, _, rfl, ⟨_, _, _, ⟨rfl, rfl⟩, hB, by omega, by omega, fun v d' v0 v1 hB' => ⟨[], _, rfl, ?_⟩⟩⟩
    walk_at "w"
    refine wpM_popAtI (j := 1) rfl v0 v1 (by omega) ?_
    walk_at "w"
    refine wpM_appendI (j := 0) rfl (by omega) ?_
    walk_at "w"
    exact ⟨_, _, _, _, rfl, rfl, hB', perm_pop hp (by omega), by simp; omega, by simp [List.length_eraseIdx]; split <;> omega⟩
  · intro G' O' hI
    obtain ⟨v, o, l, d', rfl, rfl, hB, hp, h1, h2⟩ := hI
    rw [List.length_range] at h1
    have hl0 : l = [] := List.length_eq_zero_iff.mp (by omega)
    subst hl0
    rw [List.append_nil] at hp
    refine wpS_frz (i := 3) (j := 0) rfl rfl ?_
    refine wpS_subO (O' := [⟨a, false, d'⟩]) (by simp) ?_
    walk_at "wr"
    exact hk o d' hB hp
theorem w__law_keys (h : sp__law_keys K ds O k x) (lo : ∀ p ∈ O, p.loc = false) : wpS K W (fun e _ O' => x e O') (t__law_keys K W) (startD N__law_keys.length ds) O { nx := fun _ O' => k .non O', rt := k } := by
  obtain ⟨a, d, n, ⟨rfl, rfl⟩, hB, h0, h1, hk⟩ := h
  unfold t__law_keys
  walk_at "start"
  walk_at "w"
  refine wpE_lst false ?_
  walk_at "w"
  refine ⟨by simp, ?_⟩
  intro ks hks
  walk_at "w"
  walk_at "c1"
  refine ⟨1, _, _, _, rfl, ⟨_, _, _, ⟨rfl, rfl⟩, hB, by omega, by omega, fun v d' v0 v1 hB' => ⟨[], _, rfl, ?_⟩⟩⟩
  walk_at "w"
  refine wpS_seq ?_
  refine wpS_forA (List.range n.toNat) (fun i => .int (0 + (i : Int))) (fun i G O => ∃ w l q d', G = [some (.mut a), some (.int n), some (.mut ks), some (.int w), q] ∧ O = [⟨ks, true, L l⟩, ⟨a, false, d'⟩] ∧ Bx d' ∧ l.length = i ∧ l.Nodup ∧ (∀ z ∈ l, 0 ≤ z ∧ z < w) ∧ 0 ≤ w ∧ w < 600 + 500 * (i : Int)) ?_
  walk_at "w"
  refine ⟨⟨by omega, by omega⟩, rfl, ⟨v, [], none, d', rfl, rfl, hB', rfl, List.nodup_nil, by simp, v0, by omega⟩, fun _ _ _ _ _ => trivial, ?_, ?_⟩
  · intro i j G' O' hij hI
    obtain ⟨rfl, hi⟩ := range_get hij
    obtain ⟨w, l, q, d', rfl, rfl, hB, h3, h4, h5, h6, h7⟩ := hI
    walk_at "w"
    walk_at "w"
    refine wpM_appendI (j := 0) rfl (by omega) ?_
    walk_at "w"
    walk_at "c1"
    refine ⟨1, _, _, _, rfl, ⟨_, _, _, ⟨rfl, rfl⟩, hB, by omega, by omega, fun v d' v0 v1 hB' => ⟨[], _, rfl, ?_⟩⟩⟩
    walk_at "w"
    walk_at "c1"
    refine ⟨1, _, _, _, rfl, ⟨_, _, _, ⟨rfl, rfl⟩, hB', by omega, by omega, fun u d'' u0 u1 hB'' => ⟨[], _, rfl, ?_⟩⟩⟩
    walk_at "w"
    have m0 : 0 ≤ v * u := Int.mul_nonneg v0 u0
    have m1 : v * u ≤ 2 * 239 := Int.mul_le_mul (by omega) (by omega) u0 (by omega)
    refine ⟨_, _, _, _, rfl, rfl, hB'', by simp; omega, ?_, ?_, by omega, by omega⟩
    · rw [List.nodup_append]
      refine ⟨h4, by simp, fun x hx y hy => ?_⟩
      rw [List.mem_singleton.mp hy]
      have := (h5 x hx).2
      omega
    · intro z hz
      rcases List.mem_append.mp hz with hz | hz
      · have := h5 z hz
        omega
      · rw [List.mem_singleton.mp hz]
        omega
  · intro G' O' hI
    obtain ⟨w, l, q, d', rfl, rfl, hB, h3, h4, h5, h6, h7⟩ := hI
    rw [List.length_range] at h3 h7
    refine wpS_frz (i := 2) (j := 0) rfl rfl ?_
    walk_at "wr"
    walk_at "c1"
    refine ⟨0, _, _, _, rfl, ⟨_, _, _, ⟨rfl, rfl⟩, hB, by omega, fun ms d'' hB'' hp => ⟨[], _, rfl, ?_⟩⟩⟩
    walk_at "w"
    exact hk ms d'' hB'' (by rw [hp.length_eq]; omega) (hp.nodup_iff.mpr h4) fun z hz => by have := h5 z (hp.mem_iff.mp hz); omega
end
theorem law_ok_K53 {K : PySem.W.Frag} {ns : List Int} (hn : ns.length ≤ 63) (hb : ∀ z ∈ ns, Builtin.Int.intBits z ≤ 1048576) : sp_law_v2 K [.kl (ns.map D.int)] [] (fun d _ => d = .bl true) (fun _ _ => False) := ⟨ns, ⟨rfl, rfl⟩, hn, rfl⟩
end Q
namespace K53
open PySem PySem.Spec L2 PyD PyT PyE PyH PyI PyC PyProof.Rows Q
section
variable {P : Program} {w : World} {K : PySem.W.Frag} {mg : Str → Option Value} {base : Heap}
theorem ok_Run___init__ (T : TX P K mg)
    (len : ∀ ds O k x, sp_Run___init__ K ds O k x → ds.length = 2)
    (walk : ∀ W ds O k x, sp_Run___init__ K ds O k x → (∀ p ∈ O, p.loc = false) → wpS K W (fun e _ O' => x e O') (t_Run___init__ K W) (startD N_Run___init__.length ds) O { nx := fun _ O' => k .non O', rt := k }) : FM P w K mg base 1 (He.ga K "Run") "__init__" ["self", "swaps"] [] (toSp K (sp_Run___init__ K)) := by
  refine fm_of (ts := t_Run___init__ K) T.F_Run___init__ T.M_Run___init__ sc_Run___init__ len (fun fd F => bindsM F fun _ _ _ _ _ _ us hl => match us, hl with | [_, _], _ => rfl) (fun cdv A outer s H E hr => ?_) walk
  have hu := hu_of hr
  have hu64 : (A.deeper (envOfC "Run.__init__" (defScope s_Run___init__) s.heap.objs.size (He.ma K (He.ga K "Run") "__init__") cdv)).units + 64 < cLine := by have := hr.un; omega
  have hu1 : (A.deeper (envOfC "Run.__init__" (defScope s_Run___init__) s.heap.objs.size (He.ma K (He.ga K "Run") "__init__") cdv)).units < cLine := by have := hr.un; omega
  unfold t_Run___init__
  exact pss_one (ps_fld (pv 0) (pe_callTy callA_list (by rfl) T.n_list (by decide +kernel) (pa_cons (pv 1) (pa_nil))) rfl)
theorem ok_Run_steps (T : TX P K mg)
    (len : ∀ ds O k x, sp_Run_steps K ds O k x → ds.length = 1)
    (walk : ∀ W ds O k x, sp_Run_steps K ds O k x → (∀ p ∈ O, p.loc = false) → wpS K W (fun e _ O' => x e O') (t_Run_steps K W) (startD N_Run_steps.length ds) O { nx := fun _ O' => k .non O', rt := k }) : FM P w K mg base 1 (He.ga K "Run") "steps" ["self"] [] (toSp K (sp_Run_steps K)) := by
  refine fm_of (ts := t_Run_steps K) T.F_Run_steps T.M_Run_steps sc_Run_steps len (fun fd F => bindsM F fun _ _ _ _ _ _ us hl => match us, hl with | [_], _ => rfl) (fun cdv A outer s H E hr => ?_) walk
  have hu := hu_of hr
  have hu64 : (A.deeper (envOfC "Run.steps" (defScope s_Run_steps) s.heap.objs.size (He.ma K (He.ga K "Run") "steps") cdv)).units + 64 < cLine := by have := hr.un; omega
  have hu1 : (A.deeper (envOfC "Run.steps" (defScope s_Run_steps) s.heap.objs.size (He.ma K (He.ga K "Run") "steps") cdv)).units < cLine := by have := hr.un; omega
  unfold t_Run_steps
  exact pss_one (ps_ret (pe_callTy callA_list (by rfl) T.n_list (by decide +kernel) (pa_cons (pe_fld (pv 0) rfl) (pa_nil))))
theorem ok_State_lists (T : TX P K mg)
    (len : ∀ ds O k x, sp_State_lists K ds O k x → ds.length = 1)
    (walk : ∀ W ds O k x, sp_State_lists K ds O k x → (∀ p ∈ O, p.loc = false) → wpS K W (fun e _ O' => x e O') (t_State_lists K W) (startD N_State_lists.length ds) O { nx := fun _ O' => k .non O', rt := k }) : FM P w K mg base 1 (He.ga K "State") "lists" ["self"] [] (toSp K (sp_State_lists K)) := by
  refine fm_of (ts := t_State_lists K) T.F_State_lists T.M_State_lists sc_State_lists len (fun fd F => bindsM F fun _ _ _ _ _ _ us hl => match us, hl with | [_], _ => rfl) (fun cdv A outer s H E hr => ?_) walk
  have hu := hu_of hr
  have hu64 : (A.deeper (envOfC "State.lists" (defScope s_State_lists) s.heap.objs.size (He.ma K (He.ga K "State") "lists") cdv)).units + 64 < cLine := by have := hr.un; omega
  have hu1 : (A.deeper (envOfC "State.lists" (defScope s_State_lists) s.heap.objs.size (He.ma K (He.ga K "State") "lists") cdv)).units < cLine := by have := hr.un; omega
  unfold t_State_lists
  exact pss_one (ps_ret (pe_lc (own := [("order", 1)]) (g := gName 1) (tt := tYes) rfl sc_State_lists.nd (pi_list (pe_fld (pv 0) rfl)) (blkOk_by (N := N_State_lists) (sc := defScope s_State_lists) (by decide +kernel)) (fun _ _ _ _ _ => pg_name (i := 1) sc_State_lists.nd rfl (by first | exact Or.inl rfl | exact Or.inr rfl)) (fun _ _ _ _ _ => pts_nil) (fun _ _ _ _ _ => pe_callTy callA_list (by rfl) T.n_list (by decide +kernel) (pa_cons (pv 1) (pa_nil)))))
theorem ok__law_box (T : TX P K mg)
    (len : ∀ ds O k x, sp__law_box K ds O k x → ds.length = 1)
    (walk : ∀ W ds O k x, sp__law_box K ds O k x → (∀ p ∈ O, p.loc = false) → wpS K W (fun e _ O' => x e O') (t__law_box K W) (startD N__law_box.length ds) O { nx := fun _ O' => k .non O', rt := k }) : FE P w K mg base 1 "_law_box" ["_law_script"] [] (toSp K (sp__law_box K)) := by
  refine fe_of (ts := t__law_box K) T.F__law_box T.g__law_box sc__law_box len (fun fd F => binds0 F fun _ _ _ _ _ _ us hl => match us, hl with | [_], _ => rfl) (fun cdv A outer s H E hr => ?_) walk
  have hu := hu_of hr
  have hu64 : (A.deeper (envOfC "_law_box" (defScope s__law_box) s.heap.objs.size (He.ga K "_law_box") cdv)).units + 64 < cLine := by have := hr.un; omega
  have hu1 : (A.deeper (envOfC "_law_box" (defScope s__law_box) s.heap.objs.size (He.ga K "_law_box") cdv)).units < cLine := by have := hr.un; omega
  unfold t__law_box
  exact pss_one (ps_ret (pe_lst (pa_cons (pe_callTy callA_list (by rfl) T.n_list (by decide +kernel) (pa_cons (pe_slice sl_list (pv 0) (po_none) (po_some (pe_int))) (pa_nil))) (pa_cons (pe_int) (pa_cons (pe_int) (pa_nil))))))
theorem ok_Run___add__ (T : TX P K mg) (F_Run___init__ : FM P w K mg base 1 (He.ga K "Run") "__init__" ["self", "swaps"] [] (toSp K (sp_Run___init__ K)))
    (len : ∀ ds O k x, sp_Run___add__ K ds O k x → ds.length = 2)
    (walk : ∀ W ds O k x, sp_Run___add__ K ds O k x → (∀ p ∈ O, p.loc = false) → wpS K W (fun e _ O' => x e O') (t_Run___add__ K W) (startD N_Run___add__.length ds) O { nx := fun _ O' => k .non O', rt := k }) : FM P w K mg base 3 (He.ga K "Run") "__add__" ["self", "other"] [] (toSp K (sp_Run___add__ K)) := by
  refine fm_of (ts := t_Run___add__ K) T.F_Run___add__ T.M_Run___add__ sc_Run___add__ len (fun fd F => bindsM F fun _ _ _ _ _ _ us hl => match us, hl with | [_, _], _ => rfl) (fun cdv A outer s H E hr => ?_) walk
  have hu := hu_of hr
  have hu64 : (A.deeper (envOfC "Run.__add__" (defScope s_Run___add__) s.heap.objs.size (He.ma K (He.ga K "Run") "__add__") cdv)).units + 64 < cLine := by have := hr.un; omega
  have hu1 : (A.deeper (envOfC "Run.__add__" (defScope s_Run___add__) s.heap.objs.size (He.ma K (He.ga K "Run") "__add__") cdv)).units < cLine := by have := hr.un; omega
  unfold t_Run___add__
  exact pss_one (ps_ret (pe_makeA (E := (WE fun cls d _ H => E cls d H)) T.mk_Run F_Run___init__ (hr.mono (by decide)) (by rfl) T.g_Run (fun σ => passAt (takes_of rfl rfl rfl rfl) σ) (pa_cons (pe_op opA_add (pe_fld (pv 0) rfl) (pe_fld (pv 1) rfl)) (pa_nil))))
theorem ok_Run___neg__ (T : TX P K mg) (F_Run___init__ : FM P w K mg base 1 (He.ga K "Run") "__init__" ["self", "swaps"] [] (toSp K (sp_Run___init__ K)))
    (len : ∀ ds O k x, sp_Run___neg__ K ds O k x → ds.length = 1)
    (walk : ∀ W ds O k x, sp_Run___neg__ K ds O k x → (∀ p ∈ O, p.loc = false) → wpS K W (fun e _ O' => x e O') (t_Run___neg__ K W) (startD N_Run___neg__.length ds) O { nx := fun _ O' => k .non O', rt := k }) : FM P w K mg base 3 (He.ga K "Run") "__neg__" ["self"] [] (toSp K (sp_Run___neg__ K)) := by
  refine fm_of (ts := t_Run___neg__ K) T.F_Run___neg__ T.M_Run___neg__ sc_Run___neg__ len (fun fd F => bindsM F fun _ _ _ _ _ _ us hl => match us, hl with | [_], _ => rfl) (fun cdv A outer s H E hr => ?_) walk
  have hu := hu_of hr
  have hu64 : (A.deeper (envOfC "Run.__neg__" (defScope s_Run___neg__) s.heap.objs.size (He.ma K (He.ga K "Run") "__neg__") cdv)).units + 64 < cLine := by have := hr.un; omega
  have hu1 : (A.deeper (envOfC "Run.__neg__" (defScope s_Run___neg__) s.heap.objs.size (He.ma K (He.ga K "Run") "__neg__") cdv)).units < cLine := by have := hr.un; omega
  unfold t_Run___neg__
  exact pss_one (ps_ret (pe_makeA (E := (WE fun cls d _ H => E cls d H)) T.mk_Run F_Run___init__ (hr.mono (by decide)) (by rfl) T.g_Run (fun σ => passAt (takes_of rfl rfl rfl rfl) σ) (pa_cons (pe_revL (pe_fld (pv 0) rfl)) (pa_nil))))
theorem ok__law_take (T : TX P K mg)
    (len : ∀ ds O k x, sp__law_take K ds O k x → ds.length = 2)
    (walk : ∀ W ds O k x, sp__law_take K ds O k x → (∀ p ∈ O, p.loc = false) → wpS K W (fun e _ O' => x e O') (t__law_take K W) (startD N__law_take.length ds) O { nx := fun _ O' => k .non O', rt := k }) : FE P w K mg base 1 "_law_take" ["_law_box_here", "_law_size"] [] (toSp K (sp__law_take K)) := by
  refine fe_of (ts := t__law_take K) T.F__law_take T.g__law_take sc__law_take len (fun fd F => binds0 F fun _ _ _ _ _ _ us hl => match us, hl with | [_, _], _ => rfl) (fun cdv A outer s H E hr => ?_) walk
  have hu := hu_of hr
  have hu64 : (A.deeper (envOfC "_law_take" (defScope s__law_take) s.heap.objs.size (He.ga K "_law_take") cdv)).units + 64 < cLine := by have := hr.un; omega
  have hu1 : (A.deeper (envOfC "_law_take" (defScope s__law_take) s.heap.objs.size (He.ga K "_law_take") cdv)).units < cLine := by have := hr.un; omega
  unfold t__law_take
  exact pss_cons (ps_set (i := 2) sc__law_take.nd rfl (by first | exact Or.inl rfl | exact Or.inr rfl) (pe_ix ix_lt (pv 0) (pe_int) (fun _ _ => rfl)))
      (pss_cons (ps_if (pt_cmpR opA_gt (pv 2) (pe_int) (nomark _)) (pss_cons (ps_asg (pe_op opA_div (pv 2) (pv 1)) (pg_sub (pv 0) (pe_int) set_list))
      (pss_one (ps_ret (pe_op opA_mod (pe_callTy callA_int (by rfl) T.n_int (by decide +kernel) (pa_cons (pv 2) (pa_nil))) (pv 1))))) (pss_nil))
      (pss_cons (ps_asg (pe_op opA_add (pe_ix ix_lt (pv 0) (pe_int) (fun _ _ => rfl)) (pe_int)) (pg_sub (pv 0) (pe_int) set_list))
      (pss_cons (ps_set (i := 3) sc__law_take.nd rfl (by first | exact Or.inl rfl | exact Or.inr rfl) (pe_ix ix_lt (pv 0) (pe_int) (fun _ _ => rfl)))
      (pss_cons (ps_set (i := 4) sc__law_take.nd rfl (by first | exact Or.inl rfl | exact Or.inr rfl) (pe_ix ix_lt (pv 0) (pe_int) (fun _ _ => rfl)))
      (pss_cons (ps_set (i := 5) sc__law_take.nd rfl (by first | exact Or.inl rfl | exact Or.inr rfl) (pe_int))
      (pss_cons (ps_if (pt_cmpR opA_le (pv 3) (pe_callB callA_len (by rfl) T.n_len (by decide +kernel) (pa_cons (pv 4) (pa_nil))) (nomark _)) (pss_cons (ps_set (i := 5) sc__law_take.nd rfl (by first | exact Or.inl rfl | exact Or.inr rfl) (pe_callB callA_abs (by rfl) T.n_abs (by decide +kernel) (pa_cons (pe_ix ix_lt (pv 4) (pe_op opA_sub (pv 3) (pe_int)) (fun _ _ => rfl)) (pa_nil))))
      (pss_one (ps_if (pt_cmpR opA_ge (pv 5) (pe_op opA_pow (pe_int) (pe_int)) (nomark _)) (pss_cons (ps_asg (pe_op opA_div (pv 5) (pv 1)) (pg_sub (pv 0) (pe_int) set_list))
      (pss_one (ps_ret (pe_op opA_mod (pe_callTy callA_int (by rfl) T.n_int (by decide +kernel) (pa_cons (pv 5) (pa_nil))) (pv 1))))) (pss_nil)))) (pss_one (ps_if (pt_truth (pv 4) (by intro _; rfl)) (pss_one (ps_set (i := 5) sc__law_take.nd rfl (by first | exact Or.inl rfl | exact Or.inr rfl) (pe_callB callA_abs (by rfl) T.n_abs (by decide +kernel) (pa_cons (pe_ix ix_lt (pv 4) (pe_op opA_mod (pv 3) (pe_callB callA_len (by rfl) T.n_len (by decide +kernel) (pa_cons (pv 4) (pa_nil)))) (fun _ _ => rfl)) (pa_nil))))) (pss_nil))))
      (pss_cons (ps_set (i := 6) sc__law_take.nd rfl (by first | exact Or.inl rfl | exact Or.inr rfl) (pe_op opA_mod (pe_callTy callA_int (by rfl) T.n_int (by decide +kernel) (pa_cons (pe_op opA_add (pe_op opA_mul (pe_op opA_add (pv 5) (pe_op opA_mul (pv 3) (pe_int))) (pe_int)) (pe_int)) (pa_nil))) (pe_int)))
      (pss_cons (ps_set (i := 6) sc__law_take.nd rfl (by first | exact Or.inl rfl | exact Or.inr rfl) (pe_op opA_mod (pe_callTy callA_int (by rfl) T.n_int (by decide +kernel) (pa_cons (pe_op opA_add (pe_op opA_mul (pv 6) (pe_op opA_add (pe_op opA_div (pv 6) (pe_int)) (pe_int))) (pv 3)) (pa_nil))) (pe_int)))
      (pss_one (ps_ret (pe_op opA_mod (pe_callTy callA_int (by rfl) T.n_int (by decide +kernel) (pa_cons (pe_op opA_div (pv 6) (pe_int)) (pa_nil))) (pv 1))))))))))))
theorem ok_check_replica (T : TX P K mg)
    (len : ∀ ds O k x, sp_check_replica K ds O k x → ds.length = 1)
    (walk : ∀ W ds O k x, sp_check_replica K ds O k x → (∀ p ∈ O, p.loc = false) → wpS K W (fun e _ O' => x e O') (t_check_replica K W) (startD N_check_replica.length ds) O { nx := fun _ O' => k .non O', rt := k }) : FE P w K mg base 2 "check_replica" ["replica"] [] (toSp K (sp_check_replica K)) := by
  refine fe_of (ts := t_check_replica K) T.F_check_replica T.g_check_replica sc_check_replica len (fun fd F => binds0 F fun _ _ _ _ _ _ us hl => match us, hl with | [_], _ => rfl) (fun cdv A outer s H E hr => ?_) walk
  have hu := hu_of hr
  have hu64 : (A.deeper (envOfC "check_replica" (defScope s_check_replica) s.heap.objs.size (He.ga K "check_replica") cdv)).units + 64 < cLine := by have := hr.un; omega
  have hu1 : (A.deeper (envOfC "check_replica" (defScope s_check_replica) s.heap.objs.size (He.ga K "check_replica") cdv)).units < cLine := by have := hr.un; omega
  unfold t_check_replica
  exact pss_one (ps_if (pt_cmpR op_notIn_seq (pv 0) (pe_tup (pa_cons (pe_int) (pa_cons (pe_int) (pa_cons (pe_int) (pa_nil))))) (by rfl)) (pss_one (ps_raiseX (okV := fmtI) (W := fun cls d _ H => E cls d H) rfl (takes_of rfl rfl rfl rfl) T.tx_UnknownReplica T.g_UnknownReplica T.x_UnknownReplica.kp T.x_UnknownReplica.sb T.x_UnknownReplica.ty T.n_super (fun v u h r => L2.msg_2 (a := "there is no replica ") rfl (by decide) v u h r) hr (pa_cons (pv 0) (pa_nil)) rfl)) (pss_nil))
theorem ok_require_key (T : TX P K mg)
    (len : ∀ ds O k x, sp_require_key K ds O k x → ds.length = 2)
    (walk : ∀ W ds O k x, sp_require_key K ds O k x → (∀ p ∈ O, p.loc = false) → wpS K W (fun e _ O' => x e O') (t_require_key K W) (startD N_require_key.length ds) O { nx := fun _ O' => k .non O', rt := k }) : FE P w K mg base 2 "require_key" ["keys", "key"] [] (toSp K (sp_require_key K)) := by
  refine fe_of (ts := t_require_key K) T.F_require_key T.g_require_key sc_require_key len (fun fd F => binds0 F fun _ _ _ _ _ _ us hl => match us, hl with | [_, _], _ => rfl) (fun cdv A outer s H E hr => ?_) walk
  have hu := hu_of hr
  have hu64 : (A.deeper (envOfC "require_key" (defScope s_require_key) s.heap.objs.size (He.ga K "require_key") cdv)).units + 64 < cLine := by have := hr.un; omega
  have hu1 : (A.deeper (envOfC "require_key" (defScope s_require_key) s.heap.objs.size (He.ga K "require_key") cdv)).units < cLine := by have := hr.un; omega
  unfold t_require_key
  exact pss_one (ps_if (pt_cmp (pc_or (pc_R op_notIn_seq (pv 1) (pv 0)) (pc_dnotin hu (pv 1) (pv 0)))) (pss_one (ps_raiseX (okV := fmtI) (W := fun cls d _ H => E cls d H) rfl (takes_of rfl rfl rfl rfl) T.tx_UnknownKey T.g_UnknownKey T.x_UnknownKey.kp T.x_UnknownKey.sb T.x_UnknownKey.ty T.n_super (fun v u h r => L2.msg_2 (a := "unknown key ") rfl (by decide) v u h r) hr (pa_cons (pv 1) (pa_nil)) rfl)) (pss_nil))
theorem ok_State_says (T : TX P K mg) (F_check_replica : FE P w K mg base 2 "check_replica" ["replica"] [] (toSp K (sp_check_replica K))) (F_require_key : FE P w K mg base 2 "require_key" ["keys", "key"] [] (toSp K (sp_require_key K)))
    (len : ∀ ds O k x, sp_State_says K ds O k x → ds.length = 4)
    (walk : ∀ W ds O k x, sp_State_says K ds O k x → (∀ p ∈ O, p.loc = false) → wpS K W (fun e _ O' => x e O') (t_State_says K W) (startD N_State_says.length ds) O { nx := fun _ O' => k .non O', rt := k }) : FM P w K mg base 3 (He.ga K "State") "says" ["self", "replica", "x", "y"] [] (toSp K (sp_State_says K)) := by
  refine fm_of (ts := t_State_says K) T.F_State_says T.M_State_says sc_State_says len (fun fd F => bindsM F fun _ _ _ _ _ _ us hl => match us, hl with | [_, _, _, _], _ => rfl) (fun cdv A outer s H E hr => ?_) walk
  have hu := hu_of hr
  have hu64 : (A.deeper (envOfC "State.says" (defScope s_State_says) s.heap.objs.size (He.ma K (He.ga K "State") "says") cdv)).units + 64 < cLine := by have := hr.un; omega
  have hu1 : (A.deeper (envOfC "State.says" (defScope s_State_says) s.heap.objs.size (He.ma K (He.ga K "State") "says") cdv)).units < cLine := by have := hr.un; omega
  unfold t_State_says
  exact pss_cons (ps_expr (pe_fe (E := (WE fun cls d _ H => E cls d H)) F_check_replica (hr.mono (by decide)) (by rfl) (fun σ => passAt (takes_of rfl rfl rfl rfl) σ) (pa_cons (pv 1) (pa_nil))))
      (pss_cons (ps_set (i := 4) sc_State_says.nd rfl (by first | exact Or.inl rfl | exact Or.inr rfl) (pe_ix ix_lt (pe_fld (pv 0) rfl) (pv 1) (fun _ _ => rfl)))
      (pss_cons (ps_expr (pe_fe (E := (WE fun cls d _ H => E cls d H)) F_require_key (hr.mono (by decide)) (by rfl) (fun σ => passAt (takes_of rfl rfl rfl rfl) σ) (pa_cons (pv 4) (pa_cons (pv 2) (pa_nil)))))
      (pss_cons (ps_expr (pe_fe (E := (WE fun cls d _ H => E cls d H)) F_require_key (hr.mono (by decide)) (by rfl) (fun σ => passAt (takes_of rfl rfl rfl rfl) σ) (pa_cons (pv 4) (pa_cons (pv 3) (pa_nil)))))
      (pss_one (ps_ret (pe_cmpR opA_lt (pe_dget hu (pv 4) (pv 2) (fun _ _ => rfl)) (pe_dget hu (pv 4) (pv 3) (fun _ _ => rfl)) (nomark _)))))))
theorem ok__other_replicas (T : TX P K mg)
    (len : ∀ ds O k x, sp__other_replicas K ds O k x → ds.length = 1)
    (walk : ∀ W ds O k x, sp__other_replicas K ds O k x → (∀ p ∈ O, p.loc = false) → wpS K W (fun e _ O' => x e O') (t__other_replicas K W) (startD N__other_replicas.length ds) O { nx := fun _ O' => k .non O', rt := k }) : FE P w K mg base 1 "_other_replicas" ["replica"] [] (toSp K (sp__other_replicas K)) := by
  refine fe_of (ts := t__other_replicas K) T.F__other_replicas T.g__other_replicas sc__other_replicas len (fun fd F => binds0 F fun _ _ _ _ _ _ us hl => match us, hl with | [_], _ => rfl) (fun cdv A outer s H E hr => ?_) walk
  have hu := hu_of hr
  have hu64 : (A.deeper (envOfC "_other_replicas" (defScope s__other_replicas) s.heap.objs.size (He.ga K "_other_replicas") cdv)).units + 64 < cLine := by have := hr.un; omega
  have hu1 : (A.deeper (envOfC "_other_replicas" (defScope s__other_replicas) s.heap.objs.size (He.ga K "_other_replicas") cdv)).units < cLine := by have := hr.un; omega
  unfold t__other_replicas
  exact pss_one (ps_ret (pe_lc (own := [("other", 1)]) (g := gName 1) (tt := tTest (tOp (rNeA K) (tVar 1) (tVar 0))) rfl sc__other_replicas.nd (pi_range1 (by rfl) T.n_range (pa_cons (ClX.pe_cval (pe_glob rfl T.g_State rfl) rfl) (pa_nil))) (blkOk_by (N := N__other_replicas) (sc := defScope s__other_replicas) (by decide +kernel)) (fun _ _ _ _ _ => pg_name (i := 1) sc__other_replicas.nd rfl (by first | exact Or.inl rfl | exact Or.inr rfl)) (fun _ _ _ _ _ => pts_one (pt_cmpR (opA_ne hu64) (pv 1) (pv 0) (nomark _))) (fun _ _ _ _ _ => pv 1)))
theorem ok_State_list_of (T : TX P K mg) (F_check_replica : FE P w K mg base 2 "check_replica" ["replica"] [] (toSp K (sp_check_replica K)))
    (len : ∀ ds O k x, sp_State_list_of K ds O k x → ds.length = 2)
    (walk : ∀ W ds O k x, sp_State_list_of K ds O k x → (∀ p ∈ O, p.loc = false) → wpS K W (fun e _ O' => x e O') (t_State_list_of K W) (startD N_State_list_of.length ds) O { nx := fun _ O' => k .non O', rt := k }) : FM P w K mg base 3 (He.ga K "State") "list_of" ["self", "replica"] [] (toSp K (sp_State_list_of K)) := by
  refine fm_of (ts := t_State_list_of K) T.F_State_list_of T.M_State_list_of sc_State_list_of len (fun fd F => bindsM F fun _ _ _ _ _ _ us hl => match us, hl with | [_, _], _ => rfl) (fun cdv A outer s H E hr => ?_) walk
  have hu := hu_of hr
  have hu64 : (A.deeper (envOfC "State.list_of" (defScope s_State_list_of) s.heap.objs.size (He.ma K (He.ga K "State") "list_of") cdv)).units + 64 < cLine := by have := hr.un; omega
  have hu1 : (A.deeper (envOfC "State.list_of" (defScope s_State_list_of) s.heap.objs.size (He.ma K (He.ga K "State") "list_of") cdv)).units < cLine := by have := hr.un; omega
  unfold t_State_list_of
  exact pss_cons (ps_expr (pe_fe (E := (WE fun cls d _ H => E cls d H)) F_check_replica (hr.mono (by decide)) (by rfl) (fun σ => passAt (takes_of rfl rfl rfl rfl) σ) (pa_cons (pv 1) (pa_nil))))
      (pss_one (ps_ret (pe_callTy callA_list (by rfl) T.n_list (by decide +kernel) (pa_cons (pe_ix ix_lt (pe_fld (pv 0) rfl) (pv 1) (fun _ _ => rfl)) (pa_nil)))))
theorem ok_State___len__ (T : TX P K mg)
    (len : ∀ ds O k x, sp_State___len__ K ds O k x → ds.length = 1)
    (walk : ∀ W ds O k x, sp_State___len__ K ds O k x → (∀ p ∈ O, p.loc = false) → wpS K W (fun e _ O' => x e O') (t_State___len__ K W) (startD N_State___len__.length ds) O { nx := fun _ O' => k .non O', rt := k }) : FM P w K mg base 1 (He.ga K "State") "__len__" ["self"] [] (toSp K (sp_State___len__ K)) := by
  refine fm_of (ts := t_State___len__ K) T.F_State___len__ T.M_State___len__ sc_State___len__ len (fun fd F => bindsM F fun _ _ _ _ _ _ us hl => match us, hl with | [_], _ => rfl) (fun cdv A outer s H E hr => ?_) walk
  have hu := hu_of hr
  have hu64 : (A.deeper (envOfC "State.__len__" (defScope s_State___len__) s.heap.objs.size (He.ma K (He.ga K "State") "__len__") cdv)).units + 64 < cLine := by have := hr.un; omega
  have hu1 : (A.deeper (envOfC "State.__len__" (defScope s_State___len__) s.heap.objs.size (He.ma K (He.ga K "State") "__len__") cdv)).units < cLine := by have := hr.un; omega
  unfold t_State___len__
  exact pss_one (ps_ret (pe_callB callA_len (by rfl) T.n_len (by decide +kernel) (pa_cons (pe_ix ix_lt (pe_fld (pv 0) rfl) (pe_int) (fun _ _ => rfl)) (pa_nil))))
theorem ok_is_swap (T : TX P K mg) (F_State___len__ : FM P w K mg base 1 (He.ga K "State") "__len__" ["self"] [] (toSp K (sp_State___len__ K)))
    (len : ∀ ds O k x, sp_is_swap K ds O k x → ds.length = 2)
    (walk : ∀ W ds O k x, sp_is_swap K ds O k x → (∀ p ∈ O, p.loc = false) → wpS K W (fun e _ O' => x e O') (t_is_swap K W) (startD N_is_swap.length ds) O { nx := fun _ O' => k .non O', rt := k }) : FE P w K mg base 3 "is_swap" ["state", "swap"] [] (toSp K (sp_is_swap K)) := by
  refine fe_of (ts := t_is_swap K) T.F_is_swap T.g_is_swap sc_is_swap len (fun fd F => binds0 F fun _ _ _ _ _ _ us hl => match us, hl with | [_, _], _ => rfl) (fun cdv A outer s H E hr => ?_) walk
  have hu := hu_of hr
  have hu64 : (A.deeper (envOfC "is_swap" (defScope s_is_swap) s.heap.objs.size (He.ga K "is_swap") cdv)).units + 64 < cLine := by have := hr.un; omega
  have hu1 : (A.deeper (envOfC "is_swap" (defScope s_is_swap) s.heap.objs.size (He.ga K "is_swap") cdv)).units < cLine := by have := hr.un; omega
  unfold t_is_swap
  exact pss_cons (ps_asg (pv 1) (pg_tup rfl (pgs_cons (pg_name (i := 3) sc_is_swap.nd rfl (by first | exact Or.inl rfl | exact Or.inr rfl)) (pgs_cons (pg_name (i := 4) sc_is_swap.nd rfl (by first | exact Or.inl rfl | exact Or.inr rfl)) (pgs_nil)))))
      (pss_cons (ps_set (i := 2) sc_is_swap.nd rfl (by first | exact Or.inl rfl | exact Or.inr rfl) (pe_op opA_sub (pe_callB (call_lenI F_State___len__ (hr.mono (by decide))) (by rfl) T.n_len (by decide +kernel) (pa_cons (pv 0) (pa_nil))) (pe_int)))
      (pss_one (ps_ret (pe_and (pe_chain opA_le opA_lt (pe_int) (pv 3) (ClX.pe_cval (pe_glob rfl T.g_State rfl) rfl)) (pe_one (pe_chain opA_le opA_le (pe_int) (pv 4) (pv 2)))))))
theorem ok_swap_pair (T : TX P K mg) (F_State_list_of : FM P w K mg base 3 (He.ga K "State") "list_of" ["self", "replica"] [] (toSp K (sp_State_list_of K))) (F_is_swap : FE P w K mg base 3 "is_swap" ["state", "swap"] [] (toSp K (sp_is_swap K)))
    (len : ∀ ds O k x, sp_swap_pair K ds O k x → ds.length = 2)
    (walk : ∀ W ds O k x, sp_swap_pair K ds O k x → (∀ p ∈ O, p.loc = false) → wpS K W (fun e _ O' => x e O') (t_swap_pair K W) (startD N_swap_pair.length ds) O { nx := fun _ O' => k .non O', rt := k }) : FE P w K mg base 4 "swap_pair" ["state", "swap"] [] (toSp K (sp_swap_pair K)) := by
  refine fe_of (ts := t_swap_pair K) T.F_swap_pair T.g_swap_pair sc_swap_pair len (fun fd F => binds0 F fun _ _ _ _ _ _ us hl => match us, hl with | [_, _], _ => rfl) (fun cdv A outer s H E hr => ?_) walk
  have hu := hu_of hr
  have hu64 : (A.deeper (envOfC "swap_pair" (defScope s_swap_pair) s.heap.objs.size (He.ga K "swap_pair") cdv)).units + 64 < cLine := by have := hr.un; omega
  have hu1 : (A.deeper (envOfC "swap_pair" (defScope s_swap_pair) s.heap.objs.size (He.ga K "swap_pair") cdv)).units < cLine := by have := hr.un; omega
  unfold t_swap_pair
  exact pss_cons (ps_if (pt_not (pt_truth (pe_fe (E := (WE fun cls d _ H => E cls d H)) F_is_swap (hr.mono (by decide)) (by rfl) (fun σ => passAt (takes_of rfl rfl rfl rfl) σ) (pa_cons (pv 0) (pa_cons (pv 1) (pa_nil)))) (by intro _; rfl))) (pss_one (ps_raiseX (okV := fmtI) (W := fun cls d _ H => E cls d H) rfl (takes_of rfl rfl rfl rfl) T.tx_InvalidSwap T.g_InvalidSwap T.x_InvalidSwap.kp T.x_InvalidSwap.sb T.x_InvalidSwap.ty T.n_super (fun v u h r => L2.msg_3 (a := "the swap of step ") (b := " does not exist") rfl (by decide) (by decide) v u h r) hr (pa_cons (pe_int) (pa_nil)) rfl)) (pss_nil))
      (pss_cons (ps_asg (pv 1) (pg_tup rfl (pgs_cons (pg_name (i := 3) sc_swap_pair.nd rfl (by first | exact Or.inl rfl | exact Or.inr rfl)) (pgs_cons (pg_name (i := 4) sc_swap_pair.nd rfl (by first | exact Or.inl rfl | exact Or.inr rfl)) (pgs_nil)))))
      (pss_cons (ps_set (i := 2) sc_swap_pair.nd rfl (by first | exact Or.inl rfl | exact Or.inr rfl) (pe_methA (E := (WE fun cls d _ H => E cls d H)) (pv 0) T.C_State F_State_list_of (hr.mono (by decide)) (fun σ => passAt (takes_of rfl rfl rfl rfl) σ) (pa_cons (pv 3) (pa_nil))))
      (pss_one (ps_ret (pe_tup (pa_cons (pe_ix ix_lt (pv 2) (pv 4) (fun _ _ => rfl)) (pa_cons (pe_ix ix_lt (pv 2) (pe_op opA_add (pv 4) (pe_int)) (fun _ _ => rfl)) (pa_nil))))))))
theorem ok_is_silent (T : TX P K mg) (F_State_says : FM P w K mg base 3 (He.ga K "State") "says" ["self", "replica", "x", "y"] [] (toSp K (sp_State_says K))) (F__other_replicas : FE P w K mg base 1 "_other_replicas" ["replica"] [] (toSp K (sp__other_replicas K))) (F_swap_pair : FE P w K mg base 4 "swap_pair" ["state", "swap"] [] (toSp K (sp_swap_pair K)))
    (len : ∀ ds O k x, sp_is_silent K ds O k x → ds.length = 2)
    (walk : ∀ W ds O k x, sp_is_silent K ds O k x → (∀ p ∈ O, p.loc = false) → wpS K W (fun e _ O' => x e O') (t_is_silent K W) (startD N_is_silent.length ds) O { nx := fun _ O' => k .non O', rt := k }) : FE P w K mg base 5 "is_silent" ["state", "swap"] [] (toSp K (sp_is_silent K)) := by
  refine fe_of (ts := t_is_silent K) T.F_is_silent T.g_is_silent sc_is_silent len (fun fd F => binds0 F fun _ _ _ _ _ _ us hl => match us, hl with | [_, _], _ => rfl) (fun cdv A outer s H E hr => ?_) walk
  have hu := hu_of hr
  have hu64 : (A.deeper (envOfC "is_silent" (defScope s_is_silent) s.heap.objs.size (He.ga K "is_silent") cdv)).units + 64 < cLine := by have := hr.un; omega
  have hu1 : (A.deeper (envOfC "is_silent" (defScope s_is_silent) s.heap.objs.size (He.ga K "is_silent") cdv)).units < cLine := by have := hr.un; omega
  unfold t_is_silent
  exact pss_cons (ps_asg (pe_fe (E := (WE fun cls d _ H => E cls d H)) F_swap_pair (hr.mono (by decide)) (by rfl) (fun σ => passAt (takes_of rfl rfl rfl rfl) σ) (pa_cons (pv 0) (pa_cons (pv 1) (pa_nil)))) (pg_tup rfl (pgs_cons (pg_name (i := 2) sc_is_silent.nd rfl (by first | exact Or.inl rfl | exact Or.inr rfl)) (pgs_cons (pg_name (i := 3) sc_is_silent.nd rfl (by first | exact Or.inl rfl | exact Or.inr rfl)) (pgs_nil)))))
      (pss_cons (ps_asg (pe_fe (E := (WE fun cls d _ H => E cls d H)) F__other_replicas (hr.mono (by decide)) (by rfl) (fun σ => passAt (takes_of rfl rfl rfl rfl) σ) (pa_cons (pe_ix ix_lt (pv 1) (pe_int) (fun _ _ => rfl)) (pa_nil))) (pg_lst rfl (pgs_cons (pg_name (i := 4) sc_is_silent.nd rfl (by first | exact Or.inl rfl | exact Or.inr rfl)) (pgs_cons (pg_name (i := 5) sc_is_silent.nd rfl (by first | exact Or.inl rfl | exact Or.inr rfl)) (pgs_nil)))))
      (pss_one (ps_ret (pe_cmpR (opA_eq hu64) (pe_methA (E := (WE fun cls d _ H => E cls d H)) (pv 0) T.C_State F_State_says (hr.mono (by decide)) (fun σ => passAt (takes_of rfl rfl rfl rfl) σ) (pa_cons (pv 4) (pa_cons (pv 2) (pa_cons (pv 3) (pa_nil))))) (pe_methA (E := (WE fun cls d _ H => E cls d H)) (pv 0) T.C_State F_State_says (hr.mono (by decide)) (fun σ => passAt (takes_of rfl rfl rfl rfl) σ) (pa_cons (pv 5) (pa_cons (pv 2) (pa_cons (pv 3) (pa_nil))))) (nomark _)))))
theorem ok_first_wrong_place (T : TX P K mg)
    (len : ∀ ds O k x, sp_first_wrong_place K ds O k x → ds.length = 1)
    (walk : ∀ W ds O k x, sp_first_wrong_place K ds O k x → (∀ p ∈ O, p.loc = false) → wpS K W (fun e _ O' => x e O') (t_first_wrong_place K W) (startD N_first_wrong_place.length ds) O { nx := fun _ O' => k .non O', rt := k }) : FE P w K mg base 1 "first_wrong_place" ["order"] [] (toSp K (sp_first_wrong_place K)) := by
  refine fe_of (ts := t_first_wrong_place K) T.F_first_wrong_place T.g_first_wrong_place sc_first_wrong_place len (fun fd F => binds0 F fun _ _ _ _ _ _ us hl => match us, hl with | [_], _ => rfl) (fun cdv A outer s H E hr => ?_) walk
  have hu := hu_of hr
  have hu64 : (A.deeper (envOfC "first_wrong_place" (defScope s_first_wrong_place) s.heap.objs.size (He.ga K "first_wrong_place") cdv)).units + 64 < cLine := by have := hr.un; omega
  have hu1 : (A.deeper (envOfC "first_wrong_place" (defScope s_first_wrong_place) s.heap.objs.size (He.ga K "first_wrong_place") cdv)).units < cLine := by have := hr.un; omega
  unfold t_first_wrong_place
  exact pss_cons (ps_set (i := 1) sc_first_wrong_place.nd rfl (by first | exact Or.inl rfl | exact Or.inr rfl) (pe_dnewK))
      (pss_cons (ps_for (passes_of rfl) rfl (pi_enum (by rfl) T.n_enumerate (pa_cons (pv 0) (pa_nil))) (pg_tup rfl (pgs_cons (pg_name (i := 2) sc_first_wrong_place.nd rfl (by first | exact Or.inl rfl | exact Or.inr rfl)) (pgs_cons (pg_name (i := 3) sc_first_wrong_place.nd rfl (by first | exact Or.inl rfl | exact Or.inr rfl)) (pgs_nil)))) (pss_cons (ps_if (PW.pt (pw_or (pt_cmpR opA_ge (pv 2) ((by obtain ⟨t, h⟩ := T.i_MAX_KEYS; exact pe_glob rfl h ⟨_, rfl⟩)) (nomark _)) (pw_or (pt_cmpR opA_lt (pv 3) (pe_int) (nomark _)) (pw_or (pt_cmpR opA_gt (pv 3) ((by obtain ⟨t, h⟩ := T.i_MAX_KEY; exact pe_glob rfl h ⟨_, rfl⟩)) (nomark _)) (pw_or1 (pt_cmp (pc_din hu (pv 3) (pv 1)))))))) (pss_one (ps_ret (pv 2))) (pss_nil))
      (pss_one (ps_dput hu (pv 1) (pv 3) (pe_bl) rfl))))
      (pss_one (ps_ret (pe_non))))
theorem ok__wrong_replica (T : TX P K mg) (F_first_wrong_place : FE P w K mg base 1 "first_wrong_place" ["order"] [] (toSp K (sp_first_wrong_place K)))
    (len : ∀ ds O k x, sp__wrong_replica K ds O k x → ds.length = 1)
    (walk : ∀ W ds O k x, sp__wrong_replica K ds O k x → (∀ p ∈ O, p.loc = false) → wpS K W (fun e _ O' => x e O') (t__wrong_replica K W) (startD N__wrong_replica.length ds) O { nx := fun _ O' => k .non O', rt := k }) : FE P w K mg base 2 "_wrong_replica" ["orders"] [] (toSp K (sp__wrong_replica K)) := by
  refine fe_of (ts := t__wrong_replica K) T.F__wrong_replica T.g__wrong_replica sc__wrong_replica len (fun fd F => binds0 F fun _ _ _ _ _ _ us hl => match us, hl with | [_], _ => rfl) (fun cdv A outer s H E hr => ?_) walk
  have hu := hu_of hr
  have hu64 : (A.deeper (envOfC "_wrong_replica" (defScope s__wrong_replica) s.heap.objs.size (He.ga K "_wrong_replica") cdv)).units + 64 < cLine := by have := hr.un; omega
  have hu1 : (A.deeper (envOfC "_wrong_replica" (defScope s__wrong_replica) s.heap.objs.size (He.ga K "_wrong_replica") cdv)).units < cLine := by have := hr.un; omega
  unfold t__wrong_replica
  exact pss_cons (ps_set (i := 1) sc__wrong_replica.nd rfl (by first | exact Or.inl rfl | exact Or.inr rfl) (pe_callB callA_sorted (by rfl) T.n_sorted (by decide +kernel) (pa_cons (pe_ix ix_lt (pv 0) (pe_int) (fun _ _ => rfl)) (pa_nil))))
      (pss_cons (ps_for (passes_of rfl) rfl (pi_enum (by rfl) T.n_enumerate (pa_cons (pv 0) (pa_nil))) (pg_tup rfl (pgs_cons (pg_name (i := 2) sc__wrong_replica.nd rfl (by first | exact Or.inl rfl | exact Or.inr rfl)) (pgs_cons (pg_name (i := 3) sc__wrong_replica.nd rfl (by first | exact Or.inl rfl | exact Or.inr rfl)) (pgs_nil)))) (pss_one (ps_if (PW.pt (pw_or (pt_cmpR opA_notN (pe_fe (E := (WE fun cls d _ H => E cls d H)) F_first_wrong_place (hr.mono (by decide)) (by rfl) (fun σ => passAt (takes_of rfl rfl rfl rfl) σ) (pa_cons (pv 3) (pa_nil))) (pe_non) (nomark _)) (pw_or1 (pt_cmpR (opA_ne hu64) (pe_callB callA_sorted (by rfl) T.n_sorted (by decide +kernel) (pa_cons (pv 3) (pa_nil))) (pv 1) (nomark _))))) (pss_one (ps_ret (pv 2))) (pss_nil))))
      (pss_one (ps_ret (pe_non))))
theorem ok_index_of (T : TX P K mg)
    (len : ∀ ds O k x, sp_index_of K ds O k x → ds.length = 1)
    (walk : ∀ W ds O k x, sp_index_of K ds O k x → (∀ p ∈ O, p.loc = false) → wpS K W (fun e _ O' => x e O') (t_index_of K W) (startD N_index_of.length ds) O { nx := fun _ O' => k .non O', rt := k }) : FE P w K mg base 1 "index_of" ["order"] [] (toSp K (sp_index_of K)) := by
  refine fe_of (ts := t_index_of K) T.F_index_of T.g_index_of sc_index_of len (fun fd F => binds0 F fun _ _ _ _ _ _ us hl => match us, hl with | [_], _ => rfl) (fun cdv A outer s H E hr => ?_) walk
  have hu := hu_of hr
  have hu64 : (A.deeper (envOfC "index_of" (defScope s_index_of) s.heap.objs.size (He.ga K "index_of") cdv)).units + 64 < cLine := by have := hr.un; omega
  have hu1 : (A.deeper (envOfC "index_of" (defScope s_index_of) s.heap.objs.size (He.ga K "index_of") cdv)).units < cLine := by have := hr.un; omega
  unfold t_index_of
  exact pss_one (ps_ret (pe_dc (own := [("place", 1), ("key", 2)]) (g := gTup K 2 (gCons (gName 1) (gCons (gName 2) (gNil)))) (tt := tYes) rfl sc_index_of.nd (pi_enum (by rfl) T.n_enumerate (pa_cons (pv 0) (pa_nil))) (blkOk_by (N := N_index_of) (sc := defScope s_index_of) (by decide +kernel)) (fun _ _ _ _ _ => pg_tup rfl (pgs_cons (pg_name (i := 1) sc_index_of.nd rfl (by first | exact Or.inl rfl | exact Or.inr rfl)) (pgs_cons (pg_name (i := 2) sc_index_of.nd rfl (by first | exact Or.inl rfl | exact Or.inr rfl)) (pgs_nil)))) (fun _ _ _ _ _ => pts_nil) (fun _ _ _ _ _ => pv 2) (fun _ _ _ _ _ => pv 1)))
theorem ok_State___init__ (T : TX P K mg) (F__wrong_replica : FE P w K mg base 2 "_wrong_replica" ["orders"] [] (toSp K (sp__wrong_replica K))) (F_index_of : FE P w K mg base 1 "index_of" ["order"] [] (toSp K (sp_index_of K)))
    (len : ∀ ds O k x, sp_State___init__ K ds O k x → ds.length = 4)
    (walk : ∀ W ds O k x, sp_State___init__ K ds O k x → (∀ p ∈ O, p.loc = false) → wpS K W (fun e _ O' => x e O') (t_State___init__ K W) (startD N_State___init__.length ds) O { nx := fun _ O' => k .non O', rt := k }) : FM P w K mg base 3 (He.ga K "State") "__init__" ["self", "first", "second", "third"] [] (toSp K (sp_State___init__ K)) := by
  refine fm_of (ts := t_State___init__ K) T.F_State___init__ T.M_State___init__ sc_State___init__ len (fun fd F => bindsM F fun _ _ _ _ _ _ us hl => match us, hl with | [_, _, _, _], _ => rfl) (fun cdv A outer s H E hr => ?_) walk
  have hu := hu_of hr
  have hu64 : (A.deeper (envOfC "State.__init__" (defScope s_State___init__) s.heap.objs.size (He.ma K (He.ga K "State") "__init__") cdv)).units + 64 < cLine := by have := hr.un; omega
  have hu1 : (A.deeper (envOfC "State.__init__" (defScope s_State___init__) s.heap.objs.size (He.ma K (He.ga K "State") "__init__") cdv)).units < cLine := by have := hr.un; omega
  unfold t_State___init__
  exact pss_cons (ps_set (i := 4) sc_State___init__.nd rfl (by first | exact Or.inl rfl | exact Or.inr rfl) (pe_lst (pa_cons (pe_callTy callA_list (by rfl) T.n_list (by decide +kernel) (pa_cons (pv 1) (pa_nil))) (pa_cons (pe_callTy callA_list (by rfl) T.n_list (by decide +kernel) (pa_cons (pv 2) (pa_nil))) (pa_cons (pe_callTy callA_list (by rfl) T.n_list (by decide +kernel) (pa_cons (pv 3) (pa_nil))) (pa_nil))))))
      (pss_cons (ps_set (i := 5) sc_State___init__.nd rfl (by first | exact Or.inl rfl | exact Or.inr rfl) (pe_fe (E := (WE fun cls d _ H => E cls d H)) F__wrong_replica (hr.mono (by decide)) (by rfl) (fun σ => passAt (takes_of rfl rfl rfl rfl) σ) (pa_cons (pv 4) (pa_nil))))
      (pss_cons (ps_if (pt_cmpR opA_notN (pv 5) (pe_non) (nomark _)) (pss_one (ps_raiseX (okV := fmtI) (W := fun cls d _ H => E cls d H) rfl (takes_of rfl rfl rfl rfl) T.tx_InvalidState T.g_InvalidState T.x_InvalidState.kp T.x_InvalidState.sb T.x_InvalidState.ty T.n_super (fun v u h r => L2.msg_3 (a := "replica ") (b := " does not fit a state") rfl (by decide) (by decide) v u h r) hr (pa_cons (pv 5) (pa_nil)) rfl)) (pss_nil))
      (pss_cons (ps_fld (pv 0) (pv 4) rfl)
      (pss_one (ps_fld (pv 0) (pe_lc (own := [("order", 6)]) (g := gName 6) (tt := tYes) rfl sc_State___init__.nd (pi_list (pv 4)) (blkOk_by (N := N_State___init__) (sc := defScope s_State___init__) (by decide +kernel)) (fun _ _ _ _ _ => pg_name (i := 6) sc_State___init__.nd rfl (by first | exact Or.inl rfl | exact Or.inr rfl)) (fun _ _ _ _ _ => pts_nil) (fun _ _ _ _ _ => pe_fe (E := (fun _ => E0)) F_index_of (hr.mono (by decide)) (by rfl) (fun σ => passE σ) (pa_cons (pv 6) (pa_nil)))) rfl)))))
theorem ok_State_all_keys (T : TX P K mg)
    (len : ∀ ds O k x, sp_State_all_keys K ds O k x → ds.length = 1)
    (walk : ∀ W ds O k x, sp_State_all_keys K ds O k x → (∀ p ∈ O, p.loc = false) → wpS K W (fun e _ O' => x e O') (t_State_all_keys K W) (startD N_State_all_keys.length ds) O { nx := fun _ O' => k .non O', rt := k }) : FM P w K mg base 1 (He.ga K "State") "all_keys" ["self"] [] (toSp K (sp_State_all_keys K)) := by
  refine fm_of (ts := t_State_all_keys K) T.F_State_all_keys T.M_State_all_keys sc_State_all_keys len (fun fd F => bindsM F fun _ _ _ _ _ _ us hl => match us, hl with | [_], _ => rfl) (fun cdv A outer s H E hr => ?_) walk
  have hu := hu_of hr
  have hu64 : (A.deeper (envOfC "State.all_keys" (defScope s_State_all_keys) s.heap.objs.size (He.ma K (He.ga K "State") "all_keys") cdv)).units + 64 < cLine := by have := hr.un; omega
  have hu1 : (A.deeper (envOfC "State.all_keys" (defScope s_State_all_keys) s.heap.objs.size (He.ma K (He.ga K "State") "all_keys") cdv)).units < cLine := by have := hr.un; omega
  unfold t_State_all_keys
  exact pss_one (ps_ret (pe_callB callA_sorted (by rfl) T.n_sorted (by decide +kernel) (pa_cons (pe_ix ix_lt (pe_fld (pv 0) rfl) (pe_int) (fun _ _ => rfl)) (pa_nil))))
theorem ok_State_with_list (T : TX P K mg) (F_State___init__ : FM P w K mg base 3 (He.ga K "State") "__init__" ["self", "first", "second", "third"] [] (toSp K (sp_State___init__ K))) (F_State_all_keys : FM P w K mg base 1 (He.ga K "State") "all_keys" ["self"] [] (toSp K (sp_State_all_keys K))) (F_State_lists : FM P w K mg base 1 (He.ga K "State") "lists" ["self"] [] (toSp K (sp_State_lists K))) (F_check_replica : FE P w K mg base 2 "check_replica" ["replica"] [] (toSp K (sp_check_replica K))) (F_first_wrong_place : FE P w K mg base 1 "first_wrong_place" ["order"] [] (toSp K (sp_first_wrong_place K)))
    (len : ∀ ds O k x, sp_State_with_list K ds O k x → ds.length = 3)
    (walk : ∀ W ds O k x, sp_State_with_list K ds O k x → (∀ p ∈ O, p.loc = false) → wpS K W (fun e _ O' => x e O') (t_State_with_list K W) (startD N_State_with_list.length ds) O { nx := fun _ O' => k .non O', rt := k }) : FM P w K mg base 5 (He.ga K "State") "with_list" ["self", "replica", "order"] [] (toSp K (sp_State_with_list K)) := by
  refine fm_of (ts := t_State_with_list K) T.F_State_with_list T.M_State_with_list sc_State_with_list len (fun fd F => bindsM F fun _ _ _ _ _ _ us hl => match us, hl with | [_, _, _], _ => rfl) (fun cdv A outer s H E hr => ?_) walk
  have hu := hu_of hr
  have hu64 : (A.deeper (envOfC "State.with_list" (defScope s_State_with_list) s.heap.objs.size (He.ma K (He.ga K "State") "with_list") cdv)).units + 64 < cLine := by have := hr.un; omega
  have hu1 : (A.deeper (envOfC "State.with_list" (defScope s_State_with_list) s.heap.objs.size (He.ma K (He.ga K "State") "with_list") cdv)).units < cLine := by have := hr.un; omega
  unfold t_State_with_list
  exact pss_cons (ps_expr (pe_fe (E := (WE fun cls d _ H => E cls d H)) F_check_replica (hr.mono (by decide)) (by rfl) (fun σ => passAt (takes_of rfl rfl rfl rfl) σ) (pa_cons (pv 1) (pa_nil))))
      (pss_cons (ps_if (PW.pt (pw_or (pt_cmpR opA_notN (pe_fe (E := (WE fun cls d _ H => E cls d H)) F_first_wrong_place (hr.mono (by decide)) (by rfl) (fun σ => passAt (takes_of rfl rfl rfl rfl) σ) (pa_cons (pv 2) (pa_nil))) (pe_non) (nomark _)) (pw_or1 (pt_cmpR (opA_ne hu64) (pe_callB callA_sorted (by rfl) T.n_sorted (by decide +kernel) (pa_cons (pv 2) (pa_nil))) (pe_meth0A (E := (WE fun cls d _ H => E cls d H)) (pv 0) T.C_State F_State_all_keys (hr.mono (by decide)) (fun σ => passAt (takes_of rfl rfl rfl rfl) σ)) (nomark _))))) (pss_one (ps_raiseX (okV := fmtI) (W := fun cls d _ H => E cls d H) rfl (takes_of rfl rfl rfl rfl) T.tx_InvalidState T.g_InvalidState T.x_InvalidState.kp T.x_InvalidState.sb T.x_InvalidState.ty T.n_super (fun v u h r => L2.msg_3 (a := "replica ") (b := " does not fit a state") rfl (by decide) (by decide) v u h r) hr (pa_cons (pv 1) (pa_nil)) rfl)) (pss_nil))
      (pss_cons (ps_set (i := 3) sc_State_with_list.nd rfl (by first | exact Or.inl rfl | exact Or.inr rfl) (pe_meth0A (E := (WE fun cls d _ H => E cls d H)) (pv 0) T.C_State F_State_lists (hr.mono (by decide)) (fun σ => passAt (takes_of rfl rfl rfl rfl) σ)))
      (pss_cons (ps_asg (pv 2) (pg_sub (pv 3) (pv 1) set_list))
      (pss_cons (ps_asg (pv 3) (pg_lst rfl (pgs_cons (pg_name (i := 4) sc_State_with_list.nd rfl (by first | exact Or.inl rfl | exact Or.inr rfl)) (pgs_cons (pg_name (i := 5) sc_State_with_list.nd rfl (by first | exact Or.inl rfl | exact Or.inr rfl)) (pgs_cons (pg_name (i := 6) sc_State_with_list.nd rfl (by first | exact Or.inl rfl | exact Or.inr rfl)) (pgs_nil))))))
      (pss_one (ps_ret (pe_makeA (E := (WE fun cls d _ H => E cls d H)) T.mk_State F_State___init__ (hr.mono (by decide)) (by rfl) T.g_State (fun σ => passAt (takes_of rfl rfl rfl rfl) σ) (pa_cons (pv 4) (pa_cons (pv 5) (pa_cons (pv 6) (pa_nil)))))))))))
theorem ok_check_list (T : TX P K mg) (F_first_wrong_place : FE P w K mg base 1 "first_wrong_place" ["order"] [] (toSp K (sp_first_wrong_place K)))
    (len : ∀ ds O k x, sp_check_list K ds O k x → ds.length = 1)
    (walk : ∀ W ds O k x, sp_check_list K ds O k x → (∀ p ∈ O, p.loc = false) → wpS K W (fun e _ O' => x e O') (t_check_list K W) (startD N_check_list.length ds) O { nx := fun _ O' => k .non O', rt := k }) : FE P w K mg base 2 "check_list" ["order"] [] (toSp K (sp_check_list K)) := by
  refine fe_of (ts := t_check_list K) T.F_check_list T.g_check_list sc_check_list len (fun fd F => binds0 F fun _ _ _ _ _ _ us hl => match us, hl with | [_], _ => rfl) (fun cdv A outer s H E hr => ?_) walk
  have hu := hu_of hr
  have hu64 : (A.deeper (envOfC "check_list" (defScope s_check_list) s.heap.objs.size (He.ga K "check_list") cdv)).units + 64 < cLine := by have := hr.un; omega
  have hu1 : (A.deeper (envOfC "check_list" (defScope s_check_list) s.heap.objs.size (He.ga K "check_list") cdv)).units < cLine := by have := hr.un; omega
  unfold t_check_list
  exact pss_cons (ps_set (i := 1) sc_check_list.nd rfl (by first | exact Or.inl rfl | exact Or.inr rfl) (pe_fe (E := (WE fun cls d _ H => E cls d H)) F_first_wrong_place (hr.mono (by decide)) (by rfl) (fun σ => passAt (takes_of rfl rfl rfl rfl) σ) (pa_cons (pv 0) (pa_nil))))
      (pss_one (ps_if (pt_cmpR opA_notN (pv 1) (pe_non) (nomark _)) (pss_one (ps_raiseX (okV := fmtI) (W := fun cls d _ H => E cls d H) rfl (takes_of rfl rfl rfl rfl) T.tx_InvalidList T.g_InvalidList T.x_InvalidList.kp T.x_InvalidList.sb T.x_InvalidList.ty T.n_super (fun v u h r => L2.msg_3 (a := "invalid key at index ") (b := " of the list") rfl (by decide) (by decide) v u h r) hr (pa_cons (pv 1) (pa_nil)) rfl)) (pss_nil)))
theorem ok_swap_at (T : TX P K mg) (F_check_list : FE P w K mg base 2 "check_list" ["order"] [] (toSp K (sp_check_list K)))
    (len : ∀ ds O k x, sp_swap_at K ds O k x → ds.length = 2)
    (walk : ∀ W ds O k x, sp_swap_at K ds O k x → (∀ p ∈ O, p.loc = false) → wpS K W (fun e _ O' => x e O') (t_swap_at K W) (startD N_swap_at.length ds) O { nx := fun _ O' => k .non O', rt := k }) : FE P w K mg base 3 "swap_at" ["order", "index"] [] (toSp K (sp_swap_at K)) := by
  refine fe_of (ts := t_swap_at K) T.F_swap_at T.g_swap_at sc_swap_at len (fun fd F => binds0 F fun _ _ _ _ _ _ us hl => match us, hl with | [_, _], _ => rfl) (fun cdv A outer s H E hr => ?_) walk
  have hu := hu_of hr
  have hu64 : (A.deeper (envOfC "swap_at" (defScope s_swap_at) s.heap.objs.size (He.ga K "swap_at") cdv)).units + 64 < cLine := by have := hr.un; omega
  have hu1 : (A.deeper (envOfC "swap_at" (defScope s_swap_at) s.heap.objs.size (He.ga K "swap_at") cdv)).units < cLine := by have := hr.un; omega
  unfold t_swap_at
  exact pss_cons (ps_expr (pe_fe (E := (WE fun cls d _ H => E cls d H)) F_check_list (hr.mono (by decide)) (by rfl) (fun σ => passAt (takes_of rfl rfl rfl rfl) σ) (pa_cons (pv 0) (pa_nil))))
      (pss_cons (ps_if (PW.pt (pw_or (pt_cmpR opA_lt (pv 1) (pe_int) (nomark _)) (pw_or1 (pt_cmpR opA_gt (pv 1) (pe_op opA_sub (pe_callB callA_len (by rfl) T.n_len (by decide +kernel) (pa_cons (pv 0) (pa_nil))) (pe_int)) (nomark _))))) (pss_one (ps_raiseX (okV := fmtI) (W := fun cls d _ H => E cls d H) rfl (takes_of rfl rfl rfl rfl) T.tx_InvalidSwap T.g_InvalidSwap T.x_InvalidSwap.kp T.x_InvalidSwap.sb T.x_InvalidSwap.ty T.n_super (fun v u h r => L2.msg_3 (a := "the swap of step ") (b := " does not exist") rfl (by decide) (by decide) v u h r) hr (pa_cons (pe_int) (pa_nil)) rfl)) (pss_nil))
      (pss_cons (ps_set (i := 2) sc_swap_at.nd rfl (by first | exact Or.inl rfl | exact Or.inr rfl) (pe_callTy callA_list (by rfl) T.n_list (by decide +kernel) (pa_cons (pv 0) (pa_nil))))
      (pss_cons (ps_asg (pe_ix ix_lt (pv 0) (pe_op opA_add (pv 1) (pe_int)) (fun _ _ => rfl)) (pg_sub (pv 2) (pv 1) set_list))
      (pss_cons (ps_asg (pe_ix ix_lt (pv 0) (pv 1) (fun _ _ => rfl)) (pg_sub (pv 2) (pe_op opA_add (pv 1) (pe_int)) set_list))
      (pss_one (ps_ret (pv 2)))))))
theorem ok_swapped_state (T : TX P K mg) (F_State_list_of : FM P w K mg base 3 (He.ga K "State") "list_of" ["self", "replica"] [] (toSp K (sp_State_list_of K))) (F_State_with_list : FM P w K mg base 5 (He.ga K "State") "with_list" ["self", "replica", "order"] [] (toSp K (sp_State_with_list K))) (F_swap_at : FE P w K mg base 3 "swap_at" ["order", "index"] [] (toSp K (sp_swap_at K)))
    (len : ∀ ds O k x, sp_swapped_state K ds O k x → ds.length = 2)
    (walk : ∀ W ds O k x, sp_swapped_state K ds O k x → (∀ p ∈ O, p.loc = false) → wpS K W (fun e _ O' => x e O') (t_swapped_state K W) (startD N_swapped_state.length ds) O { nx := fun _ O' => k .non O', rt := k }) : FE P w K mg base 6 "swapped_state" ["state", "swap"] [] (toSp K (sp_swapped_state K)) := by
  refine fe_of (ts := t_swapped_state K) T.F_swapped_state T.g_swapped_state sc_swapped_state len (fun fd F => binds0 F fun _ _ _ _ _ _ us hl => match us, hl with | [_, _], _ => rfl) (fun cdv A outer s H E hr => ?_) walk
  have hu := hu_of hr
  have hu64 : (A.deeper (envOfC "swapped_state" (defScope s_swapped_state) s.heap.objs.size (He.ga K "swapped_state") cdv)).units + 64 < cLine := by have := hr.un; omega
  have hu1 : (A.deeper (envOfC "swapped_state" (defScope s_swapped_state) s.heap.objs.size (He.ga K "swapped_state") cdv)).units < cLine := by have := hr.un; omega
  unfold t_swapped_state
  exact pss_cons (ps_asg (pv 1) (pg_tup rfl (pgs_cons (pg_name (i := 2) sc_swapped_state.nd rfl (by first | exact Or.inl rfl | exact Or.inr rfl)) (pgs_cons (pg_name (i := 3) sc_swapped_state.nd rfl (by first | exact Or.inl rfl | exact Or.inr rfl)) (pgs_nil)))))
      (pss_one (ps_ret (pe_methA (E := (WE fun cls d _ H => E cls d H)) (pv 0) T.C_State F_State_with_list (hr.mono (by decide)) (fun σ => passAt (takes_of rfl rfl rfl rfl) σ) (pa_cons (pv 2) (pa_cons (pe_fe (E := (WE fun cls d _ H => E cls d H)) F_swap_at (hr.mono (by decide)) (by rfl) (fun σ => passAt (takes_of rfl rfl rfl rfl) σ) (pa_cons (pe_methA (E := (WE fun cls d _ H => E cls d H)) (pv 0) T.C_State F_State_list_of (hr.mono (by decide)) (fun σ => passAt (takes_of rfl rfl rfl rfl) σ) (pa_cons (pv 2) (pa_nil))) (pa_cons (pv 3) (pa_nil)))) (pa_nil))))))
theorem ok__state_after (T : TX P K mg) (F_is_silent : FE P w K mg base 5 "is_silent" ["state", "swap"] [] (toSp K (sp_is_silent K))) (F_is_swap : FE P w K mg base 3 "is_swap" ["state", "swap"] [] (toSp K (sp_is_swap K))) (F_swapped_state : FE P w K mg base 6 "swapped_state" ["state", "swap"] [] (toSp K (sp_swapped_state K)))
    (len : ∀ ds O k x, sp__state_after K ds O k x → ds.length = 3)
    (walk : ∀ W ds O k x, sp__state_after K ds O k x → (∀ p ∈ O, p.loc = false) → wpS K W (fun e _ O' => x e O') (t__state_after K W) (startD N__state_after.length ds) O { nx := fun _ O' => k .non O', rt := k }) : FE P w K mg base 7 "_state_after" ["state", "swap", "step"] [] (toSp K (sp__state_after K)) := by
  refine fe_of (ts := t__state_after K) T.F__state_after T.g__state_after sc__state_after len (fun fd F => binds0 F fun _ _ _ _ _ _ us hl => match us, hl with | [_, _, _], _ => rfl) (fun cdv A outer s H E hr => ?_) walk
  have hu := hu_of hr
  have hu64 : (A.deeper (envOfC "_state_after" (defScope s__state_after) s.heap.objs.size (He.ga K "_state_after") cdv)).units + 64 < cLine := by have := hr.un; omega
  have hu1 : (A.deeper (envOfC "_state_after" (defScope s__state_after) s.heap.objs.size (He.ga K "_state_after") cdv)).units < cLine := by have := hr.un; omega
  unfold t__state_after
  exact pss_cons (ps_if (pt_not (pt_truth (pe_fe (E := (WE fun cls d _ H => E cls d H)) F_is_swap (hr.mono (by decide)) (by rfl) (fun σ => passAt (takes_of rfl rfl rfl rfl) σ) (pa_cons (pv 0) (pa_cons (pv 1) (pa_nil)))) (by intro _; rfl))) (pss_one (ps_raiseX (okV := fmtI) (W := fun cls d _ H => E cls d H) rfl (takes_of rfl rfl rfl rfl) T.tx_InvalidSwap T.g_InvalidSwap T.x_InvalidSwap.kp T.x_InvalidSwap.sb T.x_InvalidSwap.ty T.n_super (fun v u h r => L2.msg_3 (a := "the swap of step ") (b := " does not exist") rfl (by decide) (by decide) v u h r) hr (pa_cons (pv 2) (pa_nil)) rfl)) (pss_nil))
      (pss_cons (ps_if (pt_not (pt_truth (pe_fe (E := (WE fun cls d _ H => E cls d H)) F_is_silent (hr.mono (by decide)) (by rfl) (fun σ => passAt (takes_of rfl rfl rfl rfl) σ) (pa_cons (pv 0) (pa_cons (pv 1) (pa_nil)))) (by intro _; rfl))) (pss_one (ps_raiseX (okV := fmtI) (W := fun cls d _ H => E cls d H) rfl (takes_of rfl rfl rfl rfl) T.tx_AudibleSwap T.g_AudibleSwap T.x_AudibleSwap.kp T.x_AudibleSwap.sb T.x_AudibleSwap.ty T.n_super (fun v u h r => L2.msg_3 (a := "the swap of step ") (b := " is audible") rfl (by decide) (by decide) v u h r) hr (pa_cons (pv 2) (pa_nil)) rfl)) (pss_nil))
      (pss_one (ps_ret (pe_fe (E := (WE fun cls d _ H => E cls d H)) F_swapped_state (hr.mono (by decide)) (by rfl) (fun σ => passAt (takes_of rfl rfl rfl rfl) σ) (pa_cons (pv 0) (pa_cons (pv 1) (pa_nil)))))))
theorem ok_play (T : TX P K mg) (F_Run_steps : FM P w K mg base 1 (He.ga K "Run") "steps" ["self"] [] (toSp K (sp_Run_steps K))) (F__state_after : FE P w K mg base 7 "_state_after" ["state", "swap", "step"] [] (toSp K (sp__state_after K)))
    (len : ∀ ds O k x, sp_play K ds O k x → ds.length = 2)
    (walk : ∀ W ds O k x, sp_play K ds O k x → (∀ p ∈ O, p.loc = false) → wpS K W (fun e _ O' => x e O') (t_play K W) (startD N_play.length ds) O { nx := fun _ O' => k .non O', rt := k }) : FE P w K mg base 8 "play" ["state", "run"] [] (toSp K (sp_play K)) := by
  refine fe_of (ts := t_play K) T.F_play T.g_play sc_play len (fun fd F => binds0 F fun _ _ _ _ _ _ us hl => match us, hl with | [_, _], _ => rfl) (fun cdv A outer s H E hr => ?_) walk
  have hu := hu_of hr
  have hu64 : (A.deeper (envOfC "play" (defScope s_play) s.heap.objs.size (He.ga K "play") cdv)).units + 64 < cLine := by have := hr.un; omega
  have hu1 : (A.deeper (envOfC "play" (defScope s_play) s.heap.objs.size (He.ga K "play") cdv)).units < cLine := by have := hr.un; omega
  unfold t_play
  exact pss_cons (ps_set (i := 2) sc_play.nd rfl (by first | exact Or.inl rfl | exact Or.inr rfl) (pv 0))
      (pss_cons (ps_for (passes_of rfl) rfl (pi_enum (by rfl) T.n_enumerate (pa_cons (pe_meth0A (E := (WE fun cls d _ H => E cls d H)) (pv 1) T.C_Run F_Run_steps (hr.mono (by decide)) (fun σ => passAt (takes_of rfl rfl rfl rfl) σ)) (pa_nil))) (pg_tup rfl (pgs_cons (pg_name (i := 3) sc_play.nd rfl (by first | exact Or.inl rfl | exact Or.inr rfl)) (pgs_cons (pg_name (i := 4) sc_play.nd rfl (by first | exact Or.inl rfl | exact Or.inr rfl)) (pgs_nil)))) (pss_one (ps_set (i := 2) sc_play.nd rfl (by first | exact Or.inl rfl | exact Or.inr rfl) (pe_fe (E := (WE fun cls d _ H => E cls d H)) F__state_after (hr.mono (by decide)) (by rfl) (fun σ => passAt (takes_of rfl rfl rfl rfl) σ) (pa_cons (pv 2) (pa_cons (pv 4) (pa_cons (pv 3) (pa_nil))))))))
      (pss_one (ps_ret (pv 2))))
theorem ok_State_position (T : TX P K mg) (F_check_replica : FE P w K mg base 2 "check_replica" ["replica"] [] (toSp K (sp_check_replica K))) (F_require_key : FE P w K mg base 2 "require_key" ["keys", "key"] [] (toSp K (sp_require_key K)))
    (len : ∀ ds O k x, sp_State_position K ds O k x → ds.length = 3)
    (walk : ∀ W ds O k x, sp_State_position K ds O k x → (∀ p ∈ O, p.loc = false) → wpS K W (fun e _ O' => x e O') (t_State_position K W) (startD N_State_position.length ds) O { nx := fun _ O' => k .non O', rt := k }) : FM P w K mg base 3 (He.ga K "State") "position" ["self", "replica", "key"] [] (toSp K (sp_State_position K)) := by
  refine fm_of (ts := t_State_position K) T.F_State_position T.M_State_position sc_State_position len (fun fd F => bindsM F fun _ _ _ _ _ _ us hl => match us, hl with | [_, _, _], _ => rfl) (fun cdv A outer s H E hr => ?_) walk
  have hu := hu_of hr
  have hu64 : (A.deeper (envOfC "State.position" (defScope s_State_position) s.heap.objs.size (He.ma K (He.ga K "State") "position") cdv)).units + 64 < cLine := by have := hr.un; omega
  have hu1 : (A.deeper (envOfC "State.position" (defScope s_State_position) s.heap.objs.size (He.ma K (He.ga K "State") "position") cdv)).units < cLine := by have := hr.un; omega
  unfold t_State_position
  exact pss_cons (ps_expr (pe_fe (E := (WE fun cls d _ H => E cls d H)) F_check_replica (hr.mono (by decide)) (by rfl) (fun σ => passAt (takes_of rfl rfl rfl rfl) σ) (pa_cons (pv 1) (pa_nil))))
      (pss_cons (ps_set (i := 3) sc_State_position.nd rfl (by first | exact Or.inl rfl | exact Or.inr rfl) (pe_ix ix_lt (pe_fld (pv 0) rfl) (pv 1) (fun _ _ => rfl)))
      (pss_cons (ps_expr (pe_fe (E := (WE fun cls d _ H => E cls d H)) F_require_key (hr.mono (by decide)) (by rfl) (fun σ => passAt (takes_of rfl rfl rfl rfl) σ) (pa_cons (pv 3) (pa_cons (pv 2) (pa_nil)))))
      (pss_one (ps_ret (pe_dget hu (pv 3) (pv 2) (fun _ _ => rfl))))))
theorem ok_project_run (T : TX P K mg) (F_Run___init__ : FM P w K mg base 1 (He.ga K "Run") "__init__" ["self", "swaps"] [] (toSp K (sp_Run___init__ K))) (F_Run_steps : FM P w K mg base 1 (He.ga K "Run") "steps" ["self"] [] (toSp K (sp_Run_steps K))) (F_State_all_keys : FM P w K mg base 1 (He.ga K "State") "all_keys" ["self"] [] (toSp K (sp_State_all_keys K))) (F_State_position : FM P w K mg base 3 (He.ga K "State") "position" ["self", "replica", "key"] [] (toSp K (sp_State_position K))) (F_play : FE P w K mg base 8 "play" ["state", "run"] [] (toSp K (sp_play K))) (F_require_key : FE P w K mg base 2 "require_key" ["keys", "key"] [] (toSp K (sp_require_key K))) (F_swapped_state : FE P w K mg base 6 "swapped_state" ["state", "swap"] [] (toSp K (sp_swapped_state K)))
    (len : ∀ ds O k x, sp_project_run K ds O k x → ds.length = 3)
    (walk : ∀ W ds O k x, sp_project_run K ds O k x → (∀ p ∈ O, p.loc = false) → wpS K W (fun e _ O' => x e O') (t_project_run K W) (startD N_project_run.length ds) O { nx := fun _ O' => k .non O', rt := k }) : FE P w K mg base 9 "project_run" ["state", "run", "key"] [] (toSp K (sp_project_run K)) := by
  refine fe_of (ts := t_project_run K) T.F_project_run T.g_project_run sc_project_run len (fun fd F => binds0 F fun _ _ _ _ _ _ us hl => match us, hl with | [_, _, _], _ => rfl) (fun cdv A outer s H E hr => ?_) walk
  have hu := hu_of hr
  have hu64 : (A.deeper (envOfC "project_run" (defScope s_project_run) s.heap.objs.size (He.ga K "project_run") cdv)).units + 64 < cLine := by have := hr.un; omega
  have hu1 : (A.deeper (envOfC "project_run" (defScope s_project_run) s.heap.objs.size (He.ga K "project_run") cdv)).units < cLine := by have := hr.un; omega
  unfold t_project_run
  exact pss_cons (ps_expr (pe_fe (E := (WE fun cls d _ H => E cls d H)) F_require_key (hr.mono (by decide)) (by rfl) (fun σ => passAt (takes_of rfl rfl rfl rfl) σ) (pa_cons (pe_meth0A (E := (WE fun cls d _ H => E cls d H)) (pv 0) T.C_State F_State_all_keys (hr.mono (by decide)) (fun σ => passAt (takes_of rfl rfl rfl rfl) σ)) (pa_cons (pv 2) (pa_nil)))))
      (pss_cons (ps_expr (pe_fe (E := (WE fun cls d _ H => E cls d H)) F_play (hr.mono (by decide)) (by rfl) (fun σ => passAt (takes_of rfl rfl rfl rfl) σ) (pa_cons (pv 0) (pa_cons (pv 1) (pa_nil)))))
      (pss_cons (ps_set (i := 3) sc_project_run.nd rfl (by first | exact Or.inl rfl | exact Or.inr rfl) (pe_lst (pa_nil)))
      (pss_cons (ps_set (i := 4) sc_project_run.nd rfl (by first | exact Or.inl rfl | exact Or.inr rfl) (pv 0))
      (pss_cons (ps_for (passes_of rfl) rfl (pi_list (pe_meth0A (E := (WE fun cls d _ H => E cls d H)) (pv 1) T.C_Run F_Run_steps (hr.mono (by decide)) (fun σ => passAt (takes_of rfl rfl rfl rfl) σ))) (pg_tup rfl (pgs_cons (pg_name (i := 5) sc_project_run.nd rfl (by first | exact Or.inl rfl | exact Or.inr rfl)) (pgs_cons (pg_name (i := 6) sc_project_run.nd rfl (by first | exact Or.inl rfl | exact Or.inr rfl)) (pgs_nil)))) (pss_cons (ps_set (i := 7) sc_project_run.nd rfl (by first | exact Or.inl rfl | exact Or.inr rfl) (pe_methA (E := (WE fun cls d _ H => E cls d H)) (pv 4) T.C_State F_State_position (hr.mono (by decide)) (fun σ => passAt (takes_of rfl rfl rfl rfl) σ) (pa_cons (pv 5) (pa_cons (pv 2) (pa_nil)))))
      (pss_cons (ps_if (pt_cmpR opA_lt (pv 7) (pv 6) (nomark _)) (pss_one (ps_expr (pe_bm PySem.F.plainAttrs_list PySem.F.slot_list_append PySem.F.type_list_append mt_append (pv 3) (pa_cons (pe_tup (pa_cons (pv 5) (pa_cons (pe_op opA_sub (pv 6) (pe_int)) (pa_nil)))) (pa_nil))))) (pss_one (ps_if (pt_cmpR opA_gt (pv 7) (pe_op opA_add (pv 6) (pe_int)) (nomark _)) (pss_one (ps_expr (pe_bm PySem.F.plainAttrs_list PySem.F.slot_list_append PySem.F.type_list_append mt_append (pv 3) (pa_cons (pe_tup (pa_cons (pv 5) (pa_cons (pv 6) (pa_nil)))) (pa_nil))))) (pss_nil))))
      (pss_one (ps_set (i := 4) sc_project_run.nd rfl (by first | exact Or.inl rfl | exact Or.inr rfl) (pe_fe (E := (WE fun cls d _ H => E cls d H)) F_swapped_state (hr.mono (by decide)) (by rfl) (fun σ => passAt (takes_of rfl rfl rfl rfl) σ) (pa_cons (pv 4) (pa_cons (pe_tup (pa_cons (pv 5) (pa_cons (pv 6) (pa_nil)))) (pa_nil)))))))))
      (pss_one (ps_ret (pe_makeA (E := (WE fun cls d _ H => E cls d H)) T.mk_Run F_Run___init__ (hr.mono (by decide)) (by rfl) T.g_Run (fun σ => passAt (takes_of rfl rfl rfl rfl) σ) (pa_cons (pv 3) (pa_nil)))))))))
theorem ok__law_cut_run (T : TX P K mg) (F_Run___add__ : FM P w K mg base 3 (He.ga K "Run") "__add__" ["self", "other"] [] (toSp K (sp_Run___add__ K))) (F_Run___init__ : FM P w K mg base 1 (He.ga K "Run") "__init__" ["self", "swaps"] [] (toSp K (sp_Run___init__ K))) (F_Run___neg__ : FM P w K mg base 3 (He.ga K "Run") "__neg__" ["self"] [] (toSp K (sp_Run___neg__ K))) (F_Run_steps : FM P w K mg base 1 (He.ga K "Run") "steps" ["self"] [] (toSp K (sp_Run_steps K))) (F__law_take : FE P w K mg base 1 "_law_take" ["_law_box_here", "_law_size"] [] (toSp K (sp__law_take K))) (F_play : FE P w K mg base 8 "play" ["state", "run"] [] (toSp K (sp_play K))) (F_project_run : FE P w K mg base 9 "project_run" ["state", "run", "key"] [] (toSp K (sp_project_run K)))
    (len : ∀ ds O k x, sp__law_cut_run K ds O k x → ds.length = 5)
    (walk : ∀ W ds O k x, sp__law_cut_run K ds O k x → (∀ p ∈ O, p.loc = false) → wpS K W (fun e _ O' => x e O') (t__law_cut_run K W) (startD N__law_cut_run.length ds) O { nx := fun _ O' => k .non O', rt := k }) : FE P w K mg base 10 "_law_cut_run" ["_law_box_here", "_law_state_here", "_law_run", "_law_steps_here", "_law_key"] [] (toSp K (sp__law_cut_run K)) := by
  refine fe_of (ts := t__law_cut_run K) T.F__law_cut_run T.g__law_cut_run sc__law_cut_run len (fun fd F => binds0 F fun _ _ _ _ _ _ us hl => match us, hl with | [_, _, _, _, _], _ => rfl) (fun cdv A outer s H E hr => ?_) walk
  have hu := hu_of hr
  have hu64 : (A.deeper (envOfC "_law_cut_run" (defScope s__law_cut_run) s.heap.objs.size (He.ga K "_law_cut_run") cdv)).units + 64 < cLine := by have := hr.un; omega
  have hu1 : (A.deeper (envOfC "_law_cut_run" (defScope s__law_cut_run) s.heap.objs.size (He.ga K "_law_cut_run") cdv)).units < cLine := by have := hr.un; omega
  unfold t__law_cut_run
  exact pss_cons (ps_set (i := 5) sc__law_cut_run.nd rfl (by first | exact Or.inl rfl | exact Or.inr rfl) (pe_fe (E := (WE fun cls d _ H => E cls d H)) F__law_take (hr.mono (by decide)) (by rfl) (fun σ => passAt (takes_of rfl rfl rfl rfl) σ) (pa_cons (pv 0) (pa_cons (pe_op opA_add (pe_callB callA_len (by rfl) T.n_len (by decide +kernel) (pa_cons (pv 3) (pa_nil))) (pe_int)) (pa_nil)))))
      (pss_cons (ps_set (i := 6) sc__law_cut_run.nd rfl (by first | exact Or.inl rfl | exact Or.inr rfl) (pe_makeA (E := (WE fun cls d _ H => E cls d H)) T.mk_Run F_Run___init__ (hr.mono (by decide)) (by rfl) T.g_Run (fun σ => passAt (takes_of rfl rfl rfl rfl) σ) (pa_cons (pe_callTy callA_list (by rfl) T.n_list (by decide +kernel) (pa_cons (pe_slice sl_list (pv 3) (po_none) (po_some (pv 5))) (pa_nil))) (pa_nil))))
      (pss_cons (ps_set (i := 7) sc__law_cut_run.nd rfl (by first | exact Or.inl rfl | exact Or.inr rfl) (pe_makeA (E := (WE fun cls d _ H => E cls d H)) T.mk_Run F_Run___init__ (hr.mono (by decide)) (by rfl) T.g_Run (fun σ => passAt (takes_of rfl rfl rfl rfl) σ) (pa_cons (pe_callTy callA_list (by rfl) T.n_list (by decide +kernel) (pa_cons (pe_slice sl_list (pv 3) (po_some (pv 5)) (po_none)) (pa_nil))) (pa_nil))))
      (pss_cons (ps_set (i := 8) sc__law_cut_run.nd rfl (by first | exact Or.inl rfl | exact Or.inr rfl) (pe_meth0A (E := (WE fun cls d _ H => E cls d H)) (pe_fe (E := (WE fun cls d _ H => E cls d H)) F_project_run (hr.mono (by decide)) (by rfl) (fun σ => passAt (takes_of rfl rfl rfl rfl) σ) (pa_cons (pv 1) (pa_cons (pv 2) (pa_cons (pv 4) (pa_nil))))) T.C_Run F_Run_steps (hr.mono (by decide)) (fun σ => passAt (takes_of rfl rfl rfl rfl) σ)))
      (pss_cons (ps_set (i := 9) sc__law_cut_run.nd rfl (by first | exact Or.inl rfl | exact Or.inr rfl) (pe_binI (E := (WE fun cls d _ H => E cls d H)) T.sf_Run rfl F_Run___add__ (hr.mono (by decide)) (fun σ => passAt (takes_of rfl rfl rfl rfl) σ) (pe_fe (E := (WE fun cls d _ H => E cls d H)) F_project_run (hr.mono (by decide)) (by rfl) (fun σ => passAt (takes_of rfl rfl rfl rfl) σ) (pa_cons (pv 1) (pa_cons (pv 6) (pa_cons (pv 4) (pa_nil))))) (pe_fe (E := (WE fun cls d _ H => E cls d H)) F_project_run (hr.mono (by decide)) (by rfl) (fun σ => passAt (takes_of rfl rfl rfl rfl) σ) (pa_cons (pe_fe (E := (WE fun cls d _ H => E cls d H)) F_play (hr.mono (by decide)) (by rfl) (fun σ => passAt (takes_of rfl rfl rfl rfl) σ) (pa_cons (pv 1) (pa_cons (pv 6) (pa_nil)))) (pa_cons (pv 7) (pa_cons (pv 4) (pa_nil)))))))
      (pss_cons (ps_set (i := 10) sc__law_cut_run.nd rfl (by first | exact Or.inl rfl | exact Or.inr rfl) (pe_fe (E := (WE fun cls d _ H => E cls d H)) F_project_run (hr.mono (by decide)) (by rfl) (fun σ => passAt (takes_of rfl rfl rfl rfl) σ) (pa_cons (pe_fe (E := (WE fun cls d _ H => E cls d H)) F_play (hr.mono (by decide)) (by rfl) (fun σ => passAt (takes_of rfl rfl rfl rfl) σ) (pa_cons (pv 1) (pa_cons (pv 2) (pa_nil)))) (pa_cons (pe_negI (E := (WE fun cls d _ H => E cls d H)) F_Run___neg__ (hr.mono (by decide)) (fun σ => passAt (takes_of rfl rfl rfl rfl) σ) (pv 2)) (pa_cons (pv 4) (pa_nil))))))
      (pss_one (ps_ret (pe_and (pe_cmpR (opA_eq hu64) (pe_meth0A (E := (WE fun cls d _ H => E cls d H)) (pv 9) T.C_Run F_Run_steps (hr.mono (by decide)) (fun σ => passAt (takes_of rfl rfl rfl rfl) σ)) (pv 8) (nomark _)) (pe_one (pe_cmpR (opA_eq hu64) (pe_meth0A (E := (WE fun cls d _ H => E cls d H)) (pv 10) T.C_Run F_Run_steps (hr.mono (by decide)) (fun σ => passAt (takes_of rfl rfl rfl rfl) σ)) (pe_revL (pv 8)) (nomark _)))))))))))
theorem ok_Run___len__ (T : TX P K mg)
    (len : ∀ ds O k x, sp_Run___len__ K ds O k x → ds.length = 1)
    (walk : ∀ W ds O k x, sp_Run___len__ K ds O k x → (∀ p ∈ O, p.loc = false) → wpS K W (fun e _ O' => x e O') (t_Run___len__ K W) (startD N_Run___len__.length ds) O { nx := fun _ O' => k .non O', rt := k }) : FM P w K mg base 1 (He.ga K "Run") "__len__" ["self"] [] (toSp K (sp_Run___len__ K)) := by
  refine fm_of (ts := t_Run___len__ K) T.F_Run___len__ T.M_Run___len__ sc_Run___len__ len (fun fd F => bindsM F fun _ _ _ _ _ _ us hl => match us, hl with | [_], _ => rfl) (fun cdv A outer s H E hr => ?_) walk
  have hu := hu_of hr
  have hu64 : (A.deeper (envOfC "Run.__len__" (defScope s_Run___len__) s.heap.objs.size (He.ma K (He.ga K "Run") "__len__") cdv)).units + 64 < cLine := by have := hr.un; omega
  have hu1 : (A.deeper (envOfC "Run.__len__" (defScope s_Run___len__) s.heap.objs.size (He.ma K (He.ga K "Run") "__len__") cdv)).units < cLine := by have := hr.un; omega
  unfold t_Run___len__
  exact pss_one (ps_ret (pe_callB callA_len (by rfl) T.n_len (by decide +kernel) (pa_cons (pe_fld (pv 0) rfl) (pa_nil))))
theorem ok_State___sub__ (T : TX P K mg) (F_State___init__ : FM P w K mg base 3 (He.ga K "State") "__init__" ["self", "first", "second", "third"] [] (toSp K (sp_State___init__ K))) (F_require_key : FE P w K mg base 2 "require_key" ["keys", "key"] [] (toSp K (sp_require_key K)))
    (len : ∀ ds O k x, sp_State___sub__ K ds O k x → ds.length = 2)
    (walk : ∀ W ds O k x, sp_State___sub__ K ds O k x → (∀ p ∈ O, p.loc = false) → wpS K W (fun e _ O' => x e O') (t_State___sub__ K W) (startD N_State___sub__.length ds) O { nx := fun _ O' => k .non O', rt := k }) : FM P w K mg base 5 (He.ga K "State") "__sub__" ["self", "key"] [] (toSp K (sp_State___sub__ K)) := by
  refine fm_of (ts := t_State___sub__ K) T.F_State___sub__ T.M_State___sub__ sc_State___sub__ len (fun fd F => bindsM F fun _ _ _ _ _ _ us hl => match us, hl with | [_, _], _ => rfl) (fun cdv A outer s H E hr => ?_) walk
  have hu := hu_of hr
  have hu64 : (A.deeper (envOfC "State.__sub__" (defScope s_State___sub__) s.heap.objs.size (He.ma K (He.ga K "State") "__sub__") cdv)).units + 64 < cLine := by have := hr.un; omega
  have hu1 : (A.deeper (envOfC "State.__sub__" (defScope s_State___sub__) s.heap.objs.size (He.ma K (He.ga K "State") "__sub__") cdv)).units < cLine := by have := hr.un; omega
  unfold t_State___sub__
  exact pss_cons (ps_expr (pe_fe (E := (WE fun cls d _ H => E cls d H)) F_require_key (hr.mono (by decide)) (by rfl) (fun σ => passAt (takes_of rfl rfl rfl rfl) σ) (pa_cons (pe_ix ix_lt (pe_fld (pv 0) rfl) (pe_int) (fun _ _ => rfl)) (pa_cons (pv 1) (pa_nil)))))
      (pss_cons (ps_asg (pe_lc (own := [("order", 5)]) (g := gName 5) (tt := tYes) rfl sc_State___sub__.nd (pi_list (pe_fld (pv 0) rfl)) (blkOk_by (N := N_State___sub__) (sc := defScope s_State___sub__) (by decide +kernel)) (fun _ _ _ _ _ => pg_name (i := 5) sc_State___sub__.nd rfl (by first | exact Or.inl rfl | exact Or.inr rfl)) (fun _ _ _ _ _ => pts_nil) (fun _ _ _ _ _ => pe_lc (own := [("other", 6)]) (g := gName 6) (tt := tTest (tOp (rNeA K) (tVar 6) (tVar 1))) rfl sc_State___sub__.nd (pi_list (pv 5)) (blkOk_in (N := N_State___sub__) (sc0 := defScope s_State___sub__) rfl (by decide +kernel)) (fun _ _ _ _ _ => pg_name (i := 6) sc_State___sub__.nd rfl (by first | exact Or.inl rfl | exact Or.inr rfl)) (fun _ _ _ _ _ => pts_one (pt_cmpR (opA_ne hu64) (pv 6) (pv 1) (nomark _))) (fun _ _ _ _ _ => pv 6))) (pg_lst rfl (pgs_cons (pg_name (i := 2) sc_State___sub__.nd rfl (by first | exact Or.inl rfl | exact Or.inr rfl)) (pgs_cons (pg_name (i := 3) sc_State___sub__.nd rfl (by first | exact Or.inl rfl | exact Or.inr rfl)) (pgs_cons (pg_name (i := 4) sc_State___sub__.nd rfl (by first | exact Or.inl rfl | exact Or.inr rfl)) (pgs_nil))))))
      (pss_one (ps_ret (pe_makeA (E := (WE fun cls d _ H => E cls d H)) T.mk_State F_State___init__ (hr.mono (by decide)) (by rfl) T.g_State (fun σ => passAt (takes_of rfl rfl rfl rfl) σ) (pa_cons (pv 2) (pa_cons (pv 3) (pa_cons (pv 4) (pa_nil))))))))
theorem ok__law_silent (T : TX P K mg)
    (len : ∀ ds O k x, sp__law_silent K ds O k x → ds.length = 3)
    (walk : ∀ W ds O k x, sp__law_silent K ds O k x → (∀ p ∈ O, p.loc = false) → wpS K W (fun e _ O' => x e O') (t__law_silent K W) (startD N__law_silent.length ds) O { nx := fun _ O' => k .non O', rt := k }) : FE P w K mg base 1 "_law_silent" ["_law_lists", "_law_h", "_law_i"] [] (toSp K (sp__law_silent K)) := by
  refine fe_of (ts := t__law_silent K) T.F__law_silent T.g__law_silent sc__law_silent len (fun fd F => binds0 F fun _ _ _ _ _ _ us hl => match us, hl with | [_, _, _], _ => rfl) (fun cdv A outer s H E hr => ?_) walk
  have hu := hu_of hr
  have hu64 : (A.deeper (envOfC "_law_silent" (defScope s__law_silent) s.heap.objs.size (He.ga K "_law_silent") cdv)).units + 64 < cLine := by have := hr.un; omega
  have hu1 : (A.deeper (envOfC "_law_silent" (defScope s__law_silent) s.heap.objs.size (He.ga K "_law_silent") cdv)).units < cLine := by have := hr.un; omega
  unfold t__law_silent
  exact pss_cons (ps_set (i := 3) sc__law_silent.nd rfl (by first | exact Or.inl rfl | exact Or.inr rfl) (pe_ix ix_lt (pe_ix ix_lt (pv 0) (pv 1) (fun _ _ => rfl)) (pv 2) (fun _ _ => rfl)))
      (pss_cons (ps_set (i := 4) sc__law_silent.nd rfl (by first | exact Or.inl rfl | exact Or.inr rfl) (pe_ix ix_lt (pe_ix ix_lt (pv 0) (pv 1) (fun _ _ => rfl)) (pe_op opA_add (pv 2) (pe_int)) (fun _ _ => rfl)))
      (pss_cons (ps_set (i := 5) sc__law_silent.nd rfl (by first | exact Or.inl rfl | exact Or.inr rfl) (pe_ix ix_lt (pv 0) (pe_op opA_mod (pe_callTy callA_int (by rfl) T.n_int (by decide +kernel) (pa_cons (pe_op opA_add (pv 1) (pe_int)) (pa_nil))) (pe_int)) (fun _ _ => rfl)))
      (pss_cons (ps_set (i := 6) sc__law_silent.nd rfl (by first | exact Or.inl rfl | exact Or.inr rfl) (pe_ix ix_lt (pv 0) (pe_op opA_mod (pe_callTy callA_int (by rfl) T.n_int (by decide +kernel) (pa_cons (pe_op opA_add (pv 1) (pe_int)) (pa_nil))) (pe_int)) (fun _ _ => rfl)))
      (pss_one (ps_ret (pe_cmpR (opA_eq hu64) (pe_cmpR opA_lt (pe_bm PySem.F.plainAttrs_list PySem.F.slot_list_index PySem.F.type_list_index mt_index (pv 5) (pa_cons (pv 3) (pa_nil))) (pe_bm PySem.F.plainAttrs_list PySem.F.slot_list_index PySem.F.type_list_index mt_index (pv 5) (pa_cons (pv 4) (pa_nil))) (nomark _)) (pe_cmpR opA_lt (pe_bm PySem.F.plainAttrs_list PySem.F.slot_list_index PySem.F.type_list_index mt_index (pv 6) (pa_cons (pv 3) (pa_nil))) (pe_bm PySem.F.plainAttrs_list PySem.F.slot_list_index PySem.F.type_list_index mt_index (pv 6) (pa_cons (pv 4) (pa_nil))) (nomark _)) (nomark _)))))))
theorem ok__law_swapped (T : TX P K mg)
    (len : ∀ ds O k x, sp__law_swapped K ds O k x → ds.length = 3)
    (walk : ∀ W ds O k x, sp__law_swapped K ds O k x → (∀ p ∈ O, p.loc = false) → wpS K W (fun e _ O' => x e O') (t__law_swapped K W) (startD N__law_swapped.length ds) O { nx := fun _ O' => k .non O', rt := k }) : FE P w K mg base 1 "_law_swapped" ["_law_lists", "_law_h", "_law_i"] [] (toSp K (sp__law_swapped K)) := by
  refine fe_of (ts := t__law_swapped K) T.F__law_swapped T.g__law_swapped sc__law_swapped len (fun fd F => binds0 F fun _ _ _ _ _ _ us hl => match us, hl with | [_, _, _], _ => rfl) (fun cdv A outer s H E hr => ?_) walk
  have hu := hu_of hr
  have hu64 : (A.deeper (envOfC "_law_swapped" (defScope s__law_swapped) s.heap.objs.size (He.ga K "_law_swapped") cdv)).units + 64 < cLine := by have := hr.un; omega
  have hu1 : (A.deeper (envOfC "_law_swapped" (defScope s__law_swapped) s.heap.objs.size (He.ga K "_law_swapped") cdv)).units < cLine := by have := hr.un; omega
  unfold t__law_swapped
  exact pss_cons (ps_setLc (i := 3) (own := [("_law_order_here", 4)]) (g := gName 4) (tt := tYes) rfl sc__law_swapped.nd rfl rfl (sw_true rfl rfl rfl (by decide +kernel)) (pi_list (pv 0)) (blkOk_by (N := N__law_swapped) (sc := defScope s__law_swapped) (by decide +kernel)) (fun _ _ _ _ _ => pg_name (i := 4) sc__law_swapped.nd rfl (by first | exact Or.inl rfl | exact Or.inr rfl)) (fun _ _ _ _ _ => pts_nil) (fun _ _ _ _ _ => pe_callTy callA_list (by rfl) T.n_list (by decide +kernel) (pa_cons (pv 4) (pa_nil))))
      (pss_cons (ps_asg (pe_op opA_add (pe_op opA_add (pe_slice sl_list (pe_ix ix_lt (pv 3) (pv 1) (fun _ _ => rfl)) (po_none) (po_some (pv 2))) (pe_lst (pa_cons (pe_ix ix_lt (pe_ix ix_lt (pv 3) (pv 1) (fun _ _ => rfl)) (pe_op opA_add (pv 2) (pe_int)) (fun _ _ => rfl)) (pa_cons (pe_ix ix_lt (pe_ix ix_lt (pv 3) (pv 1) (fun _ _ => rfl)) (pv 2) (fun _ _ => rfl)) (pa_nil))))) (pe_slice sl_list (pe_ix ix_lt (pv 3) (pv 1) (fun _ _ => rfl)) (po_some (pe_op opA_add (pv 2) (pe_int))) (po_none))) (pg_sub (pv 3) (pv 1) set_list))
      (pss_one (ps_ret (pv 3))))
theorem ok__law_pairs (T : TX P K mg) (F__law_silent : FE P w K mg base 1 "_law_silent" ["_law_lists", "_law_h", "_law_i"] [] (toSp K (sp__law_silent K))) (F__law_swapped : FE P w K mg base 1 "_law_swapped" ["_law_lists", "_law_h", "_law_i"] [] (toSp K (sp__law_swapped K)))
    (len : ∀ ds O k x, sp__law_pairs K ds O k x → ds.length = 2)
    (walk : ∀ W ds O k x, sp__law_pairs K ds O k x → (∀ p ∈ O, p.loc = false) → wpS K W (fun e _ O' => x e O') (t__law_pairs K W) (startD N__law_pairs.length ds) O { nx := fun _ O' => k .non O', rt := k }) : FE P w K mg base 2 "_law_pairs" ["_law_lists", "_law_steps_here"] [] (toSp K (sp__law_pairs K)) := by
  refine fe_of (ts := t__law_pairs K) T.F__law_pairs T.g__law_pairs sc__law_pairs len (fun fd F => binds0 F fun _ _ _ _ _ _ us hl => match us, hl with | [_, _], _ => rfl) (fun cdv A outer s H E hr => ?_) walk
  have hu := hu_of hr
  have hu64 : (A.deeper (envOfC "_law_pairs" (defScope s__law_pairs) s.heap.objs.size (He.ga K "_law_pairs") cdv)).units + 64 < cLine := by have := hr.un; omega
  have hu1 : (A.deeper (envOfC "_law_pairs" (defScope s__law_pairs) s.heap.objs.size (He.ga K "_law_pairs") cdv)).units < cLine := by have := hr.un; omega
  unfold t__law_pairs
  exact pss_cons (ps_set (i := 2) sc__law_pairs.nd rfl (by first | exact Or.inl rfl | exact Or.inr rfl) (pv 0))
      (pss_cons (ps_set (i := 3) sc__law_pairs.nd rfl (by first | exact Or.inl rfl | exact Or.inr rfl) (pe_lst (pa_nil)))
      (pss_cons (ps_for (passes_of rfl) rfl (pi_list (pv 1)) (pg_name (i := 4) sc__law_pairs.nd rfl (by first | exact Or.inl rfl | exact Or.inr rfl)) (pss_cons (ps_set (i := 5) sc__law_pairs.nd rfl (by first | exact Or.inl rfl | exact Or.inr rfl) (pe_ix ix_lt (pv 4) (pe_int) (fun _ _ => rfl)))
      (pss_cons (ps_set (i := 6) sc__law_pairs.nd rfl (by first | exact Or.inl rfl | exact Or.inr rfl) (pe_ix ix_lt (pv 4) (pe_int) (fun _ _ => rfl)))
      (pss_cons (ps_if (PW.pt (pw_or (pt_not (pt_chain opA_le opA_lt (pe_int) (pv 5) (pe_int))) (pw_or1 (pt_not (pt_chain opA_le opA_lt (pe_int) (pv 6) (pe_op opA_sub (pe_callB callA_len (by rfl) T.n_len (by decide +kernel) (pa_cons (pe_ix ix_lt (pv 2) (pe_int) (fun _ _ => rfl)) (pa_nil))) (pe_int))))))) (pss_one (ps_ret (pe_non))) (pss_nil))
      (pss_cons (ps_if (pt_not (pt_truth (pe_fe (E := (WE fun cls d _ H => E cls d H)) F__law_silent (hr.mono (by decide)) (by rfl) (fun σ => passAt (takes_of rfl rfl rfl rfl) σ) (pa_cons (pv 2) (pa_cons (pv 5) (pa_cons (pv 6) (pa_nil))))) (by intro _; rfl))) (pss_one (ps_ret (pe_non))) (pss_nil))
      (pss_cons (ps_expr (pe_bm PySem.F.plainAttrs_list PySem.F.slot_list_append PySem.F.type_list_append mt_append (pv 3) (pa_cons (pe_tup (pa_cons (pv 5) (pa_cons (pe_ix ix_lt (pe_ix ix_lt (pv 2) (pv 5) (fun _ _ => rfl)) (pv 6) (fun _ _ => rfl)) (pa_cons (pe_ix ix_lt (pe_ix ix_lt (pv 2) (pv 5) (fun _ _ => rfl)) (pe_op opA_add (pv 6) (pe_int)) (fun _ _ => rfl)) (pa_nil))))) (pa_nil))))
      (pss_one (ps_set (i := 2) sc__law_pairs.nd rfl (by first | exact Or.inl rfl | exact Or.inr rfl) (pe_fe (E := (WE fun cls d _ H => E cls d H)) F__law_swapped (hr.mono (by decide)) (by rfl) (fun σ => passAt (takes_of rfl rfl rfl rfl) σ) (pa_cons (pv 2) (pa_cons (pv 5) (pa_cons (pv 6) (pa_nil)))))))))))))
      (pss_one (ps_ret (pe_lst (pa_cons (pv 3) (pa_cons (pv 2) (pa_nil))))))))
theorem ok__law_whole (T : TX P K mg)
    (len : ∀ ds O k x, sp__law_whole K ds O k x → ds.length = 1)
    (walk : ∀ W ds O k x, sp__law_whole K ds O k x → (∀ p ∈ O, p.loc = false) → wpS K W (fun e _ O' => x e O') (t__law_whole K W) (startD N__law_whole.length ds) O { nx := fun _ O' => k .non O', rt := k }) : FE P w K mg base 1 "_law_whole" ["_law_value"] [] (toSp K (sp__law_whole K)) := by
  refine fe_of (ts := t__law_whole K) T.F__law_whole T.g__law_whole sc__law_whole len (fun fd F => binds0 F fun _ _ _ _ _ _ us hl => match us, hl with | [_], _ => rfl) (fun cdv A outer s H E hr => ?_) walk
  have hu := hu_of hr
  have hu64 : (A.deeper (envOfC "_law_whole" (defScope s__law_whole) s.heap.objs.size (He.ga K "_law_whole") cdv)).units + 64 < cLine := by have := hr.un; omega
  have hu1 : (A.deeper (envOfC "_law_whole" (defScope s__law_whole) s.heap.objs.size (He.ga K "_law_whole") cdv)).units < cLine := by have := hr.un; omega
  unfold t__law_whole
  exact pss_one (ps_ret (pe_and (pe_callB call_isi (by rfl) T.n_isinstance (by decide +kernel) (pa_cons (pv 0) (pa_cons (pe_bltn (v := .ty "int") (by rfl) T.n_int (by decide +kernel) rfl) (pa_nil)))) (pe_one (pe_not (pe_callB call_isi (by rfl) T.n_isinstance (by decide +kernel) (pa_cons (pv 0) (pa_cons (pe_bltn (v := .ty "bool") (by rfl) T.n_bool (by decide +kernel) rfl) (pa_nil))))))))
theorem ok__law_steps (T : TX P K mg) (F_Run_steps : FM P w K mg base 1 (He.ga K "Run") "steps" ["self"] [] (toSp K (sp_Run_steps K))) (F__law_whole : FE P w K mg base 1 "_law_whole" ["_law_value"] [] (toSp K (sp__law_whole K)))
    (len : ∀ ds O k x, sp__law_steps K ds O k x → ds.length = 1)
    (walk : ∀ W ds O k x, sp__law_steps K ds O k x → (∀ p ∈ O, p.loc = false) → wpS K W (fun e _ O' => x e O') (t__law_steps K W) (startD N__law_steps.length ds) O { nx := fun _ O' => k .non O', rt := k }) : FE P w K mg base 2 "_law_steps" ["_law_run"] [] (toSp K (sp__law_steps K)) := by
  refine fe_of (ts := t__law_steps K) T.F__law_steps T.g__law_steps sc__law_steps len (fun fd F => binds0 F fun _ _ _ _ _ _ us hl => match us, hl with | [_], _ => rfl) (fun cdv A outer s H E hr => ?_) walk
  have hu := hu_of hr
  have hu64 : (A.deeper (envOfC "_law_steps" (defScope s__law_steps) s.heap.objs.size (He.ga K "_law_steps") cdv)).units + 64 < cLine := by have := hr.un; omega
  have hu1 : (A.deeper (envOfC "_law_steps" (defScope s__law_steps) s.heap.objs.size (He.ga K "_law_steps") cdv)).units < cLine := by have := hr.un; omega
  unfold t__law_steps
  exact pss_cons (ps_if (pt_not (pt_truth (pe_callB (C8.call_isC T.isc_Run) (by rfl) T.n_isinstance (by decide +kernel) (pa_cons (pv 0) (pa_cons (pe_glob rfl T.g_Run rfl) (pa_nil)))) (by intro _; rfl))) (pss_one (ps_ret (pe_non))) (pss_nil))
      (pss_cons (ps_set (i := 1) sc__law_steps.nd rfl (by first | exact Or.inl rfl | exact Or.inr rfl) (pe_meth0A (E := (WE fun cls d _ H => E cls d H)) (pv 0) T.C_Run F_Run_steps (hr.mono (by decide)) (fun σ => passAt (takes_of rfl rfl rfl rfl) σ)))
      (pss_cons (ps_if (pt_not (pt_truth (pe_callB call_isi (by rfl) T.n_isinstance (by decide +kernel) (pa_cons (pv 1) (pa_cons (pe_bltn (v := .ty "list") (by rfl) T.n_list (by decide +kernel) rfl) (pa_nil)))) (by intro _; rfl))) (pss_one (ps_ret (pe_non))) (pss_nil))
      (pss_cons (ps_for (passes_of rfl) rfl (pi_list (pv 1)) (pg_name (i := 2) sc__law_steps.nd rfl (by first | exact Or.inl rfl | exact Or.inr rfl)) (pss_cons (ps_if (PW.pt (pw_or (pt_not (pt_truth (pe_callB call_isi (by rfl) T.n_isinstance (by decide +kernel) (pa_cons (pv 2) (pa_cons (pe_bltn (v := .ty "tuple") (by rfl) T.n_tuple (by decide +kernel) rfl) (pa_nil)))) (by intro _; rfl))) (pw_or1 (pt_cmpR (opA_ne hu64) (pe_callB callA_len (by rfl) T.n_len (by decide +kernel) (pa_cons (pv 2) (pa_nil))) (pe_int) (nomark _))))) (pss_one (ps_ret (pe_non))) (pss_nil))
      (pss_one (ps_if (PW.pt (pw_or (pt_not (pt_truth (pe_fe (E := (WE fun cls d _ H => E cls d H)) F__law_whole (hr.mono (by decide)) (by rfl) (fun σ => passAt (takes_of rfl rfl rfl rfl) σ) (pa_cons (pe_ix ix_lt (pv 2) (pe_int) (fun _ _ => rfl)) (pa_nil))) (by intro _; rfl))) (pw_or1 (pt_not (pt_truth (pe_fe (E := (WE fun cls d _ H => E cls d H)) F__law_whole (hr.mono (by decide)) (by rfl) (fun σ => passAt (takes_of rfl rfl rfl rfl) σ) (pa_cons (pe_ix ix_lt (pv 2) (pe_int) (fun _ _ => rfl)) (pa_nil))) (by intro _; rfl)))))) (pss_one (ps_ret (pe_non))) (pss_nil)))))
      (pss_one (ps_ret (pv 1))))))
theorem ok__law_without (T : TX P K mg)
    (len : ∀ ds O k x, sp__law_without K ds O k x → ds.length = 2)
    (walk : ∀ W ds O k x, sp__law_without K ds O k x → (∀ p ∈ O, p.loc = false) → wpS K W (fun e _ O' => x e O') (t__law_without K W) (startD N__law_without.length ds) O { nx := fun _ O' => k .non O', rt := k }) : FE P w K mg base 1 "_law_without" ["_law_lists", "_law_key"] [] (toSp K (sp__law_without K)) := by
  refine fe_of (ts := t__law_without K) T.F__law_without T.g__law_without sc__law_without len (fun fd F => binds0 F fun _ _ _ _ _ _ us hl => match us, hl with | [_, _], _ => rfl) (fun cdv A outer s H E hr => ?_) walk
  have hu := hu_of hr
  have hu64 : (A.deeper (envOfC "_law_without" (defScope s__law_without) s.heap.objs.size (He.ga K "_law_without") cdv)).units + 64 < cLine := by have := hr.un; omega
  have hu1 : (A.deeper (envOfC "_law_without" (defScope s__law_without) s.heap.objs.size (He.ga K "_law_without") cdv)).units < cLine := by have := hr.un; omega
  unfold t__law_without
  exact pss_cons (ps_set (i := 2) sc__law_without.nd rfl (by first | exact Or.inl rfl | exact Or.inr rfl) (pe_lst (pa_nil)))
      (pss_cons (ps_for (passes_of rfl) rfl (pi_list (pv 0)) (pg_name (i := 3) sc__law_without.nd rfl (by first | exact Or.inl rfl | exact Or.inr rfl)) (pss_one (ps_expr (pe_bm PySem.F.plainAttrs_list PySem.F.slot_list_append PySem.F.type_list_append mt_append (pv 2) (pa_cons (pe_lc (own := [("_law_other", 4)]) (g := gName 4) (tt := tTest (tOp (rNeA K) (tVar 4) (tVar 1))) rfl sc__law_without.nd (pi_list (pv 3)) (blkOk_by (N := N__law_without) (sc := defScope s__law_without) (by decide +kernel)) (fun _ _ _ _ _ => pg_name (i := 4) sc__law_without.nd rfl (by first | exact Or.inl rfl | exact Or.inr rfl)) (fun _ _ _ _ _ => pts_one (pt_cmpR (opA_ne hu64) (pv 4) (pv 1) (nomark _))) (fun _ _ _ _ _ => pv 4)) (pa_nil))))))
      (pss_one (ps_ret (pv 2))))
theorem ok__law_key_out (T : TX P K mg) (F_Run___len__ : FM P w K mg base 1 (He.ga K "Run") "__len__" ["self"] [] (toSp K (sp_Run___len__ K))) (F_Run_steps : FM P w K mg base 1 (He.ga K "Run") "steps" ["self"] [] (toSp K (sp_Run_steps K))) (F_State___sub__ : FM P w K mg base 5 (He.ga K "State") "__sub__" ["self", "key"] [] (toSp K (sp_State___sub__ K))) (F_State_lists : FM P w K mg base 1 (He.ga K "State") "lists" ["self"] [] (toSp K (sp_State_lists K))) (F__law_pairs : FE P w K mg base 2 "_law_pairs" ["_law_lists", "_law_steps_here"] [] (toSp K (sp__law_pairs K))) (F__law_steps : FE P w K mg base 2 "_law_steps" ["_law_run"] [] (toSp K (sp__law_steps K))) (F__law_without : FE P w K mg base 1 "_law_without" ["_law_lists", "_law_key"] [] (toSp K (sp__law_without K))) (F_play : FE P w K mg base 8 "play" ["state", "run"] [] (toSp K (sp_play K))) (F_project_run : FE P w K mg base 9 "project_run" ["state", "run", "key"] [] (toSp K (sp_project_run K)))
    (len : ∀ ds O k x, sp__law_key_out K ds O k x → ds.length = 5)
    (walk : ∀ W ds O k x, sp__law_key_out K ds O k x → (∀ p ∈ O, p.loc = false) → wpS K W (fun e _ O' => x e O') (t__law_key_out K W) (startD N__law_key_out.length ds) O { nx := fun _ O' => k .non O', rt := k }) : FE P w K mg base 10 "_law_key_out" ["_law_state_here", "_law_run", "_law_lists", "_law_steps_here", "_law_key"] [] (toSp K (sp__law_key_out K)) := by
  refine fe_of (ts := t__law_key_out K) T.F__law_key_out T.g__law_key_out sc__law_key_out len (fun fd F => binds0 F fun _ _ _ _ _ _ us hl => match us, hl with | [_, _, _, _, _], _ => rfl) (fun cdv A outer s H E hr => ?_) walk
  have hu := hu_of hr
  have hu64 : (A.deeper (envOfC "_law_key_out" (defScope s__law_key_out) s.heap.objs.size (He.ga K "_law_key_out") cdv)).units + 64 < cLine := by have := hr.un; omega
  have hu1 : (A.deeper (envOfC "_law_key_out" (defScope s__law_key_out) s.heap.objs.size (He.ga K "_law_key_out") cdv)).units < cLine := by have := hr.un; omega
  unfold t__law_key_out
  exact pss_cons (ps_set (i := 5) sc__law_key_out.nd rfl (by first | exact Or.inl rfl | exact Or.inr rfl) (pe_fe (E := (WE fun cls d _ H => E cls d H)) F__law_pairs (hr.mono (by decide)) (by rfl) (fun σ => passAt (takes_of rfl rfl rfl rfl) σ) (pa_cons (pv 2) (pa_cons (pv 3) (pa_nil)))))
      (pss_cons (ps_set (i := 6) sc__law_key_out.nd rfl (by first | exact Or.inl rfl | exact Or.inr rfl) (pe_fe (E := (WE fun cls d _ H => E cls d H)) F_project_run (hr.mono (by decide)) (by rfl) (fun σ => passAt (takes_of rfl rfl rfl rfl) σ) (pa_cons (pv 0) (pa_cons (pv 1) (pa_cons (pv 4) (pa_nil))))))
      (pss_cons (ps_set (i := 7) sc__law_key_out.nd rfl (by first | exact Or.inl rfl | exact Or.inr rfl) (pe_fe (E := (WE fun cls d _ H => E cls d H)) F__law_steps (hr.mono (by decide)) (by rfl) (fun σ => passAt (takes_of rfl rfl rfl rfl) σ) (pa_cons (pv 6) (pa_nil))))
      (pss_cons (ps_if (PW.pt (pw_or (pt_cmpR opA_isN (pv 5) (pe_non) (nomark _)) (pw_or1 (pt_cmpR opA_isN (pv 7) (pe_non) (nomark _))))) (pss_one (ps_ret (pe_bl))) (pss_nil))
      (pss_cons (ps_set (i := 8) sc__law_key_out.nd rfl (by first | exact Or.inl rfl | exact Or.inr rfl) (pe_fe (E := (WE fun cls d _ H => E cls d H)) F__law_without (hr.mono (by decide)) (by rfl) (fun σ => passAt (takes_of rfl rfl rfl rfl) σ) (pa_cons (pv 2) (pa_cons (pv 4) (pa_nil)))))
      (pss_cons (ps_set (i := 9) sc__law_key_out.nd rfl (by first | exact Or.inl rfl | exact Or.inr rfl) (pe_fe (E := (WE fun cls d _ H => E cls d H)) F__law_pairs (hr.mono (by decide)) (by rfl) (fun σ => passAt (takes_of rfl rfl rfl rfl) σ) (pa_cons (pv 8) (pa_cons (pv 7) (pa_nil)))))
      (pss_cons (ps_if (pt_cmpR opA_isN (pv 9) (pe_non) (nomark _)) (pss_one (ps_ret (pe_bl))) (pss_nil))
      (pss_cons (ps_set (i := 10) sc__law_key_out.nd rfl (by first | exact Or.inl rfl | exact Or.inr rfl) (pe_lst (pa_nil)))
      (pss_cons (ps_for (passes_of rfl) rfl (pi_list (pe_ix ix_lt (pv 5) (pe_int) (fun _ _ => rfl))) (pg_name (i := 11) sc__law_key_out.nd rfl (by first | exact Or.inl rfl | exact Or.inr rfl)) (pss_one (ps_if (PW.pt (pw_and (pt_cmpR (opA_ne hu64) (pe_ix ix_lt (pv 11) (pe_int) (fun _ _ => rfl)) (pv 4) (nomark _)) (pw_and1 (pt_cmpR (opA_ne hu64) (pe_ix ix_lt (pv 11) (pe_int) (fun _ _ => rfl)) (pv 4) (nomark _))))) (pss_one (ps_expr (pe_bm PySem.F.plainAttrs_list PySem.F.slot_list_append PySem.F.type_list_append mt_append (pv 10) (pa_cons (pv 11) (pa_nil))))) (pss_nil))))
      (pss_cons (ps_set (i := 12) sc__law_key_out.nd rfl (by first | exact Or.inl rfl | exact Or.inr rfl) (pe_fe (E := (WE fun cls d _ H => E cls d H)) F__law_without (hr.mono (by decide)) (by rfl) (fun σ => passAt (takes_of rfl rfl rfl rfl) σ) (pa_cons (pe_ix ix_lt (pv 5) (pe_int) (fun _ _ => rfl)) (pa_cons (pv 4) (pa_nil)))))
      (pss_cons (ps_if (PW.pt (pw_or (pt_cmpR (opA_ne hu64) (pe_ix ix_lt (pv 9) (pe_int) (fun _ _ => rfl)) (pv 10) (nomark _)) (pw_or1 (pt_cmpR (opA_ne hu64) (pe_ix ix_lt (pv 9) (pe_int) (fun _ _ => rfl)) (pv 12) (nomark _))))) (pss_one (ps_ret (pe_bl))) (pss_nil))
      (pss_cons (ps_set (i := 13) sc__law_key_out.nd rfl (by first | exact Or.inl rfl | exact Or.inr rfl) (pe_binN (E := (WE fun cls d _ H => E cls d H)) T.bn_State_Sub rfl F_State___sub__ (hr.mono (by decide)) (fun σ => passAt (takes_of rfl rfl rfl rfl) σ) (pv 0) (pv 4)))
      (pss_cons (ps_if (PW.pt (pw_or (pt_not (pt_truth (pe_callB (C8.call_isC T.isc_State) (by rfl) T.n_isinstance (by decide +kernel) (pa_cons (pv 13) (pa_cons (pe_glob rfl T.g_State rfl) (pa_nil)))) (by intro _; rfl))) (pw_or1 (pt_cmpR (opA_ne hu64) (pe_meth0A (E := (WE fun cls d _ H => E cls d H)) (pv 13) T.C_State F_State_lists (hr.mono (by decide)) (fun σ => passAt (takes_of rfl rfl rfl rfl) σ)) (pv 8) (nomark _))))) (pss_one (ps_ret (pe_bl))) (pss_nil))
      (pss_cons (ps_expr (pe_bm PySem.F.plainAttrs_list PySem.F.slot_list_append PySem.F.type_list_append mt_append (pv 7) (pa_cons (pe_tup (pa_cons (pe_int) (pa_cons (pe_int) (pa_nil)))) (pa_nil))))
      (pss_cons (ps_if (PW.pt (pw_or (pt_cmpR (opA_ne hu64) (pe_meth0A (E := (WE fun cls d _ H => E cls d H)) (pv 6) T.C_Run F_Run_steps (hr.mono (by decide)) (fun σ => passAt (takes_of rfl rfl rfl rfl) σ)) (pe_slice sl_list (pv 7) (po_none) (po_some (pe_un unA_neg (pe_int)))) (nomark _)) (pw_or1 (pt_cmpR (opA_ne hu64) (pe_callB (call_lenI F_Run___len__ (hr.mono (by decide))) (by rfl) T.n_len (by decide +kernel) (pa_cons (pv 6) (pa_nil))) (pe_callB callA_len (by rfl) T.n_len (by decide +kernel) (pa_cons (pv 10) (pa_nil))) (nomark _))))) (pss_one (ps_ret (pe_bl))) (pss_nil))
      (pss_one (ps_ret (pe_and (pe_cmpR (opA_eq hu64) (pe_meth0A (E := (WE fun cls d _ H => E cls d H)) (pe_fe (E := (WE fun cls d _ H => E cls d H)) F_play (hr.mono (by decide)) (by rfl) (fun σ => passAt (takes_of rfl rfl rfl rfl) σ) (pa_cons (pv 13) (pa_cons (pv 6) (pa_nil)))) T.C_State F_State_lists (hr.mono (by decide)) (fun σ => passAt (takes_of rfl rfl rfl rfl) σ)) (pv 12) (nomark _)) (pe_one (pe_cmpR (opA_eq hu64) (pe_meth0A (E := (WE fun cls d _ H => E cls d H)) (pe_binN (E := (WE fun cls d _ H => E cls d H)) T.bn_State_Sub rfl F_State___sub__ (hr.mono (by decide)) (fun σ => passAt (takes_of rfl rfl rfl rfl) σ) (pe_fe (E := (WE fun cls d _ H => E cls d H)) F_play (hr.mono (by decide)) (by rfl) (fun σ => passAt (takes_of rfl rfl rfl rfl) σ) (pa_cons (pv 0) (pa_cons (pv 1) (pa_nil)))) (pv 4)) T.C_State F_State_lists (hr.mono (by decide)) (fun σ => passAt (takes_of rfl rfl rfl rfl) σ)) (pv 12) (nomark _))))))))))))))))))))
theorem ok__law_order (T : TX P K mg) (F__law_take : FE P w K mg base 1 "_law_take" ["_law_box_here", "_law_size"] [] (toSp K (sp__law_take K)))
    (len : ∀ ds O k x, sp__law_order K ds O k x → ds.length = 2)
    (walk : ∀ W ds O k x, sp__law_order K ds O k x → (∀ p ∈ O, p.loc = false) → wpS K W (fun e _ O' => x e O') (t__law_order K W) (startD N__law_order.length ds) O { nx := fun _ O' => k .non O', rt := k }) : FE P w K mg base 2 "_law_order" ["_law_box_here", "_law_keys_here"] [] (toSp K (sp__law_order K)) := by
  refine fe_of (ts := t__law_order K) T.F__law_order T.g__law_order sc__law_order len (fun fd F => binds0 F fun _ _ _ _ _ _ us hl => match us, hl with | [_, _], _ => rfl) (fun cdv A outer s H E hr => ?_) walk
  have hu := hu_of hr
  have hu64 : (A.deeper (envOfC "_law_order" (defScope s__law_order) s.heap.objs.size (He.ga K "_law_order") cdv)).units + 64 < cLine := by have := hr.un; omega
  have hu1 : (A.deeper (envOfC "_law_order" (defScope s__law_order) s.heap.objs.size (He.ga K "_law_order") cdv)).units < cLine := by have := hr.un; omega
  unfold t__law_order
  exact pss_cons (ps_set (i := 2) sc__law_order.nd rfl (by first | exact Or.inl rfl | exact Or.inr rfl) (pe_callTy callA_list (by rfl) T.n_list (by decide +kernel) (pa_cons (pv 1) (pa_nil))))
      (pss_cons (ps_set (i := 3) sc__law_order.nd rfl (by first | exact Or.inl rfl | exact Or.inr rfl) (pe_lst (pa_nil)))
      (pss_cons (ps_for (passes_of rfl) rfl (pi_range1 (by rfl) T.n_range (pa_cons (pe_callB callA_len (by rfl) T.n_len (by decide +kernel) (pa_cons (pv 1) (pa_nil))) (pa_nil))) (pg_name (i := 4) sc__law_order.nd rfl (by first | exact Or.inl rfl | exact Or.inr rfl)) (pss_one (ps_expr (pe_bm PySem.F.plainAttrs_list PySem.F.slot_list_append PySem.F.type_list_append mt_append (pv 3) (pa_cons (pe_bm PySem.F.plainAttrs_list PySem.F.slot_list_pop PySem.F.type_list_pop mt_popAt (pv 2) (pa_cons (pe_fe (E := (WE fun cls d _ H => E cls d H)) F__law_take (hr.mono (by decide)) (by rfl) (fun σ => passAt (takes_of rfl rfl rfl rfl) σ) (pa_cons (pv 0) (pa_cons (pe_callB callA_len (by rfl) T.n_len (by decide +kernel) (pa_cons (pv 2) (pa_nil))) (pa_nil)))) (pa_nil))) (pa_nil))))))
      (pss_one (ps_ret (pv 3)))))
theorem ok__law_keys (T : TX P K mg) (F__law_order : FE P w K mg base 2 "_law_order" ["_law_box_here", "_law_keys_here"] [] (toSp K (sp__law_order K))) (F__law_take : FE P w K mg base 1 "_law_take" ["_law_box_here", "_law_size"] [] (toSp K (sp__law_take K)))
    (len : ∀ ds O k x, sp__law_keys K ds O k x → ds.length = 2)
    (walk : ∀ W ds O k x, sp__law_keys K ds O k x → (∀ p ∈ O, p.loc = false) → wpS K W (fun e _ O' => x e O') (t__law_keys K W) (startD N__law_keys.length ds) O { nx := fun _ O' => k .non O', rt := k }) : FE P w K mg base 3 "_law_keys" ["_law_box_here", "_law_count"] [] (toSp K (sp__law_keys K)) := by
  refine fe_of (ts := t__law_keys K) T.F__law_keys T.g__law_keys sc__law_keys len (fun fd F => binds0 F fun _ _ _ _ _ _ us hl => match us, hl with | [_, _], _ => rfl) (fun cdv A outer s H E hr => ?_) walk
  have hu := hu_of hr
  have hu64 : (A.deeper (envOfC "_law_keys" (defScope s__law_keys) s.heap.objs.size (He.ga K "_law_keys") cdv)).units + 64 < cLine := by have := hr.un; omega
  have hu1 : (A.deeper (envOfC "_law_keys" (defScope s__law_keys) s.heap.objs.size (He.ga K "_law_keys") cdv)).units < cLine := by have := hr.un; omega
  unfold t__law_keys
  exact pss_cons (ps_set (i := 2) sc__law_keys.nd rfl (by first | exact Or.inl rfl | exact Or.inr rfl) (pe_lst (pa_nil)))
      (pss_cons (ps_set (i := 3) sc__law_keys.nd rfl (by first | exact Or.inl rfl | exact Or.inr rfl) (pe_fe (E := (WE fun cls d _ H => E cls d H)) F__law_take (hr.mono (by decide)) (by rfl) (fun σ => passAt (takes_of rfl rfl rfl rfl) σ) (pa_cons (pv 0) (pa_cons (pe_int) (pa_nil)))))
      (pss_cons (ps_for (passes_of rfl) rfl (pi_range1 (by rfl) T.n_range (pa_cons (pv 1) (pa_nil))) (pg_name (i := 4) sc__law_keys.nd rfl (by first | exact Or.inl rfl | exact Or.inr rfl)) (pss_cons (ps_expr (pe_bm PySem.F.plainAttrs_list PySem.F.slot_list_append PySem.F.type_list_append mt_append (pv 2) (pa_cons (pv 3) (pa_nil))))
      (pss_one (ps_set (i := 3) sc__law_keys.nd rfl (by first | exact Or.inl rfl | exact Or.inr rfl) (pe_op opA_add (pe_op opA_add (pv 3) (pe_int)) (pe_op opA_mul (pe_fe (E := (WE fun cls d _ H => E cls d H)) F__law_take (hr.mono (by decide)) (by rfl) (fun σ => passAt (takes_of rfl rfl rfl rfl) σ) (pa_cons (pv 0) (pa_cons (pe_int) (pa_nil)))) (pe_fe (E := (WE fun cls d _ H => E cls d H)) F__law_take (hr.mono (by decide)) (by rfl) (fun σ => passAt (takes_of rfl rfl rfl rfl) σ) (pa_cons (pv 0) (pa_cons (pe_int) (pa_nil))))))))))
      (pss_one (ps_ret (pe_fe (E := (WE fun cls d _ H => E cls d H)) F__law_order (hr.mono (by decide)) (by rfl) (fun σ => passAt (takes_of rfl rfl rfl rfl) σ) (pa_cons (pv 0) (pa_cons (pv 2) (pa_nil))))))))
theorem ok__law_made (T : TX P K mg) (F_State___init__ : FM P w K mg base 3 (He.ga K "State") "__init__" ["self", "first", "second", "third"] [] (toSp K (sp_State___init__ K)))
    (len : ∀ ds O k x, sp__law_made K ds O k x → ds.length = 1)
    (walk : ∀ W ds O k x, sp__law_made K ds O k x → (∀ p ∈ O, p.loc = false) → wpS K W (fun e _ O' => x e O') (t__law_made K W) (startD N__law_made.length ds) O { nx := fun _ O' => k .non O', rt := k }) : FE P w K mg base 5 "_law_made" ["_law_lists"] [] (toSp K (sp__law_made K)) := by
  refine fe_of (ts := t__law_made K) T.F__law_made T.g__law_made sc__law_made len (fun fd F => binds0 F fun _ _ _ _ _ _ us hl => match us, hl with | [_], _ => rfl) (fun cdv A outer s H E hr => ?_) walk
  have hu := hu_of hr
  have hu64 : (A.deeper (envOfC "_law_made" (defScope s__law_made) s.heap.objs.size (He.ga K "_law_made") cdv)).units + 64 < cLine := by have := hr.un; omega
  have hu1 : (A.deeper (envOfC "_law_made" (defScope s__law_made) s.heap.objs.size (He.ga K "_law_made") cdv)).units < cLine := by have := hr.un; omega
  unfold t__law_made
  exact pss_one (ps_ret (pe_makeA (E := (WE fun cls d _ H => E cls d H)) T.mk_State F_State___init__ (hr.mono (by decide)) (by rfl) T.g_State (fun σ => passAt (takes_of rfl rfl rfl rfl) σ) (pa_cons (pe_callTy callA_list (by rfl) T.n_list (by decide +kernel) (pa_cons (pe_ix ix_lt (pv 0) (pe_int) (fun _ _ => rfl)) (pa_nil))) (pa_cons (pe_callTy callA_list (by rfl) T.n_list (by decide +kernel) (pa_cons (pe_ix ix_lt (pv 0) (pe_int) (fun _ _ => rfl)) (pa_nil))) (pa_cons (pe_callTy callA_list (by rfl) T.n_list (by decide +kernel) (pa_cons (pe_ix ix_lt (pv 0) (pe_int) (fun _ _ => rfl)) (pa_nil))) (pa_nil))))))
theorem ok__law_answer (T : TX P K mg) (F_project_run : FE P w K mg base 9 "project_run" ["state", "run", "key"] [] (toSp K (sp_project_run K)))
    (len : ∀ ds O k x, sp__law_answer K ds O k x → ds.length = 3)
    (walk : ∀ W ds O k x, sp__law_answer K ds O k x → (∀ p ∈ O, p.loc = false) → wpS K W (fun e _ O' => x e O') (t__law_answer K W) (startD N__law_answer.length ds) O { nx := fun _ O' => k .non O', rt := k }) : FE P w K mg base 10 "_law_answer" ["_law_state_here", "_law_run", "_law_key"] [] (toSp K (sp__law_answer K)) := by
  refine fe_of (ts := t__law_answer K) T.F__law_answer T.g__law_answer sc__law_answer len (fun fd F => binds0 F fun _ _ _ _ _ _ us hl => match us, hl with | [_, _, _], _ => rfl) (fun cdv A outer s H E hr => ?_) walk
  have hu := hu_of hr
  have hu64 : (A.deeper (envOfC "_law_answer" (defScope s__law_answer) s.heap.objs.size (He.ga K "_law_answer") cdv)).units + 64 < cLine := by have := hr.un; omega
  have hu1 : (A.deeper (envOfC "_law_answer" (defScope s__law_answer) s.heap.objs.size (He.ga K "_law_answer") cdv)).units < cLine := by have := hr.un; omega
  unfold t__law_answer
  exact pss_cons (ps_try_cls (tb := (fun W1 => tDrop (tCallSD (toSp K (sp_project_run K)) [] (WE W1) (tCons (tVar 0) (tCons (tVar 1) (tCons (tVar 2) (tNil))))))) (l := (tl__law_answer_0 K)) (Wout := fun cls d _ H => E cls d H) rfl rfl sc__law_answer.nd (takes_of rfl rfl rfl rfl) (fun W1 pn1 xe1 tk1 hp1 => pss_one (ps_expr (pe_fe (E := (WE W1)) F_project_run (hr.mono (by decide)) (by rfl) (fun σ => passAt tk1 σ) (pa_cons (pv 0) (pa_cons (pv 1) (pa_cons (pv 2) (pa_nil))))))) ((ClsOk.cons (i := 3) (ts := (fun ea ecls ed => tRet (tTup (tCons (tC (.str "unknown")) (tCons (tXf ea ecls ed (He.ga K "UnknownKey") "key" (tVar 3)) (tCons (tCB (rIsX K ea ecls ed) (tCons (tVar 3) (tCons (tC (.ref (He.ga K "DriftError"))) (tNil)))) (tNil))))))) ⟨rfl, by decide, .inl T.g_UnknownKey⟩ rfl rfl (fun ea oe ecls ed pn hz hf => pss_one (ps_ret (pe_tup (pa_cons (pe_str) (pa_cons (pe_xf T.x_UnknownKey.xf T.x_UnknownKey.no hz hf (pv 3)) (pa_cons (pe_callB (call_isX hz hf) (by rfl) T.n_isinstance (by decide +kernel) (pa_cons (pv 3) (pa_cons (pe_glob rfl T.g_DriftError rfl) (pa_nil)))) (pa_nil))))))) (ClsOk.cons (i := 3) (ts := (fun ea ecls ed => tRet (tTup (tCons (tC (.str "invalid")) (tCons (tXf ea ecls ed (He.ga K "InvalidSwap") "step" (tVar 3)) (tCons (tCB (rIsX K ea ecls ed) (tCons (tVar 3) (tCons (tC (.ref (He.ga K "DriftError"))) (tNil)))) (tNil))))))) ⟨rfl, by decide, .inl T.g_InvalidSwap⟩ rfl rfl (fun ea oe ecls ed pn hz hf => pss_one (ps_ret (pe_tup (pa_cons (pe_str) (pa_cons (pe_xf T.x_InvalidSwap.xf T.x_InvalidSwap.no hz hf (pv 3)) (pa_cons (pe_callB (call_isX hz hf) (by rfl) T.n_isinstance (by decide +kernel) (pa_cons (pv 3) (pa_cons (pe_glob rfl T.g_DriftError rfl) (pa_nil)))) (pa_nil))))))) (ClsOk.cons (i := 3) (ts := (fun ea ecls ed => tRet (tTup (tCons (tC (.str "audible")) (tCons (tXf ea ecls ed (He.ga K "AudibleSwap") "step" (tVar 3)) (tCons (tCB (rIsX K ea ecls ed) (tCons (tVar 3) (tCons (tC (.ref (He.ga K "DriftError"))) (tNil)))) (tNil))))))) ⟨rfl, by decide, .inl T.g_AudibleSwap⟩ rfl rfl (fun ea oe ecls ed pn hz hf => pss_one (ps_ret (pe_tup (pa_cons (pe_str) (pa_cons (pe_xf T.x_AudibleSwap.xf T.x_AudibleSwap.no hz hf (pv 3)) (pa_cons (pe_callB (call_isX hz hf) (by rfl) T.n_isinstance (by decide +kernel) (pa_cons (pv 3) (pa_cons (pe_glob rfl T.g_DriftError rfl) (pa_nil)))) (pa_nil))))))) .nil)))))
      (pss_one (ps_ret (pe_tup (pa_cons (pe_str) (pa_nil)))))
theorem ok__law_bad_swap (T : TX P K mg) (F__law_silent : FE P w K mg base 1 "_law_silent" ["_law_lists", "_law_h", "_law_i"] [] (toSp K (sp__law_silent K))) (F__law_take : FE P w K mg base 1 "_law_take" ["_law_box_here", "_law_size"] [] (toSp K (sp__law_take K)))
    (len : ∀ ds O k x, sp__law_bad_swap K ds O k x → ds.length = 2)
    (walk : ∀ W ds O k x, sp__law_bad_swap K ds O k x → (∀ p ∈ O, p.loc = false) → wpS K W (fun e _ O' => x e O') (t__law_bad_swap K W) (startD N__law_bad_swap.length ds) O { nx := fun _ O' => k .non O', rt := k }) : FE P w K mg base 2 "_law_bad_swap" ["_law_box_here", "_law_lists"] [] (toSp K (sp__law_bad_swap K)) := by
  refine fe_of (ts := t__law_bad_swap K) T.F__law_bad_swap T.g__law_bad_swap sc__law_bad_swap len (fun fd F => binds0 F fun _ _ _ _ _ _ us hl => match us, hl with | [_, _], _ => rfl) (fun cdv A outer s H E hr => ?_) walk
  have hu := hu_of hr
  have hu64 : (A.deeper (envOfC "_law_bad_swap" (defScope s__law_bad_swap) s.heap.objs.size (He.ga K "_law_bad_swap") cdv)).units + 64 < cLine := by have := hr.un; omega
  have hu1 : (A.deeper (envOfC "_law_bad_swap" (defScope s__law_bad_swap) s.heap.objs.size (He.ga K "_law_bad_swap") cdv)).units < cLine := by have := hr.un; omega
  unfold t__law_bad_swap
  exact pss_cons (ps_set (i := 2) sc__law_bad_swap.nd rfl (by first | exact Or.inl rfl | exact Or.inr rfl) (pe_lst (pa_nil)))
      (pss_cons (ps_set (i := 3) sc__law_bad_swap.nd rfl (by first | exact Or.inl rfl | exact Or.inr rfl) (pe_callB callA_len (by rfl) T.n_len (by decide +kernel) (pa_cons (pe_ix ix_lt (pv 1) (pe_int) (fun _ _ => rfl)) (pa_nil))))
      (pss_cons (ps_for (passes_of rfl) rfl (pi_range1 (by rfl) T.n_range (pa_cons (pe_int) (pa_nil))) (pg_name (i := 4) sc__law_bad_swap.nd rfl (by first | exact Or.inl rfl | exact Or.inr rfl)) (pss_one (ps_for (passes_of rfl) rfl (pi_range1 (by rfl) T.n_range (pa_cons (pe_op opA_sub (pv 3) (pe_int)) (pa_nil))) (pg_name (i := 6) sc__law_bad_swap.nd rfl (by first | exact Or.inl rfl | exact Or.inr rfl)) (pss_one (ps_if (pt_not (pt_truth (pe_fe (E := (WE fun cls d _ H => E cls d H)) F__law_silent (hr.mono (by decide)) (by rfl) (fun σ => passAt (takes_of rfl rfl rfl rfl) σ) (pa_cons (pv 1) (pa_cons (pv 4) (pa_cons (pv 6) (pa_nil))))) (by intro _; rfl))) (pss_one (ps_expr (pe_bm PySem.F.plainAttrs_list PySem.F.slot_list_append PySem.F.type_list_append mt_append (pv 2) (pa_cons (pe_tup (pa_cons (pv 4) (pa_cons (pv 6) (pa_nil)))) (pa_nil))))) (pss_nil))))))
      (pss_cons (ps_if (PW.pt (pw_and (pt_truth (pv 2) (by intro _; rfl)) (pw_and1 (pt_cmpR opA_gt (pe_fe (E := (WE fun cls d _ H => E cls d H)) F__law_take (hr.mono (by decide)) (by rfl) (fun σ => passAt (takes_of rfl rfl rfl rfl) σ) (pa_cons (pv 0) (pa_cons (pe_int) (pa_nil)))) (pe_int) (nomark _))))) (pss_one (ps_ret (pe_lst (pa_cons (pe_ix ix_lt (pv 2) (pe_fe (E := (WE fun cls d _ H => E cls d H)) F__law_take (hr.mono (by decide)) (by rfl) (fun σ => passAt (takes_of rfl rfl rfl rfl) σ) (pa_cons (pv 0) (pa_cons (pe_callB callA_len (by rfl) T.n_len (by decide +kernel) (pa_cons (pv 2) (pa_nil))) (pa_nil)))) (fun _ _ => rfl)) (pa_cons (pe_str) (pa_nil)))))) (pss_nil))
      (pss_cons (ps_set (i := 4) sc__law_bad_swap.nd rfl (by first | exact Or.inl rfl | exact Or.inr rfl) (pe_fe (E := (WE fun cls d _ H => E cls d H)) F__law_take (hr.mono (by decide)) (by rfl) (fun σ => passAt (takes_of rfl rfl rfl rfl) σ) (pa_cons (pv 0) (pa_cons (pe_int) (pa_nil)))))
      (pss_cons (ps_set (i := 5) sc__law_bad_swap.nd rfl (by first | exact Or.inl rfl | exact Or.inr rfl) (pe_lst (pa_cons (pe_tup (pa_cons (pe_int) (pa_cons (pe_int) (pa_nil)))) (pa_cons (pe_tup (pa_cons (pe_un unA_neg (pe_int)) (pa_cons (pe_int) (pa_nil)))) (pa_cons (pe_tup (pa_cons (pv 4) (pa_cons (pe_op opA_sub (pv 3) (pe_int)) (pa_nil)))) (pa_cons (pe_tup (pa_cons (pv 4) (pa_cons (pe_un unA_neg (pe_int)) (pa_nil)))) (pa_cons (pe_tup (pa_cons (pv 4) (pa_cons (pe_op opA_add (pv 3) (pe_int)) (pa_nil)))) (pa_nil))))))))
      (pss_one (ps_ret (pe_lst (pa_cons (pe_ix ix_lt (pv 5) (pe_fe (E := (WE fun cls d _ H => E cls d H)) F__law_take (hr.mono (by decide)) (by rfl) (fun σ => passAt (takes_of rfl rfl rfl rfl) σ) (pa_cons (pv 0) (pa_cons (pe_int) (pa_nil)))) (fun _ _ => rfl)) (pa_cons (pe_str) (pa_nil)))))))))))
theorem ok__law_played (T : TX P K mg) (F__law_swapped : FE P w K mg base 1 "_law_swapped" ["_law_lists", "_law_h", "_law_i"] [] (toSp K (sp__law_swapped K)))
    (len : ∀ ds O k x, sp__law_played K ds O k x → ds.length = 2)
    (walk : ∀ W ds O k x, sp__law_played K ds O k x → (∀ p ∈ O, p.loc = false) → wpS K W (fun e _ O' => x e O') (t__law_played K W) (startD N__law_played.length ds) O { nx := fun _ O' => k .non O', rt := k }) : FE P w K mg base 2 "_law_played" ["_law_lists", "_law_steps_here"] [] (toSp K (sp__law_played K)) := by
  refine fe_of (ts := t__law_played K) T.F__law_played T.g__law_played sc__law_played len (fun fd F => binds0 F fun _ _ _ _ _ _ us hl => match us, hl with | [_, _], _ => rfl) (fun cdv A outer s H E hr => ?_) walk
  have hu := hu_of hr
  have hu64 : (A.deeper (envOfC "_law_played" (defScope s__law_played) s.heap.objs.size (He.ga K "_law_played") cdv)).units + 64 < cLine := by have := hr.un; omega
  have hu1 : (A.deeper (envOfC "_law_played" (defScope s__law_played) s.heap.objs.size (He.ga K "_law_played") cdv)).units < cLine := by have := hr.un; omega
  unfold t__law_played
  exact pss_cons (ps_set (i := 2) sc__law_played.nd rfl (by first | exact Or.inl rfl | exact Or.inr rfl) (pv 0))
      (pss_cons (ps_for (passes_of rfl) rfl (pi_list (pv 1)) (pg_name (i := 3) sc__law_played.nd rfl (by first | exact Or.inl rfl | exact Or.inr rfl)) (pss_one (ps_set (i := 2) sc__law_played.nd rfl (by first | exact Or.inl rfl | exact Or.inr rfl) (pe_fe (E := (WE fun cls d _ H => E cls d H)) F__law_swapped (hr.mono (by decide)) (by rfl) (fun σ => passAt (takes_of rfl rfl rfl rfl) σ) (pa_cons (pv 2) (pa_cons (pe_ix ix_lt (pv 3) (pe_int) (fun _ _ => rfl)) (pa_cons (pe_ix ix_lt (pv 3) (pe_int) (fun _ _ => rfl)) (pa_nil))))))))
      (pss_one (ps_ret (pv 2))))
theorem ok__law_strange (T : TX P K mg) (F__law_take : FE P w K mg base 1 "_law_take" ["_law_box_here", "_law_size"] [] (toSp K (sp__law_take K)))
    (len : ∀ ds O k x, sp__law_strange K ds O k x → ds.length = 2)
    (walk : ∀ W ds O k x, sp__law_strange K ds O k x → (∀ p ∈ O, p.loc = false) → wpS K W (fun e _ O' => x e O') (t__law_strange K W) (startD N__law_strange.length ds) O { nx := fun _ O' => k .non O', rt := k }) : FE P w K mg base 2 "_law_strange" ["_law_box_here", "_law_keys_here"] [] (toSp K (sp__law_strange K)) := by
  refine fe_of (ts := t__law_strange K) T.F__law_strange T.g__law_strange sc__law_strange len (fun fd F => binds0 F fun _ _ _ _ _ _ us hl => match us, hl with | [_, _], _ => rfl) (fun cdv A outer s H E hr => ?_) walk
  have hu := hu_of hr
  have hu64 : (A.deeper (envOfC "_law_strange" (defScope s__law_strange) s.heap.objs.size (He.ga K "_law_strange") cdv)).units + 64 < cLine := by have := hr.un; omega
  have hu1 : (A.deeper (envOfC "_law_strange" (defScope s__law_strange) s.heap.objs.size (He.ga K "_law_strange") cdv)).units < cLine := by have := hr.un; omega
  unfold t__law_strange
  exact pss_cons (ps_set (i := 2) sc__law_strange.nd rfl (by first | exact Or.inl rfl | exact Or.inr rfl) (pe_fe (E := (WE fun cls d _ H => E cls d H)) F__law_take (hr.mono (by decide)) (by rfl) (fun σ => passAt (takes_of rfl rfl rfl rfl) σ) (pa_cons (pv 0) (pa_cons (pe_int) (pa_nil)))))
      (pss_cons (ps_for (passes_of rfl) rfl (pi_range1 (by rfl) T.n_range (pa_cons (pe_callB callA_len (by rfl) T.n_len (by decide +kernel) (pa_cons (pv 1) (pa_nil))) (pa_nil))) (pg_name (i := 3) sc__law_strange.nd rfl (by first | exact Or.inl rfl | exact Or.inr rfl)) (pss_one (ps_if (pt_cmpR op_in_seq (pv 2) (pv 1) (by rfl)) (pss_one (ps_set (i := 2) sc__law_strange.nd rfl (by first | exact Or.inl rfl | exact Or.inr rfl) (pe_op opA_add (pv 2) (pe_int)))) (pss_nil))))
      (pss_one (ps_ret (pv 2))))
theorem ok__law_refused (T : TX P K mg) (F_Run___init__ : FM P w K mg base 1 (He.ga K "Run") "__init__" ["self", "swaps"] [] (toSp K (sp_Run___init__ K))) (F__law_answer : FE P w K mg base 10 "_law_answer" ["_law_state_here", "_law_run", "_law_key"] [] (toSp K (sp__law_answer K))) (F__law_bad_swap : FE P w K mg base 2 "_law_bad_swap" ["_law_box_here", "_law_lists"] [] (toSp K (sp__law_bad_swap K))) (F__law_played : FE P w K mg base 2 "_law_played" ["_law_lists", "_law_steps_here"] [] (toSp K (sp__law_played K))) (F__law_strange : FE P w K mg base 2 "_law_strange" ["_law_box_here", "_law_keys_here"] [] (toSp K (sp__law_strange K))) (F__law_take : FE P w K mg base 1 "_law_take" ["_law_box_here", "_law_size"] [] (toSp K (sp__law_take K)))
    (len : ∀ ds O k x, sp__law_refused K ds O k x → ds.length = 6)
    (walk : ∀ W ds O k x, sp__law_refused K ds O k x → (∀ p ∈ O, p.loc = false) → wpS K W (fun e _ O' => x e O') (t__law_refused K W) (startD N__law_refused.length ds) O { nx := fun _ O' => k .non O', rt := k }) : FE P w K mg base 11 "_law_refused" ["_law_box_here", "_law_state_here", "_law_run", "_law_lists", "_law_steps_here", "_law_keys_here"] [] (toSp K (sp__law_refused K)) := by
  refine fe_of (ts := t__law_refused K) T.F__law_refused T.g__law_refused sc__law_refused len (fun fd F => binds0 F fun _ _ _ _ _ _ us hl => match us, hl with | [_, _, _, _, _, _], _ => rfl) (fun cdv A outer s H E hr => ?_) walk
  have hu := hu_of hr
  have hu64 : (A.deeper (envOfC "_law_refused" (defScope s__law_refused) s.heap.objs.size (He.ga K "_law_refused") cdv)).units + 64 < cLine := by have := hr.un; omega
  have hu1 : (A.deeper (envOfC "_law_refused" (defScope s__law_refused) s.heap.objs.size (He.ga K "_law_refused") cdv)).units < cLine := by have := hr.un; omega
  unfold t__law_refused
  exact pss_cons (ps_set (i := 6) sc__law_refused.nd rfl (by first | exact Or.inl rfl | exact Or.inr rfl) (pe_fe (E := (WE fun cls d _ H => E cls d H)) F__law_take (hr.mono (by decide)) (by rfl) (fun σ => passAt (takes_of rfl rfl rfl rfl) σ) (pa_cons (pv 0) (pa_cons (pe_op opA_add (pe_callB callA_len (by rfl) T.n_len (by decide +kernel) (pa_cons (pv 4) (pa_nil))) (pe_int)) (pa_nil)))))
      (pss_cons (ps_set (i := 7) sc__law_refused.nd rfl (by first | exact Or.inl rfl | exact Or.inr rfl) (pe_fe (E := (WE fun cls d _ H => E cls d H)) F__law_bad_swap (hr.mono (by decide)) (by rfl) (fun σ => passAt (takes_of rfl rfl rfl rfl) σ) (pa_cons (pv 0) (pa_cons (pe_fe (E := (WE fun cls d _ H => E cls d H)) F__law_played (hr.mono (by decide)) (by rfl) (fun σ => passAt (takes_of rfl rfl rfl rfl) σ) (pa_cons (pv 3) (pa_cons (pe_slice sl_list (pv 4) (po_none) (po_some (pv 6))) (pa_nil)))) (pa_nil)))))
      (pss_cons (ps_set (i := 8) sc__law_refused.nd rfl (by first | exact Or.inl rfl | exact Or.inr rfl) (pe_makeA (E := (WE fun cls d _ H => E cls d H)) T.mk_Run F_Run___init__ (hr.mono (by decide)) (by rfl) T.g_Run (fun σ => passAt (takes_of rfl rfl rfl rfl) σ) (pa_cons (pe_op opA_add (pe_op opA_add (pe_callTy callA_list (by rfl) T.n_list (by decide +kernel) (pa_cons (pe_slice sl_list (pv 4) (po_none) (po_some (pv 6))) (pa_nil))) (pe_lst (pa_cons (pe_ix ix_lt (pv 7) (pe_int) (fun _ _ => rfl)) (pa_nil)))) (pe_callTy callA_list (by rfl) T.n_list (by decide +kernel) (pa_cons (pe_slice sl_list (pv 4) (po_some (pv 6)) (po_none)) (pa_nil)))) (pa_nil))))
      (pss_cons (ps_set (i := 9) sc__law_refused.nd rfl (by first | exact Or.inl rfl | exact Or.inr rfl) (pe_fe (E := (WE fun cls d _ H => E cls d H)) F__law_strange (hr.mono (by decide)) (by rfl) (fun σ => passAt (takes_of rfl rfl rfl rfl) σ) (pa_cons (pv 0) (pa_cons (pv 5) (pa_nil)))))
      (pss_cons (ps_for (passes_of rfl) rfl (pi_list (pv 5)) (pg_name (i := 10) sc__law_refused.nd rfl (by first | exact Or.inl rfl | exact Or.inr rfl)) (pss_one (ps_if (pt_cmpR (opA_ne hu64) (pe_fe (E := (WE fun cls d _ H => E cls d H)) F__law_answer (hr.mono (by decide)) (by rfl) (fun σ => passAt (takes_of rfl rfl rfl rfl) σ) (pa_cons (pv 1) (pa_cons (pv 8) (pa_cons (pv 10) (pa_nil))))) (pe_tup (pa_cons (pe_ix ix_lt (pv 7) (pe_int) (fun _ _ => rfl)) (pa_cons (pv 6) (pa_cons (pe_bl) (pa_nil))))) (nomark _)) (pss_one (ps_ret (pe_bl))) (pss_nil))))
      (pss_cons (ps_if (pt_cmpR (opA_ne hu64) (pe_fe (E := (WE fun cls d _ H => E cls d H)) F__law_answer (hr.mono (by decide)) (by rfl) (fun σ => passAt (takes_of rfl rfl rfl rfl) σ) (pa_cons (pv 1) (pa_cons (pv 8) (pa_cons (pv 9) (pa_nil))))) (pe_tup (pa_cons (pe_str) (pa_cons (pv 9) (pa_cons (pe_bl) (pa_nil))))) (nomark _)) (pss_one (ps_ret (pe_bl))) (pss_nil))
      (pss_one (ps_ret (pe_cmpR (opA_eq hu64) (pe_fe (E := (WE fun cls d _ H => E cls d H)) F__law_answer (hr.mono (by decide)) (by rfl) (fun σ => passAt (takes_of rfl rfl rfl rfl) σ) (pa_cons (pv 1) (pa_cons (pv 2) (pa_cons (pv 9) (pa_nil))))) (pe_tup (pa_cons (pe_str) (pa_cons (pv 9) (pa_cons (pe_bl) (pa_nil))))) (nomark _)))))))))
theorem ok__law_put_in (T : TX P K mg) (F__law_take : FE P w K mg base 1 "_law_take" ["_law_box_here", "_law_size"] [] (toSp K (sp__law_take K)))
    (len : ∀ ds O k x, sp__law_put_in K ds O k x → ds.length = 3)
    (walk : ∀ W ds O k x, sp__law_put_in K ds O k x → (∀ p ∈ O, p.loc = false) → wpS K W (fun e _ O' => x e O') (t__law_put_in K W) (startD N__law_put_in.length ds) O { nx := fun _ O' => k .non O', rt := k }) : FE P w K mg base 2 "_law_put_in" ["_law_box_here", "_law_lists", "_law_key"] [] (toSp K (sp__law_put_in K)) := by
  refine fe_of (ts := t__law_put_in K) T.F__law_put_in T.g__law_put_in sc__law_put_in len (fun fd F => binds0 F fun _ _ _ _ _ _ us hl => match us, hl with | [_, _, _], _ => rfl) (fun cdv A outer s H E hr => ?_) walk
  have hu := hu_of hr
  have hu64 : (A.deeper (envOfC "_law_put_in" (defScope s__law_put_in) s.heap.objs.size (He.ga K "_law_put_in") cdv)).units + 64 < cLine := by have := hr.un; omega
  have hu1 : (A.deeper (envOfC "_law_put_in" (defScope s__law_put_in) s.heap.objs.size (He.ga K "_law_put_in") cdv)).units < cLine := by have := hr.un; omega
  unfold t__law_put_in
  exact pss_cons (ps_set (i := 3) sc__law_put_in.nd rfl (by first | exact Or.inl rfl | exact Or.inr rfl) (pe_fe (E := (WE fun cls d _ H => E cls d H)) F__law_take (hr.mono (by decide)) (by rfl) (fun σ => passAt (takes_of rfl rfl rfl rfl) σ) (pa_cons (pv 0) (pa_cons (pe_int) (pa_nil)))))
      (pss_cons (ps_set (i := 4) sc__law_put_in.nd rfl (by first | exact Or.inl rfl | exact Or.inr rfl) (pe_fe (E := (WE fun cls d _ H => E cls d H)) F__law_take (hr.mono (by decide)) (by rfl) (fun σ => passAt (takes_of rfl rfl rfl rfl) σ) (pa_cons (pv 0) (pa_cons (pe_op opA_add (pe_callB callA_len (by rfl) T.n_len (by decide +kernel) (pa_cons (pe_ix ix_lt (pv 1) (pe_int) (fun _ _ => rfl)) (pa_nil))) (pe_int)) (pa_nil)))))
      (pss_one (ps_for (passes_of rfl) rfl (pi_list (pv 1)) (pg_name (i := 5) sc__law_put_in.nd rfl (by first | exact Or.inl rfl | exact Or.inr rfl)) (pss_cons (ps_if (pt_cmpR (opA_eq hu64) (pv 3) (pe_int) (nomark _)) (pss_one (ps_set (i := 4) sc__law_put_in.nd rfl (by first | exact Or.inl rfl | exact Or.inr rfl) (pe_fe (E := (WE fun cls d _ H => E cls d H)) F__law_take (hr.mono (by decide)) (by rfl) (fun σ => passAt (takes_of rfl rfl rfl rfl) σ) (pa_cons (pv 0) (pa_cons (pe_op opA_add (pe_callB callA_len (by rfl) T.n_len (by decide +kernel) (pa_cons (pv 5) (pa_nil))) (pe_int)) (pa_nil)))))) (pss_nil))
      (pss_one (ps_expr (pe_bm PySem.F.plainAttrs_list PySem.F.slot_list_insert PySem.F.type_list_insert mtA_insert (pv 5) (pa_cons (pv 4) (pa_cons (pv 2) (pa_nil))))))))))
theorem ok__law_ways (T : TX P K mg) (F__law_silent : FE P w K mg base 1 "_law_silent" ["_law_lists", "_law_h", "_law_i"] [] (toSp K (sp__law_silent K)))
    (len : ∀ ds O k x, sp__law_ways K ds O k x → ds.length = 2)
    (walk : ∀ W ds O k x, sp__law_ways K ds O k x → (∀ p ∈ O, p.loc = false) → wpS K W (fun e _ O' => x e O') (t__law_ways K W) (startD N__law_ways.length ds) O { nx := fun _ O' => k .non O', rt := k }) : FE P w K mg base 2 "_law_ways" ["_law_lists", "_law_lot"] [] (toSp K (sp__law_ways K)) := by
  refine fe_of (ts := t__law_ways K) T.F__law_ways T.g__law_ways sc__law_ways len (fun fd F => binds0 F fun _ _ _ _ _ _ us hl => match us, hl with | [_, _], _ => rfl) (fun cdv A outer s H E hr => ?_) walk
  have hu := hu_of hr
  have hu64 : (A.deeper (envOfC "_law_ways" (defScope s__law_ways) s.heap.objs.size (He.ga K "_law_ways") cdv)).units + 64 < cLine := by have := hr.un; omega
  have hu1 : (A.deeper (envOfC "_law_ways" (defScope s__law_ways) s.heap.objs.size (He.ga K "_law_ways") cdv)).units < cLine := by have := hr.un; omega
  unfold t__law_ways
  exact pss_cons (ps_set (i := 2) sc__law_ways.nd rfl (by first | exact Or.inl rfl | exact Or.inr rfl) (pe_lst (pa_nil)))
      (pss_cons (ps_for (passes_of rfl) rfl (pi_tup (pv 1)) (pg_name (i := 3) sc__law_ways.nd rfl (by first | exact Or.inl rfl | exact Or.inr rfl)) (pss_one (ps_for (passes_of rfl) rfl (pi_range1 (by rfl) T.n_range (pa_cons (pe_op opA_sub (pe_callB callA_len (by rfl) T.n_len (by decide +kernel) (pa_cons (pe_ix ix_lt (pv 0) (pe_int) (fun _ _ => rfl)) (pa_nil))) (pe_int)) (pa_nil))) (pg_name (i := 4) sc__law_ways.nd rfl (by first | exact Or.inl rfl | exact Or.inr rfl)) (pss_one (ps_if (pt_truth (pe_fe (E := (WE fun cls d _ H => E cls d H)) F__law_silent (hr.mono (by decide)) (by rfl) (fun σ => passAt (takes_of rfl rfl rfl rfl) σ) (pa_cons (pv 0) (pa_cons (pv 3) (pa_cons (pv 4) (pa_nil))))) (by intro _; rfl)) (pss_one (ps_expr (pe_bm PySem.F.plainAttrs_list PySem.F.slot_list_append PySem.F.type_list_append mt_append (pv 2) (pa_cons (pe_tup (pa_cons (pv 3) (pa_cons (pv 4) (pa_nil)))) (pa_nil))))) (pss_nil))))))
      (pss_one (ps_ret (pv 2))))
theorem ok__law_walk (T : TX P K mg) (F__law_swapped : FE P w K mg base 1 "_law_swapped" ["_law_lists", "_law_h", "_law_i"] [] (toSp K (sp__law_swapped K))) (F__law_take : FE P w K mg base 1 "_law_take" ["_law_box_here", "_law_size"] [] (toSp K (sp__law_take K))) (F__law_ways : FE P w K mg base 2 "_law_ways" ["_law_lists", "_law_lot"] [] (toSp K (sp__law_ways K)))
    (len : ∀ ds O k x, sp__law_walk K ds O k x → ds.length = 4)
    (walk : ∀ W ds O k x, sp__law_walk K ds O k x → (∀ p ∈ O, p.loc = false) → wpS K W (fun e _ O' => x e O') (t__law_walk K W) (startD N__law_walk.length ds) O { nx := fun _ O' => k .non O', rt := k }) : FE P w K mg base 3 "_law_walk" ["_law_box_here", "_law_lists", "_law_count", "_law_lot"] [] (toSp K (sp__law_walk K)) := by
  refine fe_of (ts := t__law_walk K) T.F__law_walk T.g__law_walk sc__law_walk len (fun fd F => binds0 F fun _ _ _ _ _ _ us hl => match us, hl with | [_, _, _, _], _ => rfl) (fun cdv A outer s H E hr => ?_) walk
  have hu := hu_of hr
  have hu64 : (A.deeper (envOfC "_law_walk" (defScope s__law_walk) s.heap.objs.size (He.ga K "_law_walk") cdv)).units + 64 < cLine := by have := hr.un; omega
  have hu1 : (A.deeper (envOfC "_law_walk" (defScope s__law_walk) s.heap.objs.size (He.ga K "_law_walk") cdv)).units < cLine := by have := hr.un; omega
  unfold t__law_walk
  exact pss_cons (ps_set (i := 4) sc__law_walk.nd rfl (by first | exact Or.inl rfl | exact Or.inr rfl) (pv 1))
      (pss_cons (ps_set (i := 5) sc__law_walk.nd rfl (by first | exact Or.inl rfl | exact Or.inr rfl) (pe_lst (pa_nil)))
      (pss_cons (ps_for (passes_of rfl) rfl (pi_range1 (by rfl) T.n_range (pa_cons (pv 2) (pa_nil))) (pg_name (i := 6) sc__law_walk.nd rfl (by first | exact Or.inl rfl | exact Or.inr rfl)) (pss_cons (ps_set (i := 7) sc__law_walk.nd rfl (by first | exact Or.inl rfl | exact Or.inr rfl) (pe_fe (E := (WE fun cls d _ H => E cls d H)) F__law_ways (hr.mono (by decide)) (by rfl) (fun σ => passAt (takes_of rfl rfl rfl rfl) σ) (pa_cons (pv 4) (pa_cons (pv 3) (pa_nil)))))
      (pss_cons (ps_if (pt_not (pt_truth (pv 7) (by intro _; rfl))) (pss_one (ps_break)) (pss_nil))
      (pss_cons (ps_set (i := 8) sc__law_walk.nd rfl (by first | exact Or.inl rfl | exact Or.inr rfl) (pe_ix ix_lt (pv 7) (pe_fe (E := (WE fun cls d _ H => E cls d H)) F__law_take (hr.mono (by decide)) (by rfl) (fun σ => passAt (takes_of rfl rfl rfl rfl) σ) (pa_cons (pv 0) (pa_cons (pe_callB callA_len (by rfl) T.n_len (by decide +kernel) (pa_cons (pv 7) (pa_nil))) (pa_nil)))) (fun _ _ => rfl)))
      (pss_cons (ps_expr (pe_bm PySem.F.plainAttrs_list PySem.F.slot_list_append PySem.F.type_list_append mt_append (pv 5) (pa_cons (pv 8) (pa_nil))))
      (pss_one (ps_set (i := 4) sc__law_walk.nd rfl (by first | exact Or.inl rfl | exact Or.inr rfl) (pe_fe (E := (WE fun cls d _ H => E cls d H)) F__law_swapped (hr.mono (by decide)) (by rfl) (fun σ => passAt (takes_of rfl rfl rfl rfl) σ) (pa_cons (pv 4) (pa_cons (pe_ix ix_lt (pv 8) (pe_int) (fun _ _ => rfl)) (pa_cons (pe_ix ix_lt (pv 8) (pe_int) (fun _ _ => rfl)) (pa_nil))))))))))))
      (pss_one (ps_ret (pv 5)))))
theorem ok__law_state (T : TX P K mg) (F__law_order : FE P w K mg base 2 "_law_order" ["_law_box_here", "_law_keys_here"] [] (toSp K (sp__law_order K))) (F__law_played : FE P w K mg base 2 "_law_played" ["_law_lists", "_law_steps_here"] [] (toSp K (sp__law_played K))) (F__law_put_in : FE P w K mg base 2 "_law_put_in" ["_law_box_here", "_law_lists", "_law_key"] [] (toSp K (sp__law_put_in K))) (F__law_take : FE P w K mg base 1 "_law_take" ["_law_box_here", "_law_size"] [] (toSp K (sp__law_take K))) (F__law_walk : FE P w K mg base 3 "_law_walk" ["_law_box_here", "_law_lists", "_law_count", "_law_lot"] [] (toSp K (sp__law_walk K)))
    (len : ∀ ds O k x, sp__law_state K ds O k x → ds.length = 2)
    (walk : ∀ W ds O k x, sp__law_state K ds O k x → (∀ p ∈ O, p.loc = false) → wpS K W (fun e _ O' => x e O') (t__law_state K W) (startD N__law_state.length ds) O { nx := fun _ O' => k .non O', rt := k }) : FE P w K mg base 4 "_law_state" ["_law_box_here", "_law_keys_here"] [] (toSp K (sp__law_state K)) := by
  refine fe_of (ts := t__law_state K) T.F__law_state T.g__law_state sc__law_state len (fun fd F => binds0 F fun _ _ _ _ _ _ us hl => match us, hl with | [_, _], _ => rfl) (fun cdv A outer s H E hr => ?_) walk
  have hu := hu_of hr
  have hu64 : (A.deeper (envOfC "_law_state" (defScope s__law_state) s.heap.objs.size (He.ga K "_law_state") cdv)).units + 64 < cLine := by have := hr.un; omega
  have hu1 : (A.deeper (envOfC "_law_state" (defScope s__law_state) s.heap.objs.size (He.ga K "_law_state") cdv)).units < cLine := by have := hr.un; omega
  unfold t__law_state
  exact pss_cons (ps_set (i := 2) sc__law_state.nd rfl (by first | exact Or.inl rfl | exact Or.inr rfl) (pe_fe (E := (WE fun cls d _ H => E cls d H)) F__law_take (hr.mono (by decide)) (by rfl) (fun σ => passAt (takes_of rfl rfl rfl rfl) σ) (pa_cons (pv 0) (pa_cons (pe_int) (pa_nil)))))
      (pss_cons (ps_if (pt_cmpR (opA_eq hu64) (pv 2) (pe_int) (nomark _)) (pss_one (ps_ret (pe_lc (own := [("_law_k", 7)]) (g := gName 7) (tt := tYes) rfl sc__law_state.nd (pi_range1 (by rfl) T.n_range (pa_cons (pe_int) (pa_nil))) (blkOk_by (N := N__law_state) (sc := defScope s__law_state) (by decide +kernel)) (fun _ _ _ _ _ => pg_name (i := 7) sc__law_state.nd rfl (by first | exact Or.inl rfl | exact Or.inr rfl)) (fun _ _ _ _ _ => pts_nil) (fun _ _ _ _ _ => pe_fe (E := (fun _ => E0)) F__law_order (hr.mono (by decide)) (by rfl) (fun σ => passE σ) (pa_cons (pv 0) (pa_cons (pv 1) (pa_nil))))))) (pss_nil))
      (pss_cons (ps_set (i := 3) sc__law_state.nd rfl (by first | exact Or.inl rfl | exact Or.inr rfl) (pe_fe (E := (WE fun cls d _ H => E cls d H)) F__law_order (hr.mono (by decide)) (by rfl) (fun σ => passAt (takes_of rfl rfl rfl rfl) σ) (pa_cons (pv 0) (pa_cons (pv 1) (pa_nil)))))
      (pss_cons (ps_setLc (i := 4) (own := [("_law_k", 7)]) (g := gName 7) (tt := tYes) rfl sc__law_state.nd rfl rfl (sw_true rfl rfl rfl (by decide +kernel)) (pi_range1 (by rfl) T.n_range (pa_cons (pe_int) (pa_nil))) (blkOk_by (N := N__law_state) (sc := defScope s__law_state) (by decide +kernel)) (fun _ _ _ _ _ => pg_name (i := 7) sc__law_state.nd rfl (by first | exact Or.inl rfl | exact Or.inr rfl)) (fun _ _ _ _ _ => pts_nil) (fun _ _ _ _ _ => pe_callTy callA_list (by rfl) T.n_list (by decide +kernel) (pa_cons (pv 3) (pa_nil))))
      (pss_cons (ps_if (PW.pt (pw_and (pt_cmpR opA_gt (pv 2) (pe_int) (nomark _)) (pw_and1 (pt_cmpR opA_gt (pe_callB callA_len (by rfl) T.n_len (by decide +kernel) (pa_cons (pv 3) (pa_nil))) (pe_int) (nomark _))))) (pss_cons (ps_set (i := 4) sc__law_state.nd rfl (by first | exact Or.inl rfl | exact Or.inr rfl) (pe_lst (pa_cons (pe_slice sl_list (pv 3) (po_none) (po_some (pe_int))) (pa_cons (pe_op opA_add (pe_slice sl_list (pv 3) (po_some (pe_int)) (po_some (pe_int))) (pe_slice sl_list (pv 3) (po_none) (po_some (pe_int)))) (pa_cons (pe_op opA_add (pe_slice sl_list (pv 3) (po_some (pe_int)) (po_some (pe_int))) (pe_slice sl_list (pv 3) (po_none) (po_some (pe_int)))) (pa_nil))))))
      (pss_one (ps_for (passes_of rfl) rfl (pi_list (pe_slice sl_list (pv 3) (po_some (pe_int)) (po_none))) (pg_name (i := 6) sc__law_state.nd rfl (by first | exact Or.inl rfl | exact Or.inr rfl)) (pss_one (ps_expr (pe_fe (E := (WE fun cls d _ H => E cls d H)) F__law_put_in (hr.mono (by decide)) (by rfl) (fun σ => passAt (takes_of rfl rfl rfl rfl) σ) (pa_cons (pv 0) (pa_cons (pv 4) (pa_cons (pv 6) (pa_nil)))))))))) (pss_nil))
      (pss_cons (ps_set (i := 5) sc__law_state.nd rfl (by first | exact Or.inl rfl | exact Or.inr rfl) (pe_fe (E := (WE fun cls d _ H => E cls d H)) F__law_walk (hr.mono (by decide)) (by rfl) (fun σ => passAt (takes_of rfl rfl rfl rfl) σ) (pa_cons (pv 0) (pa_cons (pv 4) (pa_cons (pe_fe (E := (WE fun cls d _ H => E cls d H)) F__law_take (hr.mono (by decide)) (by rfl) (fun σ => passAt (takes_of rfl rfl rfl rfl) σ) (pa_cons (pv 0) (pa_cons (pe_int) (pa_nil)))) (pa_cons (pe_tup (pa_cons (pe_int) (pa_cons (pe_int) (pa_cons (pe_int) (pa_nil))))) (pa_nil)))))))
      (pss_one (ps_ret (pe_fe (E := (WE fun cls d _ H => E cls d H)) F__law_played (hr.mono (by decide)) (by rfl) (fun σ => passAt (takes_of rfl rfl rfl rfl) σ) (pa_cons (pv 4) (pa_cons (pv 5) (pa_nil)))))))))))
theorem ok__law_two_out (T : TX P K mg) (F_Run_steps : FM P w K mg base 1 (He.ga K "Run") "steps" ["self"] [] (toSp K (sp_Run_steps K))) (F_State___sub__ : FM P w K mg base 5 (He.ga K "State") "__sub__" ["self", "key"] [] (toSp K (sp_State___sub__ K))) (F__law_pairs : FE P w K mg base 2 "_law_pairs" ["_law_lists", "_law_steps_here"] [] (toSp K (sp__law_pairs K))) (F__law_steps : FE P w K mg base 2 "_law_steps" ["_law_run"] [] (toSp K (sp__law_steps K))) (F__law_without : FE P w K mg base 1 "_law_without" ["_law_lists", "_law_key"] [] (toSp K (sp__law_without K))) (F_project_run : FE P w K mg base 9 "project_run" ["state", "run", "key"] [] (toSp K (sp_project_run K)))
    (len : ∀ ds O k x, sp__law_two_out K ds O k x → ds.length = 6)
    (walk : ∀ W ds O k x, sp__law_two_out K ds O k x → (∀ p ∈ O, p.loc = false) → wpS K W (fun e _ O' => x e O') (t__law_two_out K W) (startD N__law_two_out.length ds) O { nx := fun _ O' => k .non O', rt := k }) : FE P w K mg base 10 "_law_two_out" ["_law_state_here", "_law_run", "_law_lists", "_law_steps_here", "_law_a", "_law_b"] [] (toSp K (sp__law_two_out K)) := by
  refine fe_of (ts := t__law_two_out K) T.F__law_two_out T.g__law_two_out sc__law_two_out len (fun fd F => binds0 F fun _ _ _ _ _ _ us hl => match us, hl with | [_, _, _, _, _, _], _ => rfl) (fun cdv A outer s H E hr => ?_) walk
  have hu := hu_of hr
  have hu64 : (A.deeper (envOfC "_law_two_out" (defScope s__law_two_out) s.heap.objs.size (He.ga K "_law_two_out") cdv)).units + 64 < cLine := by have := hr.un; omega
  have hu1 : (A.deeper (envOfC "_law_two_out" (defScope s__law_two_out) s.heap.objs.size (He.ga K "_law_two_out") cdv)).units < cLine := by have := hr.un; omega
  unfold t__law_two_out
  exact pss_cons (ps_set (i := 6) sc__law_two_out.nd rfl (by first | exact Or.inl rfl | exact Or.inr rfl) (pe_fe (E := (WE fun cls d _ H => E cls d H)) F_project_run (hr.mono (by decide)) (by rfl) (fun σ => passAt (takes_of rfl rfl rfl rfl) σ) (pa_cons (pe_binN (E := (WE fun cls d _ H => E cls d H)) T.bn_State_Sub rfl F_State___sub__ (hr.mono (by decide)) (fun σ => passAt (takes_of rfl rfl rfl rfl) σ) (pv 0) (pv 4)) (pa_cons (pe_fe (E := (WE fun cls d _ H => E cls d H)) F_project_run (hr.mono (by decide)) (by rfl) (fun σ => passAt (takes_of rfl rfl rfl rfl) σ) (pa_cons (pv 0) (pa_cons (pv 1) (pa_cons (pv 4) (pa_nil))))) (pa_cons (pv 5) (pa_nil))))))
      (pss_cons (ps_set (i := 7) sc__law_two_out.nd rfl (by first | exact Or.inl rfl | exact Or.inr rfl) (pe_fe (E := (WE fun cls d _ H => E cls d H)) F_project_run (hr.mono (by decide)) (by rfl) (fun σ => passAt (takes_of rfl rfl rfl rfl) σ) (pa_cons (pe_binN (E := (WE fun cls d _ H => E cls d H)) T.bn_State_Sub rfl F_State___sub__ (hr.mono (by decide)) (fun σ => passAt (takes_of rfl rfl rfl rfl) σ) (pv 0) (pv 5)) (pa_cons (pe_fe (E := (WE fun cls d _ H => E cls d H)) F_project_run (hr.mono (by decide)) (by rfl) (fun σ => passAt (takes_of rfl rfl rfl rfl) σ) (pa_cons (pv 0) (pa_cons (pv 1) (pa_cons (pv 5) (pa_nil))))) (pa_cons (pv 4) (pa_nil))))))
      (pss_cons (ps_set (i := 8) sc__law_two_out.nd rfl (by first | exact Or.inl rfl | exact Or.inr rfl) (pe_fe (E := (WE fun cls d _ H => E cls d H)) F__law_steps (hr.mono (by decide)) (by rfl) (fun σ => passAt (takes_of rfl rfl rfl rfl) σ) (pa_cons (pv 6) (pa_nil))))
      (pss_cons (ps_set (i := 9) sc__law_two_out.nd rfl (by first | exact Or.inl rfl | exact Or.inr rfl) (pe_fe (E := (WE fun cls d _ H => E cls d H)) F__law_pairs (hr.mono (by decide)) (by rfl) (fun σ => passAt (takes_of rfl rfl rfl rfl) σ) (pa_cons (pv 2) (pa_cons (pv 3) (pa_nil)))))
      (pss_cons (ps_if (PW.pt (pw_or (pt_cmpR opA_isN (pv 8) (pe_non) (nomark _)) (pw_or (pt_cmpR opA_isN (pv 9) (pe_non) (nomark _)) (pw_or1 (pt_cmpR (opA_ne hu64) (pe_meth0A (E := (WE fun cls d _ H => E cls d H)) (pv 7) T.C_Run F_Run_steps (hr.mono (by decide)) (fun σ => passAt (takes_of rfl rfl rfl rfl) σ)) (pv 8) (nomark _)))))) (pss_one (ps_ret (pe_bl))) (pss_nil))
      (pss_cons (ps_set (i := 10) sc__law_two_out.nd rfl (by first | exact Or.inl rfl | exact Or.inr rfl) (pe_fe (E := (WE fun cls d _ H => E cls d H)) F__law_pairs (hr.mono (by decide)) (by rfl) (fun σ => passAt (takes_of rfl rfl rfl rfl) σ) (pa_cons (pe_fe (E := (WE fun cls d _ H => E cls d H)) F__law_without (hr.mono (by decide)) (by rfl) (fun σ => passAt (takes_of rfl rfl rfl rfl) σ) (pa_cons (pe_fe (E := (WE fun cls d _ H => E cls d H)) F__law_without (hr.mono (by decide)) (by rfl) (fun σ => passAt (takes_of rfl rfl rfl rfl) σ) (pa_cons (pv 2) (pa_cons (pv 4) (pa_nil)))) (pa_cons (pv 5) (pa_nil)))) (pa_cons (pv 8) (pa_nil)))))
      (pss_cons (ps_if (pt_cmpR opA_isN (pv 10) (pe_non) (nomark _)) (pss_one (ps_ret (pe_bl))) (pss_nil))
      (pss_one (ps_ret (pe_cmpR (opA_eq hu64) (pe_ix ix_lt (pv 10) (pe_int) (fun _ _ => rfl)) (pe_fe (E := (WE fun cls d _ H => E cls d H)) F__law_without (hr.mono (by decide)) (by rfl) (fun σ => passAt (takes_of rfl rfl rfl rfl) σ) (pa_cons (pe_fe (E := (WE fun cls d _ H => E cls d H)) F__law_without (hr.mono (by decide)) (by rfl) (fun σ => passAt (takes_of rfl rfl rfl rfl) σ) (pa_cons (pe_ix ix_lt (pv 9) (pe_int) (fun _ _ => rfl)) (pa_cons (pv 4) (pa_nil)))) (pa_cons (pv 5) (pa_nil)))) (nomark _))))))))))
theorem ok_law (T : TX P K mg) (F_Run___init__ : FM P w K mg base 1 (He.ga K "Run") "__init__" ["self", "swaps"] [] (toSp K (sp_Run___init__ K))) (F_Run_steps : FM P w K mg base 1 (He.ga K "Run") "steps" ["self"] [] (toSp K (sp_Run_steps K))) (F_State_lists : FM P w K mg base 1 (He.ga K "State") "lists" ["self"] [] (toSp K (sp_State_lists K))) (F__law_box : FE P w K mg base 1 "_law_box" ["_law_script"] [] (toSp K (sp__law_box K))) (F__law_cut_run : FE P w K mg base 10 "_law_cut_run" ["_law_box_here", "_law_state_here", "_law_run", "_law_steps_here", "_law_key"] [] (toSp K (sp__law_cut_run K))) (F__law_key_out : FE P w K mg base 10 "_law_key_out" ["_law_state_here", "_law_run", "_law_lists", "_law_steps_here", "_law_key"] [] (toSp K (sp__law_key_out K))) (F__law_keys : FE P w K mg base 3 "_law_keys" ["_law_box_here", "_law_count"] [] (toSp K (sp__law_keys K))) (F__law_made : FE P w K mg base 5 "_law_made" ["_law_lists"] [] (toSp K (sp__law_made K))) (F__law_refused : FE P w K mg base 11 "_law_refused" ["_law_box_here", "_law_state_here", "_law_run", "_law_lists", "_law_steps_here", "_law_keys_here"] [] (toSp K (sp__law_refused K))) (F__law_state : FE P w K mg base 4 "_law_state" ["_law_box_here", "_law_keys_here"] [] (toSp K (sp__law_state K))) (F__law_take : FE P w K mg base 1 "_law_take" ["_law_box_here", "_law_size"] [] (toSp K (sp__law_take K))) (F__law_two_out : FE P w K mg base 10 "_law_two_out" ["_law_state_here", "_law_run", "_law_lists", "_law_steps_here", "_law_a", "_law_b"] [] (toSp K (sp__law_two_out K))) (F__law_walk : FE P w K mg base 3 "_law_walk" ["_law_box_here", "_law_lists", "_law_count", "_law_lot"] [] (toSp K (sp__law_walk K)))
    (len : ∀ ds O k x, sp_law_v2 K ds O k x → ds.length = 1)
    (walk : ∀ W ds O k x, sp_law_v2 K ds O k x → (∀ p ∈ O, p.loc = false) → wpS K W (fun e _ O' => x e O') (t_law_v2 K W) (startD N_law_v2.length ds) O { nx := fun _ O' => k .non O', rt := k }) {fd : FuncData} (F : FunD K "law" "law" (defArgs s_law) (defBody s_law) (defScope s_law) [] [] (He.ga K "law") fd) : FnOk P w K mg base (L2.CX P w) 12 (He.ga K "law") fd ["_law_script"] (toSp K (sp_law_v2 K)) := by
  refine fn_ofL (ts := t_law_v2 K) F sc_law len (fun cdv A outer s H E hr => ?_) walk
  have hu := hu_of hr
  have hu64 : (A.deeper (envOfC "law" (defScope s_law) s.heap.objs.size (He.ga K "law") cdv)).units + 64 < cLine := by have := hr.un; omega
  have hu1 : (A.deeper (envOfC "law" (defScope s_law) s.heap.objs.size (He.ga K "law") cdv)).units < cLine := by have := hr.un; omega
  unfold t_law_v2
  exact pss_cons (ps_set (i := 1) sc_law.nd rfl (by first | exact Or.inl rfl | exact Or.inr rfl) (pe_fe (E := (WE fun cls d _ H => E cls d H)) F__law_box (hr.mono (by decide)) (by rfl) (fun σ => passAt (takes_of rfl rfl rfl rfl) σ) (pa_cons (pv 0) (pa_nil))))
      (pss_cons (ps_set (i := 2) sc_law.nd rfl (by first | exact Or.inl rfl | exact Or.inr rfl) (pe_op opA_add (pe_int) (pe_fe (E := (WE fun cls d _ H => E cls d H)) F__law_take (hr.mono (by decide)) (by rfl) (fun σ => passAt (takes_of rfl rfl rfl rfl) σ) (pa_cons (pv 1) (pa_cons (pe_int) (pa_nil))))))
      (pss_cons (ps_if (pt_cmpR (opA_eq hu64) (pe_fe (E := (WE fun cls d _ H => E cls d H)) F__law_take (hr.mono (by decide)) (by rfl) (fun σ => passAt (takes_of rfl rfl rfl rfl) σ) (pa_cons (pv 1) (pa_cons (pe_int) (pa_nil)))) (pe_int) (nomark _)) (pss_one (ps_set (i := 2) sc_law.nd rfl (by first | exact Or.inl rfl | exact Or.inr rfl) (pe_op opA_add (pe_int) (pe_fe (E := (WE fun cls d _ H => E cls d H)) F__law_take (hr.mono (by decide)) (by rfl) (fun σ => passAt (takes_of rfl rfl rfl rfl) σ) (pa_cons (pv 1) (pa_cons (pe_int) (pa_nil))))))) (pss_nil))
      (pss_cons (ps_set (i := 3) sc_law.nd rfl (by first | exact Or.inl rfl | exact Or.inr rfl) (pe_fe (E := (WE fun cls d _ H => E cls d H)) F__law_keys (hr.mono (by decide)) (by rfl) (fun σ => passAt (takes_of rfl rfl rfl rfl) σ) (pa_cons (pv 1) (pa_cons (pv 2) (pa_nil)))))
      (pss_cons (ps_set (i := 4) sc_law.nd rfl (by first | exact Or.inl rfl | exact Or.inr rfl) (pe_fe (E := (WE fun cls d _ H => E cls d H)) F__law_state (hr.mono (by decide)) (by rfl) (fun σ => passAt (takes_of rfl rfl rfl rfl) σ) (pa_cons (pv 1) (pa_cons (pv 3) (pa_nil)))))
      (pss_cons (ps_set (i := 5) sc_law.nd rfl (by first | exact Or.inl rfl | exact Or.inr rfl) (pe_fe (E := (WE fun cls d _ H => E cls d H)) F__law_walk (hr.mono (by decide)) (by rfl) (fun σ => passAt (takes_of rfl rfl rfl rfl) σ) (pa_cons (pv 1) (pa_cons (pv 4) (pa_cons (pe_fe (E := (WE fun cls d _ H => E cls d H)) F__law_take (hr.mono (by decide)) (by rfl) (fun σ => passAt (takes_of rfl rfl rfl rfl) σ) (pa_cons (pv 1) (pa_cons (pe_int) (pa_nil)))) (pa_cons (pe_tup (pa_cons (pe_int) (pa_cons (pe_int) (pa_cons (pe_int) (pa_nil))))) (pa_nil)))))))
      (pss_cons (ps_set (i := 6) sc_law.nd rfl (by first | exact Or.inl rfl | exact Or.inr rfl) (pe_fe (E := (WE fun cls d _ H => E cls d H)) F__law_made (hr.mono (by decide)) (by rfl) (fun σ => passAt (takes_of rfl rfl rfl rfl) σ) (pa_cons (pv 4) (pa_nil))))
      (pss_cons (ps_set (i := 7) sc_law.nd rfl (by first | exact Or.inl rfl | exact Or.inr rfl) (pe_makeA (E := (WE fun cls d _ H => E cls d H)) T.mk_Run F_Run___init__ (hr.mono (by decide)) (by rfl) T.g_Run (fun σ => passAt (takes_of rfl rfl rfl rfl) σ) (pa_cons (pe_callTy callA_list (by rfl) T.n_list (by decide +kernel) (pa_cons (pv 5) (pa_nil))) (pa_nil))))
      (pss_cons (ps_for (passes_of rfl) rfl (pi_list (pv 3)) (pg_name (i := 8) sc_law.nd rfl (by first | exact Or.inl rfl | exact Or.inr rfl)) (pss_one (ps_if (pt_not (pt_truth (pe_fe (E := (WE fun cls d _ H => E cls d H)) F__law_key_out (hr.mono (by decide)) (by rfl) (fun σ => passAt (takes_of rfl rfl rfl rfl) σ) (pa_cons (pv 6) (pa_cons (pv 7) (pa_cons (pv 4) (pa_cons (pv 5) (pa_cons (pv 8) (pa_nil))))))) (by intro _; rfl))) (pss_one (ps_ret (pe_bl))) (pss_nil))))
      (pss_cons (ps_if (pt_not (pt_truth (pe_fe (E := (WE fun cls d _ H => E cls d H)) F__law_cut_run (hr.mono (by decide)) (by rfl) (fun σ => passAt (takes_of rfl rfl rfl rfl) σ) (pa_cons (pv 1) (pa_cons (pv 6) (pa_cons (pv 7) (pa_cons (pv 5) (pa_cons (pe_ix ix_lt (pv 3) (pe_fe (E := (WE fun cls d _ H => E cls d H)) F__law_take (hr.mono (by decide)) (by rfl) (fun σ => passAt (takes_of rfl rfl rfl rfl) σ) (pa_cons (pv 1) (pa_cons (pv 2) (pa_nil)))) (fun _ _ => rfl)) (pa_nil))))))) (by intro _; rfl))) (pss_one (ps_ret (pe_bl))) (pss_nil))
      (pss_cons (ps_if (PW.pt (pw_and (pt_cmpR opA_gt (pv 2) (pe_int) (nomark _)) (pw_and1 (pt_not (pt_truth (pe_fe (E := (WE fun cls d _ H => E cls d H)) F__law_two_out (hr.mono (by decide)) (by rfl) (fun σ => passAt (takes_of rfl rfl rfl rfl) σ) (pa_cons (pv 6) (pa_cons (pv 7) (pa_cons (pv 4) (pa_cons (pv 5) (pa_cons (pe_ix ix_lt (pv 3) (pe_int) (fun _ _ => rfl)) (pa_cons (pe_ix ix_lt (pv 3) (pe_int) (fun _ _ => rfl)) (pa_nil)))))))) (by intro _; rfl)))))) (pss_one (ps_ret (pe_bl))) (pss_nil))
      (pss_cons (ps_if (pt_not (pt_truth (pe_fe (E := (WE fun cls d _ H => E cls d H)) F__law_refused (hr.mono (by decide)) (by rfl) (fun σ => passAt (takes_of rfl rfl rfl rfl) σ) (pa_cons (pv 1) (pa_cons (pv 6) (pa_cons (pv 7) (pa_cons (pv 4) (pa_cons (pv 5) (pa_cons (pv 3) (pa_nil)))))))) (by intro _; rfl))) (pss_one (ps_ret (pe_bl))) (pss_nil))
      (pss_one (ps_ret (pe_and (pe_cmpR (opA_eq hu64) (pe_meth0A (E := (WE fun cls d _ H => E cls d H)) (pv 6) T.C_State F_State_lists (hr.mono (by decide)) (fun σ => passAt (takes_of rfl rfl rfl rfl) σ)) (pv 4) (nomark _)) (pe_one (pe_cmpR (opA_eq hu64) (pe_meth0A (E := (WE fun cls d _ H => E cls d H)) (pv 7) T.C_Run F_Run_steps (hr.mono (by decide)) (fun σ => passAt (takes_of rfl rfl rfl rfl) σ)) (pv 5) (nomark _)))))))))))))))))
end
end K53
namespace K53
open PySem PySem.Spec L2 PyD PyT PyE PyH PyI PyC PyProof.Rows Q
theorem okL {P : Program} {w : World} {K : PySem.W.Frag} {mg : Str → Option Value} {base : Heap} (T : TX P K mg) {fd : FuncData} (F : FunD K "law" "law" (defArgs s_law) (defBody s_law) (defScope s_law) [] [] (He.ga K "law") fd) :
    FnOk P w K mg base (L2.CX P w) 12 (He.ga K "law") fd ["_law_script"] (toSp K (sp_law_v2 K)) := by
  have F_Run___init__ : FM P w K mg base 1 (He.ga K "Run") "__init__" ["self", "swaps"] [] (toSp K (sp_Run___init__ K)) := ok_Run___init__ T (fun ds O k x h => by first | (obtain ⟨_, ⟨rfl, rfl⟩, _⟩ := h; rfl) | (obtain ⟨_, _, ⟨rfl, rfl⟩, _⟩ := h; rfl) | (obtain ⟨_, _, _, ⟨rfl, rfl⟩, _⟩ := h; rfl) | (obtain ⟨_, _, _, _, ⟨rfl, rfl⟩, _⟩ := h; rfl) | (obtain ⟨_, _, _, _, _, ⟨rfl, rfl⟩, _⟩ := h; rfl) | (obtain ⟨_, _, _, _, _, _, ⟨rfl, rfl⟩, _⟩ := h; rfl) | (obtain ⟨_, _, _, _, _, _, _, ⟨rfl, rfl⟩, _⟩ := h; rfl) | (obtain ⟨_, _, _, _, _, _, _, _, ⟨rfl, rfl⟩, _⟩ := h; rfl) | (obtain ⟨_, _, _, _, _, _, _, _, _, ⟨rfl, rfl⟩, _⟩ := h; rfl) | (obtain ⟨_, _, _, _, _, _, _, _, _, _, ⟨rfl, rfl⟩, _⟩ := h; rfl) | (obtain ⟨_, _, _, _, _, _, _, _, _, _, _, ⟨rfl, rfl⟩, _⟩ := h; rfl) | (obtain ⟨_, _, _, _, _, _, _, _, _, _, _, _, ⟨rfl, rfl⟩, _⟩ := h; rfl) | (obtain ⟨_, _, _, _, _, _, _, _, _, _, _, _, _, ⟨rfl, rfl⟩, _⟩ := h; rfl)) (fun W ds O k x h lo => Q.w_Run___init__ ⟨T.C_Run, T.na_Run__swaps⟩ h lo)
  have F_Run_steps : FM P w K mg base 1 (He.ga K "Run") "steps" ["self"] [] (toSp K (sp_Run_steps K)) := ok_Run_steps T (fun ds O k x h => by first | (obtain ⟨_, ⟨rfl, rfl⟩, _⟩ := h; rfl) | (obtain ⟨_, _, ⟨rfl, rfl⟩, _⟩ := h; rfl) | (obtain ⟨_, _, _, ⟨rfl, rfl⟩, _⟩ := h; rfl) | (obtain ⟨_, _, _, _, ⟨rfl, rfl⟩, _⟩ := h; rfl) | (obtain ⟨_, _, _, _, _, ⟨rfl, rfl⟩, _⟩ := h; rfl) | (obtain ⟨_, _, _, _, _, _, ⟨rfl, rfl⟩, _⟩ := h; rfl) | (obtain ⟨_, _, _, _, _, _, _, ⟨rfl, rfl⟩, _⟩ := h; rfl) | (obtain ⟨_, _, _, _, _, _, _, _, ⟨rfl, rfl⟩, _⟩ := h; rfl) | (obtain ⟨_, _, _, _, _, _, _, _, _, ⟨rfl, rfl⟩, _⟩ := h; rfl) | (obtain ⟨_, _, _, _, _, _, _, _, _, _, ⟨rfl, rfl⟩, _⟩ := h; rfl) | (obtain ⟨_, _, _, _, _, _, _, _, _, _, _, ⟨rfl, rfl⟩, _⟩ := h; rfl) | (obtain ⟨_, _, _, _, _, _, _, _, _, _, _, _, ⟨rfl, rfl⟩, _⟩ := h; rfl) | (obtain ⟨_, _, _, _, _, _, _, _, _, _, _, _, _, ⟨rfl, rfl⟩, _⟩ := h; rfl)) (fun W ds O k x h lo => Q.w_Run_steps ⟨T.C_Run, T.na_Run__swaps⟩ h lo)
  have F_State_lists : FM P w K mg base 1 (He.ga K "State") "lists" ["self"] [] (toSp K (sp_State_lists K)) := ok_State_lists T (fun ds O k x h => by first | (obtain ⟨_, ⟨rfl, rfl⟩, _⟩ := h; rfl) | (obtain ⟨_, _, ⟨rfl, rfl⟩, _⟩ := h; rfl) | (obtain ⟨_, _, _, ⟨rfl, rfl⟩, _⟩ := h; rfl) | (obtain ⟨_, _, _, _, ⟨rfl, rfl⟩, _⟩ := h; rfl) | (obtain ⟨_, _, _, _, _, ⟨rfl, rfl⟩, _⟩ := h; rfl) | (obtain ⟨_, _, _, _, _, _, ⟨rfl, rfl⟩, _⟩ := h; rfl) | (obtain ⟨_, _, _, _, _, _, _, ⟨rfl, rfl⟩, _⟩ := h; rfl) | (obtain ⟨_, _, _, _, _, _, _, _, ⟨rfl, rfl⟩, _⟩ := h; rfl) | (obtain ⟨_, _, _, _, _, _, _, _, _, ⟨rfl, rfl⟩, _⟩ := h; rfl) | (obtain ⟨_, _, _, _, _, _, _, _, _, _, ⟨rfl, rfl⟩, _⟩ := h; rfl) | (obtain ⟨_, _, _, _, _, _, _, _, _, _, _, ⟨rfl, rfl⟩, _⟩ := h; rfl) | (obtain ⟨_, _, _, _, _, _, _, _, _, _, _, _, ⟨rfl, rfl⟩, _⟩ := h; rfl) | (obtain ⟨_, _, _, _, _, _, _, _, _, _, _, _, _, ⟨rfl, rfl⟩, _⟩ := h; rfl)) (fun W ds O k x h lo => Q.w_State_lists ⟨T.C_State, T.na_State__lists⟩ h lo)
  have F__law_box : FE P w K mg base 1 "_law_box" ["_law_script"] [] (toSp K (sp__law_box K)) := ok__law_box T (fun ds O k x h => by first | (obtain ⟨_, ⟨rfl, rfl⟩, _⟩ := h; rfl) | (obtain ⟨_, _, ⟨rfl, rfl⟩, _⟩ := h; rfl) | (obtain ⟨_, _, _, ⟨rfl, rfl⟩, _⟩ := h; rfl) | (obtain ⟨_, _, _, _, ⟨rfl, rfl⟩, _⟩ := h; rfl) | (obtain ⟨_, _, _, _, _, ⟨rfl, rfl⟩, _⟩ := h; rfl) | (obtain ⟨_, _, _, _, _, _, ⟨rfl, rfl⟩, _⟩ := h; rfl) | (obtain ⟨_, _, _, _, _, _, _, ⟨rfl, rfl⟩, _⟩ := h; rfl) | (obtain ⟨_, _, _, _, _, _, _, _, ⟨rfl, rfl⟩, _⟩ := h; rfl) | (obtain ⟨_, _, _, _, _, _, _, _, _, ⟨rfl, rfl⟩, _⟩ := h; rfl) | (obtain ⟨_, _, _, _, _, _, _, _, _, _, ⟨rfl, rfl⟩, _⟩ := h; rfl) | (obtain ⟨_, _, _, _, _, _, _, _, _, _, _, ⟨rfl, rfl⟩, _⟩ := h; rfl) | (obtain ⟨_, _, _, _, _, _, _, _, _, _, _, _, ⟨rfl, rfl⟩, _⟩ := h; rfl) | (obtain ⟨_, _, _, _, _, _, _, _, _, _, _, _, _, ⟨rfl, rfl⟩, _⟩ := h; rfl)) (fun W ds O k x h lo => Q.w__law_box h lo)
  have F_Run___add__ : FM P w K mg base 3 (He.ga K "Run") "__add__" ["self", "other"] [] (toSp K (sp_Run___add__ K)) := ok_Run___add__ T F_Run___init__ (fun ds O k x h => by first | (obtain ⟨_, ⟨rfl, rfl⟩, _⟩ := h; rfl) | (obtain ⟨_, _, ⟨rfl, rfl⟩, _⟩ := h; rfl) | (obtain ⟨_, _, _, ⟨rfl, rfl⟩, _⟩ := h; rfl) | (obtain ⟨_, _, _, _, ⟨rfl, rfl⟩, _⟩ := h; rfl) | (obtain ⟨_, _, _, _, _, ⟨rfl, rfl⟩, _⟩ := h; rfl) | (obtain ⟨_, _, _, _, _, _, ⟨rfl, rfl⟩, _⟩ := h; rfl) | (obtain ⟨_, _, _, _, _, _, _, ⟨rfl, rfl⟩, _⟩ := h; rfl) | (obtain ⟨_, _, _, _, _, _, _, _, ⟨rfl, rfl⟩, _⟩ := h; rfl) | (obtain ⟨_, _, _, _, _, _, _, _, _, ⟨rfl, rfl⟩, _⟩ := h; rfl) | (obtain ⟨_, _, _, _, _, _, _, _, _, _, ⟨rfl, rfl⟩, _⟩ := h; rfl) | (obtain ⟨_, _, _, _, _, _, _, _, _, _, _, ⟨rfl, rfl⟩, _⟩ := h; rfl) | (obtain ⟨_, _, _, _, _, _, _, _, _, _, _, _, ⟨rfl, rfl⟩, _⟩ := h; rfl) | (obtain ⟨_, _, _, _, _, _, _, _, _, _, _, _, _, ⟨rfl, rfl⟩, _⟩ := h; rfl)) (fun W ds O k x h lo => Q.w_Run___add__ ⟨T.C_Run, T.na_Run__swaps⟩ h lo)
  have F_Run___neg__ : FM P w K mg base 3 (He.ga K "Run") "__neg__" ["self"] [] (toSp K (sp_Run___neg__ K)) := ok_Run___neg__ T F_Run___init__ (fun ds O k x h => by first | (obtain ⟨_, ⟨rfl, rfl⟩, _⟩ := h; rfl) | (obtain ⟨_, _, ⟨rfl, rfl⟩, _⟩ := h; rfl) | (obtain ⟨_, _, _, ⟨rfl, rfl⟩, _⟩ := h; rfl) | (obtain ⟨_, _, _, _, ⟨rfl, rfl⟩, _⟩ := h; rfl) | (obtain ⟨_, _, _, _, _, ⟨rfl, rfl⟩, _⟩ := h; rfl) | (obtain ⟨_, _, _, _, _, _, ⟨rfl, rfl⟩, _⟩ := h; rfl) | (obtain ⟨_, _, _, _, _, _, _, ⟨rfl, rfl⟩, _⟩ := h; rfl) | (obtain ⟨_, _, _, _, _, _, _, _, ⟨rfl, rfl⟩, _⟩ := h; rfl) | (obtain ⟨_, _, _, _, _, _, _, _, _, ⟨rfl, rfl⟩, _⟩ := h; rfl) | (obtain ⟨_, _, _, _, _, _, _, _, _, _, ⟨rfl, rfl⟩, _⟩ := h; rfl) | (obtain ⟨_, _, _, _, _, _, _, _, _, _, _, ⟨rfl, rfl⟩, _⟩ := h; rfl) | (obtain ⟨_, _, _, _, _, _, _, _, _, _, _, _, ⟨rfl, rfl⟩, _⟩ := h; rfl) | (obtain ⟨_, _, _, _, _, _, _, _, _, _, _, _, _, ⟨rfl, rfl⟩, _⟩ := h; rfl)) (fun W ds O k x h lo => Q.w_Run___neg__ ⟨T.C_Run, T.na_Run__swaps⟩ h lo)
  have F__law_take : FE P w K mg base 1 "_law_take" ["_law_box_here", "_law_size"] [] (toSp K (sp__law_take K)) := ok__law_take T (fun ds O k x h => by first | (obtain ⟨_, ⟨rfl, rfl⟩, _⟩ := h; rfl) | (obtain ⟨_, _, ⟨rfl, rfl⟩, _⟩ := h; rfl) | (obtain ⟨_, _, _, ⟨rfl, rfl⟩, _⟩ := h; rfl) | (obtain ⟨_, _, _, _, ⟨rfl, rfl⟩, _⟩ := h; rfl) | (obtain ⟨_, _, _, _, _, ⟨rfl, rfl⟩, _⟩ := h; rfl) | (obtain ⟨_, _, _, _, _, _, ⟨rfl, rfl⟩, _⟩ := h; rfl) | (obtain ⟨_, _, _, _, _, _, _, ⟨rfl, rfl⟩, _⟩ := h; rfl) | (obtain ⟨_, _, _, _, _, _, _, _, ⟨rfl, rfl⟩, _⟩ := h; rfl) | (obtain ⟨_, _, _, _, _, _, _, _, _, ⟨rfl, rfl⟩, _⟩ := h; rfl) | (obtain ⟨_, _, _, _, _, _, _, _, _, _, ⟨rfl, rfl⟩, _⟩ := h; rfl) | (obtain ⟨_, _, _, _, _, _, _, _, _, _, _, ⟨rfl, rfl⟩, _⟩ := h; rfl) | (obtain ⟨_, _, _, _, _, _, _, _, _, _, _, _, ⟨rfl, rfl⟩, _⟩ := h; rfl) | (obtain ⟨_, _, _, _, _, _, _, _, _, _, _, _, _, ⟨rfl, rfl⟩, _⟩ := h; rfl)) (fun W ds O k x h lo => Q.w__law_take h lo)
  have F_check_replica : FE P w K mg base 2 "check_replica" ["replica"] [] (toSp K (sp_check_replica K)) := ok_check_replica T (fun ds O k x h => by first | (obtain ⟨_, ⟨rfl, rfl⟩, _⟩ := h; rfl) | (obtain ⟨_, _, ⟨rfl, rfl⟩, _⟩ := h; rfl) | (obtain ⟨_, _, _, ⟨rfl, rfl⟩, _⟩ := h; rfl) | (obtain ⟨_, _, _, _, ⟨rfl, rfl⟩, _⟩ := h; rfl) | (obtain ⟨_, _, _, _, _, ⟨rfl, rfl⟩, _⟩ := h; rfl) | (obtain ⟨_, _, _, _, _, _, ⟨rfl, rfl⟩, _⟩ := h; rfl) | (obtain ⟨_, _, _, _, _, _, _, ⟨rfl, rfl⟩, _⟩ := h; rfl) | (obtain ⟨_, _, _, _, _, _, _, _, ⟨rfl, rfl⟩, _⟩ := h; rfl) | (obtain ⟨_, _, _, _, _, _, _, _, _, ⟨rfl, rfl⟩, _⟩ := h; rfl) | (obtain ⟨_, _, _, _, _, _, _, _, _, _, ⟨rfl, rfl⟩, _⟩ := h; rfl) | (obtain ⟨_, _, _, _, _, _, _, _, _, _, _, ⟨rfl, rfl⟩, _⟩ := h; rfl) | (obtain ⟨_, _, _, _, _, _, _, _, _, _, _, _, ⟨rfl, rfl⟩, _⟩ := h; rfl) | (obtain ⟨_, _, _, _, _, _, _, _, _, _, _, _, _, ⟨rfl, rfl⟩, _⟩ := h; rfl)) (fun W ds O k x h lo => Q.w_check_replica h lo)
  have F_require_key : FE P w K mg base 2 "require_key" ["keys", "key"] [] (toSp K (sp_require_key K)) := ok_require_key T (fun ds O k x h => by first | (obtain ⟨_, ⟨rfl, rfl⟩, _⟩ := h; rfl) | (obtain ⟨_, _, ⟨rfl, rfl⟩, _⟩ := h; rfl) | (obtain ⟨_, _, _, ⟨rfl, rfl⟩, _⟩ := h; rfl) | (obtain ⟨_, _, _, _, ⟨rfl, rfl⟩, _⟩ := h; rfl) | (obtain ⟨_, _, _, _, _, ⟨rfl, rfl⟩, _⟩ := h; rfl) | (obtain ⟨_, _, _, _, _, _, ⟨rfl, rfl⟩, _⟩ := h; rfl) | (obtain ⟨_, _, _, _, _, _, _, ⟨rfl, rfl⟩, _⟩ := h; rfl) | (obtain ⟨_, _, _, _, _, _, _, _, ⟨rfl, rfl⟩, _⟩ := h; rfl) | (obtain ⟨_, _, _, _, _, _, _, _, _, ⟨rfl, rfl⟩, _⟩ := h; rfl) | (obtain ⟨_, _, _, _, _, _, _, _, _, _, ⟨rfl, rfl⟩, _⟩ := h; rfl) | (obtain ⟨_, _, _, _, _, _, _, _, _, _, _, ⟨rfl, rfl⟩, _⟩ := h; rfl) | (obtain ⟨_, _, _, _, _, _, _, _, _, _, _, _, ⟨rfl, rfl⟩, _⟩ := h; rfl) | (obtain ⟨_, _, _, _, _, _, _, _, _, _, _, _, _, ⟨rfl, rfl⟩, _⟩ := h; rfl)) (fun W ds O k x h lo => Q.w_require_key h lo)
  have F_State_says : FM P w K mg base 3 (He.ga K "State") "says" ["self", "replica", "x", "y"] [] (toSp K (sp_State_says K)) := ok_State_says T F_check_replica F_require_key (fun ds O k x h => by first | (obtain ⟨_, ⟨rfl, rfl⟩, _⟩ := h; rfl) | (obtain ⟨_, _, ⟨rfl, rfl⟩, _⟩ := h; rfl) | (obtain ⟨_, _, _, ⟨rfl, rfl⟩, _⟩ := h; rfl) | (obtain ⟨_, _, _, _, ⟨rfl, rfl⟩, _⟩ := h; rfl) | (obtain ⟨_, _, _, _, _, ⟨rfl, rfl⟩, _⟩ := h; rfl) | (obtain ⟨_, _, _, _, _, _, ⟨rfl, rfl⟩, _⟩ := h; rfl) | (obtain ⟨_, _, _, _, _, _, _, ⟨rfl, rfl⟩, _⟩ := h; rfl) | (obtain ⟨_, _, _, _, _, _, _, _, ⟨rfl, rfl⟩, _⟩ := h; rfl) | (obtain ⟨_, _, _, _, _, _, _, _, _, ⟨rfl, rfl⟩, _⟩ := h; rfl) | (obtain ⟨_, _, _, _, _, _, _, _, _, _, ⟨rfl, rfl⟩, _⟩ := h; rfl) | (obtain ⟨_, _, _, _, _, _, _, _, _, _, _, ⟨rfl, rfl⟩, _⟩ := h; rfl) | (obtain ⟨_, _, _, _, _, _, _, _, _, _, _, _, ⟨rfl, rfl⟩, _⟩ := h; rfl) | (obtain ⟨_, _, _, _, _, _, _, _, _, _, _, _, _, ⟨rfl, rfl⟩, _⟩ := h; rfl)) (fun W ds O k x h lo => Q.w_State_says ⟨T.C_State, T.na_State__places⟩ h lo)
  have F__other_replicas : FE P w K mg base 1 "_other_replicas" ["replica"] [] (toSp K (sp__other_replicas K)) := ok__other_replicas T (fun ds O k x h => by first | (obtain ⟨_, ⟨rfl, rfl⟩, _⟩ := h; rfl) | (obtain ⟨_, _, ⟨rfl, rfl⟩, _⟩ := h; rfl) | (obtain ⟨_, _, _, ⟨rfl, rfl⟩, _⟩ := h; rfl) | (obtain ⟨_, _, _, _, ⟨rfl, rfl⟩, _⟩ := h; rfl) | (obtain ⟨_, _, _, _, _, ⟨rfl, rfl⟩, _⟩ := h; rfl) | (obtain ⟨_, _, _, _, _, _, ⟨rfl, rfl⟩, _⟩ := h; rfl) | (obtain ⟨_, _, _, _, _, _, _, ⟨rfl, rfl⟩, _⟩ := h; rfl) | (obtain ⟨_, _, _, _, _, _, _, _, ⟨rfl, rfl⟩, _⟩ := h; rfl) | (obtain ⟨_, _, _, _, _, _, _, _, _, ⟨rfl, rfl⟩, _⟩ := h; rfl) | (obtain ⟨_, _, _, _, _, _, _, _, _, _, ⟨rfl, rfl⟩, _⟩ := h; rfl) | (obtain ⟨_, _, _, _, _, _, _, _, _, _, _, ⟨rfl, rfl⟩, _⟩ := h; rfl) | (obtain ⟨_, _, _, _, _, _, _, _, _, _, _, _, ⟨rfl, rfl⟩, _⟩ := h; rfl) | (obtain ⟨_, _, _, _, _, _, _, _, _, _, _, _, _, ⟨rfl, rfl⟩, _⟩ := h; rfl)) (fun W ds O k x h lo => Q.w__other_replicas ⟨T.cv_State_REPLICAS⟩ h lo)
  have F_State_list_of : FM P w K mg base 3 (He.ga K "State") "list_of" ["self", "replica"] [] (toSp K (sp_State_list_of K)) := ok_State_list_of T F_check_replica (fun ds O k x h => by first | (obtain ⟨_, ⟨rfl, rfl⟩, _⟩ := h; rfl) | (obtain ⟨_, _, ⟨rfl, rfl⟩, _⟩ := h; rfl) | (obtain ⟨_, _, _, ⟨rfl, rfl⟩, _⟩ := h; rfl) | (obtain ⟨_, _, _, _, ⟨rfl, rfl⟩, _⟩ := h; rfl) | (obtain ⟨_, _, _, _, _, ⟨rfl, rfl⟩, _⟩ := h; rfl) | (obtain ⟨_, _, _, _, _, _, ⟨rfl, rfl⟩, _⟩ := h; rfl) | (obtain ⟨_, _, _, _, _, _, _, ⟨rfl, rfl⟩, _⟩ := h; rfl) | (obtain ⟨_, _, _, _, _, _, _, _, ⟨rfl, rfl⟩, _⟩ := h; rfl) | (obtain ⟨_, _, _, _, _, _, _, _, _, ⟨rfl, rfl⟩, _⟩ := h; rfl) | (obtain ⟨_, _, _, _, _, _, _, _, _, _, ⟨rfl, rfl⟩, _⟩ := h; rfl) | (obtain ⟨_, _, _, _, _, _, _, _, _, _, _, ⟨rfl, rfl⟩, _⟩ := h; rfl) | (obtain ⟨_, _, _, _, _, _, _, _, _, _, _, _, ⟨rfl, rfl⟩, _⟩ := h; rfl) | (obtain ⟨_, _, _, _, _, _, _, _, _, _, _, _, _, ⟨rfl, rfl⟩, _⟩ := h; rfl)) (fun W ds O k x h lo => Q.w_State_list_of ⟨T.C_State, T.na_State__lists⟩ h lo)
  have F_State___len__ : FM P w K mg base 1 (He.ga K "State") "__len__" ["self"] [] (toSp K (sp_State___len__ K)) := ok_State___len__ T (fun ds O k x h => by first | (obtain ⟨_, ⟨rfl, rfl⟩, _⟩ := h; rfl) | (obtain ⟨_, _, ⟨rfl, rfl⟩, _⟩ := h; rfl) | (obtain ⟨_, _, _, ⟨rfl, rfl⟩, _⟩ := h; rfl) | (obtain ⟨_, _, _, _, ⟨rfl, rfl⟩, _⟩ := h; rfl) | (obtain ⟨_, _, _, _, _, ⟨rfl, rfl⟩, _⟩ := h; rfl) | (obtain ⟨_, _, _, _, _, _, ⟨rfl, rfl⟩, _⟩ := h; rfl) | (obtain ⟨_, _, _, _, _, _, _, ⟨rfl, rfl⟩, _⟩ := h; rfl) | (obtain ⟨_, _, _, _, _, _, _, _, ⟨rfl, rfl⟩, _⟩ := h; rfl) | (obtain ⟨_, _, _, _, _, _, _, _, _, ⟨rfl, rfl⟩, _⟩ := h; rfl) | (obtain ⟨_, _, _, _, _, _, _, _, _, _, ⟨rfl, rfl⟩, _⟩ := h; rfl) | (obtain ⟨_, _, _, _, _, _, _, _, _, _, _, ⟨rfl, rfl⟩, _⟩ := h; rfl) | (obtain ⟨_, _, _, _, _, _, _, _, _, _, _, _, ⟨rfl, rfl⟩, _⟩ := h; rfl) | (obtain ⟨_, _, _, _, _, _, _, _, _, _, _, _, _, ⟨rfl, rfl⟩, _⟩ := h; rfl)) (fun W ds O k x h lo => Q.w_State___len__ ⟨T.C_State, T.na_State__lists⟩ h lo)
  have F_is_swap : FE P w K mg base 3 "is_swap" ["state", "swap"] [] (toSp K (sp_is_swap K)) := ok_is_swap T F_State___len__ (fun ds O k x h => by first | (obtain ⟨_, ⟨rfl, rfl⟩, _⟩ := h; rfl) | (obtain ⟨_, _, ⟨rfl, rfl⟩, _⟩ := h; rfl) | (obtain ⟨_, _, _, ⟨rfl, rfl⟩, _⟩ := h; rfl) | (obtain ⟨_, _, _, _, ⟨rfl, rfl⟩, _⟩ := h; rfl) | (obtain ⟨_, _, _, _, _, ⟨rfl, rfl⟩, _⟩ := h; rfl) | (obtain ⟨_, _, _, _, _, _, ⟨rfl, rfl⟩, _⟩ := h; rfl) | (obtain ⟨_, _, _, _, _, _, _, ⟨rfl, rfl⟩, _⟩ := h; rfl) | (obtain ⟨_, _, _, _, _, _, _, _, ⟨rfl, rfl⟩, _⟩ := h; rfl) | (obtain ⟨_, _, _, _, _, _, _, _, _, ⟨rfl, rfl⟩, _⟩ := h; rfl) | (obtain ⟨_, _, _, _, _, _, _, _, _, _, ⟨rfl, rfl⟩, _⟩ := h; rfl) | (obtain ⟨_, _, _, _, _, _, _, _, _, _, _, ⟨rfl, rfl⟩, _⟩ := h; rfl) | (obtain ⟨_, _, _, _, _, _, _, _, _, _, _, _, ⟨rfl, rfl⟩, _⟩ := h; rfl) | (obtain ⟨_, _, _, _, _, _, _, _, _, _, _, _, _, ⟨rfl, rfl⟩, _⟩ := h; rfl)) (fun W ds O k x h lo => Q.w_is_swap ⟨T.cv_State_REPLICAS⟩ h lo)
  have F_swap_pair : FE P w K mg base 4 "swap_pair" ["state", "swap"] [] (toSp K (sp_swap_pair K)) := ok_swap_pair T F_State_list_of F_is_swap (fun ds O k x h => by first | (obtain ⟨_, ⟨rfl, rfl⟩, _⟩ := h; rfl) | (obtain ⟨_, _, ⟨rfl, rfl⟩, _⟩ := h; rfl) | (obtain ⟨_, _, _, ⟨rfl, rfl⟩, _⟩ := h; rfl) | (obtain ⟨_, _, _, _, ⟨rfl, rfl⟩, _⟩ := h; rfl) | (obtain ⟨_, _, _, _, _, ⟨rfl, rfl⟩, _⟩ := h; rfl) | (obtain ⟨_, _, _, _, _, _, ⟨rfl, rfl⟩, _⟩ := h; rfl) | (obtain ⟨_, _, _, _, _, _, _, ⟨rfl, rfl⟩, _⟩ := h; rfl) | (obtain ⟨_, _, _, _, _, _, _, _, ⟨rfl, rfl⟩, _⟩ := h; rfl) | (obtain ⟨_, _, _, _, _, _, _, _, _, ⟨rfl, rfl⟩, _⟩ := h; rfl) | (obtain ⟨_, _, _, _, _, _, _, _, _, _, ⟨rfl, rfl⟩, _⟩ := h; rfl) | (obtain ⟨_, _, _, _, _, _, _, _, _, _, _, ⟨rfl, rfl⟩, _⟩ := h; rfl) | (obtain ⟨_, _, _, _, _, _, _, _, _, _, _, _, ⟨rfl, rfl⟩, _⟩ := h; rfl) | (obtain ⟨_, _, _, _, _, _, _, _, _, _, _, _, _, ⟨rfl, rfl⟩, _⟩ := h; rfl)) (fun W ds O k x h lo => Q.w_swap_pair h lo)
  have F_is_silent : FE P w K mg base 5 "is_silent" ["state", "swap"] [] (toSp K (sp_is_silent K)) := ok_is_silent T F_State_says F__other_replicas F_swap_pair (fun ds O k x h => by first | (obtain ⟨_, ⟨rfl, rfl⟩, _⟩ := h; rfl) | (obtain ⟨_, _, ⟨rfl, rfl⟩, _⟩ := h; rfl) | (obtain ⟨_, _, _, ⟨rfl, rfl⟩, _⟩ := h; rfl) | (obtain ⟨_, _, _, _, ⟨rfl, rfl⟩, _⟩ := h; rfl) | (obtain ⟨_, _, _, _, _, ⟨rfl, rfl⟩, _⟩ := h; rfl) | (obtain ⟨_, _, _, _, _, _, ⟨rfl, rfl⟩, _⟩ := h; rfl) | (obtain ⟨_, _, _, _, _, _, _, ⟨rfl, rfl⟩, _⟩ := h; rfl) | (obtain ⟨_, _, _, _, _, _, _, _, ⟨rfl, rfl⟩, _⟩ := h; rfl) | (obtain ⟨_, _, _, _, _, _, _, _, _, ⟨rfl, rfl⟩, _⟩ := h; rfl) | (obtain ⟨_, _, _, _, _, _, _, _, _, _, ⟨rfl, rfl⟩, _⟩ := h; rfl) | (obtain ⟨_, _, _, _, _, _, _, _, _, _, _, ⟨rfl, rfl⟩, _⟩ := h; rfl) | (obtain ⟨_, _, _, _, _, _, _, _, _, _, _, _, ⟨rfl, rfl⟩, _⟩ := h; rfl) | (obtain ⟨_, _, _, _, _, _, _, _, _, _, _, _, _, ⟨rfl, rfl⟩, _⟩ := h; rfl)) (fun W ds O k x h lo => Q.w_is_silent h lo)
  have F_first_wrong_place : FE P w K mg base 1 "first_wrong_place" ["order"] [] (toSp K (sp_first_wrong_place K)) := ok_first_wrong_place T (fun ds O k x h => by first | (obtain ⟨_, ⟨rfl, rfl⟩, _⟩ := h; rfl) | (obtain ⟨_, _, ⟨rfl, rfl⟩, _⟩ := h; rfl) | (obtain ⟨_, _, _, ⟨rfl, rfl⟩, _⟩ := h; rfl) | (obtain ⟨_, _, _, _, ⟨rfl, rfl⟩, _⟩ := h; rfl) | (obtain ⟨_, _, _, _, _, ⟨rfl, rfl⟩, _⟩ := h; rfl) | (obtain ⟨_, _, _, _, _, _, ⟨rfl, rfl⟩, _⟩ := h; rfl) | (obtain ⟨_, _, _, _, _, _, _, ⟨rfl, rfl⟩, _⟩ := h; rfl) | (obtain ⟨_, _, _, _, _, _, _, _, ⟨rfl, rfl⟩, _⟩ := h; rfl) | (obtain ⟨_, _, _, _, _, _, _, _, _, ⟨rfl, rfl⟩, _⟩ := h; rfl) | (obtain ⟨_, _, _, _, _, _, _, _, _, _, ⟨rfl, rfl⟩, _⟩ := h; rfl) | (obtain ⟨_, _, _, _, _, _, _, _, _, _, _, ⟨rfl, rfl⟩, _⟩ := h; rfl) | (obtain ⟨_, _, _, _, _, _, _, _, _, _, _, _, ⟨rfl, rfl⟩, _⟩ := h; rfl) | (obtain ⟨_, _, _, _, _, _, _, _, _, _, _, _, _, ⟨rfl, rfl⟩, _⟩ := h; rfl)) (fun W ds O k x h lo => Q.w_first_wrong_place h lo)
  have F__wrong_replica : FE P w K mg base 2 "_wrong_replica" ["orders"] [] (toSp K (sp__wrong_replica K)) := ok__wrong_replica T F_first_wrong_place (fun ds O k x h => by first | (obtain ⟨_, ⟨rfl, rfl⟩, _⟩ := h; rfl) | (obtain ⟨_, _, ⟨rfl, rfl⟩, _⟩ := h; rfl) | (obtain ⟨_, _, _, ⟨rfl, rfl⟩, _⟩ := h; rfl) | (obtain ⟨_, _, _, _, ⟨rfl, rfl⟩, _⟩ := h; rfl) | (obtain ⟨_, _, _, _, _, ⟨rfl, rfl⟩, _⟩ := h; rfl) | (obtain ⟨_, _, _, _, _, _, ⟨rfl, rfl⟩, _⟩ := h; rfl) | (obtain ⟨_, _, _, _, _, _, _, ⟨rfl, rfl⟩, _⟩ := h; rfl) | (obtain ⟨_, _, _, _, _, _, _, _, ⟨rfl, rfl⟩, _⟩ := h; rfl) | (obtain ⟨_, _, _, _, _, _, _, _, _, ⟨rfl, rfl⟩, _⟩ := h; rfl) | (obtain ⟨_, _, _, _, _, _, _, _, _, _, ⟨rfl, rfl⟩, _⟩ := h; rfl) | (obtain ⟨_, _, _, _, _, _, _, _, _, _, _, ⟨rfl, rfl⟩, _⟩ := h; rfl) | (obtain ⟨_, _, _, _, _, _, _, _, _, _, _, _, ⟨rfl, rfl⟩, _⟩ := h; rfl) | (obtain ⟨_, _, _, _, _, _, _, _, _, _, _, _, _, ⟨rfl, rfl⟩, _⟩ := h; rfl)) (fun W ds O k x h lo => Q.w__wrong_replica h lo)
  have F_index_of : FE P w K mg base 1 "index_of" ["order"] [] (toSp K (sp_index_of K)) := ok_index_of T (fun ds O k x h => by first | (obtain ⟨_, ⟨rfl, rfl⟩, _⟩ := h; rfl) | (obtain ⟨_, _, ⟨rfl, rfl⟩, _⟩ := h; rfl) | (obtain ⟨_, _, _, ⟨rfl, rfl⟩, _⟩ := h; rfl) | (obtain ⟨_, _, _, _, ⟨rfl, rfl⟩, _⟩ := h; rfl) | (obtain ⟨_, _, _, _, _, ⟨rfl, rfl⟩, _⟩ := h; rfl) | (obtain ⟨_, _, _, _, _, _, ⟨rfl, rfl⟩, _⟩ := h; rfl) | (obtain ⟨_, _, _, _, _, _, _, ⟨rfl, rfl⟩, _⟩ := h; rfl) | (obtain ⟨_, _, _, _, _, _, _, _, ⟨rfl, rfl⟩, _⟩ := h; rfl) | (obtain ⟨_, _, _, _, _, _, _, _, _, ⟨rfl, rfl⟩, _⟩ := h; rfl) | (obtain ⟨_, _, _, _, _, _, _, _, _, _, ⟨rfl, rfl⟩, _⟩ := h; rfl) | (obtain ⟨_, _, _, _, _, _, _, _, _, _, _, ⟨rfl, rfl⟩, _⟩ := h; rfl) | (obtain ⟨_, _, _, _, _, _, _, _, _, _, _, _, ⟨rfl, rfl⟩, _⟩ := h; rfl) | (obtain ⟨_, _, _, _, _, _, _, _, _, _, _, _, _, ⟨rfl, rfl⟩, _⟩ := h; rfl)) (fun W ds O k x h lo => Q.w_index_of h lo)
  have F_State___init__ : FM P w K mg base 3 (He.ga K "State") "__init__" ["self", "first", "second", "third"] [] (toSp K (sp_State___init__ K)) := ok_State___init__ T F__wrong_replica F_index_of (fun ds O k x h => by first | (obtain ⟨_, ⟨rfl, rfl⟩, _⟩ := h; rfl) | (obtain ⟨_, _, ⟨rfl, rfl⟩, _⟩ := h; rfl) | (obtain ⟨_, _, _, ⟨rfl, rfl⟩, _⟩ := h; rfl) | (obtain ⟨_, _, _, _, ⟨rfl, rfl⟩, _⟩ := h; rfl) | (obtain ⟨_, _, _, _, _, ⟨rfl, rfl⟩, _⟩ := h; rfl) | (obtain ⟨_, _, _, _, _, _, ⟨rfl, rfl⟩, _⟩ := h; rfl) | (obtain ⟨_, _, _, _, _, _, _, ⟨rfl, rfl⟩, _⟩ := h; rfl) | (obtain ⟨_, _, _, _, _, _, _, _, ⟨rfl, rfl⟩, _⟩ := h; rfl) | (obtain ⟨_, _, _, _, _, _, _, _, _, ⟨rfl, rfl⟩, _⟩ := h; rfl) | (obtain ⟨_, _, _, _, _, _, _, _, _, _, ⟨rfl, rfl⟩, _⟩ := h; rfl) | (obtain ⟨_, _, _, _, _, _, _, _, _, _, _, ⟨rfl, rfl⟩, _⟩ := h; rfl) | (obtain ⟨_, _, _, _, _, _, _, _, _, _, _, _, ⟨rfl, rfl⟩, _⟩ := h; rfl) | (obtain ⟨_, _, _, _, _, _, _, _, _, _, _, _, _, ⟨rfl, rfl⟩, _⟩ := h; rfl)) (fun W ds O k x h lo => Q.w_State___init__ ⟨T.C_State, T.na_State__lists, T.na_State__places⟩ h lo)
  have F_State_all_keys : FM P w K mg base 1 (He.ga K "State") "all_keys" ["self"] [] (toSp K (sp_State_all_keys K)) := ok_State_all_keys T (fun ds O k x h => by first | (obtain ⟨_, ⟨rfl, rfl⟩, _⟩ := h; rfl) | (obtain ⟨_, _, ⟨rfl, rfl⟩, _⟩ := h; rfl) | (obtain ⟨_, _, _, ⟨rfl, rfl⟩, _⟩ := h; rfl) | (obtain ⟨_, _, _, _, ⟨rfl, rfl⟩, _⟩ := h; rfl) | (obtain ⟨_, _, _, _, _, ⟨rfl, rfl⟩, _⟩ := h; rfl) | (obtain ⟨_, _, _, _, _, _, ⟨rfl, rfl⟩, _⟩ := h; rfl) | (obtain ⟨_, _, _, _, _, _, _, ⟨rfl, rfl⟩, _⟩ := h; rfl) | (obtain ⟨_, _, _, _, _, _, _, _, ⟨rfl, rfl⟩, _⟩ := h; rfl) | (obtain ⟨_, _, _, _, _, _, _, _, _, ⟨rfl, rfl⟩, _⟩ := h; rfl) | (obtain ⟨_, _, _, _, _, _, _, _, _, _, ⟨rfl, rfl⟩, _⟩ := h; rfl) | (obtain ⟨_, _, _, _, _, _, _, _, _, _, _, ⟨rfl, rfl⟩, _⟩ := h; rfl) | (obtain ⟨_, _, _, _, _, _, _, _, _, _, _, _, ⟨rfl, rfl⟩, _⟩ := h; rfl) | (obtain ⟨_, _, _, _, _, _, _, _, _, _, _, _, _, ⟨rfl, rfl⟩, _⟩ := h; rfl)) (fun W ds O k x h lo => Q.w_State_all_keys ⟨T.C_State, T.na_State__lists⟩ h lo)
  have F_State_with_list : FM P w K mg base 5 (He.ga K "State") "with_list" ["self", "replica", "order"] [] (toSp K (sp_State_with_list K)) := ok_State_with_list T F_State___init__ F_State_all_keys F_State_lists F_check_replica F_first_wrong_place (fun ds O k x h => by first | (obtain ⟨_, ⟨rfl, rfl⟩, _⟩ := h; rfl) | (obtain ⟨_, _, ⟨rfl, rfl⟩, _⟩ := h; rfl) | (obtain ⟨_, _, _, ⟨rfl, rfl⟩, _⟩ := h; rfl) | (obtain ⟨_, _, _, _, ⟨rfl, rfl⟩, _⟩ := h; rfl) | (obtain ⟨_, _, _, _, _, ⟨rfl, rfl⟩, _⟩ := h; rfl) | (obtain ⟨_, _, _, _, _, _, ⟨rfl, rfl⟩, _⟩ := h; rfl) | (obtain ⟨_, _, _, _, _, _, _, ⟨rfl, rfl⟩, _⟩ := h; rfl) | (obtain ⟨_, _, _, _, _, _, _, _, ⟨rfl, rfl⟩, _⟩ := h; rfl) | (obtain ⟨_, _, _, _, _, _, _, _, _, ⟨rfl, rfl⟩, _⟩ := h; rfl) | (obtain ⟨_, _, _, _, _, _, _, _, _, _, ⟨rfl, rfl⟩, _⟩ := h; rfl) | (obtain ⟨_, _, _, _, _, _, _, _, _, _, _, ⟨rfl, rfl⟩, _⟩ := h; rfl) | (obtain ⟨_, _, _, _, _, _, _, _, _, _, _, _, ⟨rfl, rfl⟩, _⟩ := h; rfl) | (obtain ⟨_, _, _, _, _, _, _, _, _, _, _, _, _, ⟨rfl, rfl⟩, _⟩ := h; rfl)) (fun W ds O k x h lo => Q.w_State_with_list h lo)
  have F_check_list : FE P w K mg base 2 "check_list" ["order"] [] (toSp K (sp_check_list K)) := ok_check_list T F_first_wrong_place (fun ds O k x h => by first | (obtain ⟨_, ⟨rfl, rfl⟩, _⟩ := h; rfl) | (obtain ⟨_, _, ⟨rfl, rfl⟩, _⟩ := h; rfl) | (obtain ⟨_, _, _, ⟨rfl, rfl⟩, _⟩ := h; rfl) | (obtain ⟨_, _, _, _, ⟨rfl, rfl⟩, _⟩ := h; rfl) | (obtain ⟨_, _, _, _, _, ⟨rfl, rfl⟩, _⟩ := h; rfl) | (obtain ⟨_, _, _, _, _, _, ⟨rfl, rfl⟩, _⟩ := h; rfl) | (obtain ⟨_, _, _, _, _, _, _, ⟨rfl, rfl⟩, _⟩ := h; rfl) | (obtain ⟨_, _, _, _, _, _, _, _, ⟨rfl, rfl⟩, _⟩ := h; rfl) | (obtain ⟨_, _, _, _, _, _, _, _, _, ⟨rfl, rfl⟩, _⟩ := h; rfl) | (obtain ⟨_, _, _, _, _, _, _, _, _, _, ⟨rfl, rfl⟩, _⟩ := h; rfl) | (obtain ⟨_, _, _, _, _, _, _, _, _, _, _, ⟨rfl, rfl⟩, _⟩ := h; rfl) | (obtain ⟨_, _, _, _, _, _, _, _, _, _, _, _, ⟨rfl, rfl⟩, _⟩ := h; rfl) | (obtain ⟨_, _, _, _, _, _, _, _, _, _, _, _, _, ⟨rfl, rfl⟩, _⟩ := h; rfl)) (fun W ds O k x h lo => Q.w_check_list h lo)
  have F_swap_at : FE P w K mg base 3 "swap_at" ["order", "index"] [] (toSp K (sp_swap_at K)) := ok_swap_at T F_check_list (fun ds O k x h => by first | (obtain ⟨_, ⟨rfl, rfl⟩, _⟩ := h; rfl) | (obtain ⟨_, _, ⟨rfl, rfl⟩, _⟩ := h; rfl) | (obtain ⟨_, _, _, ⟨rfl, rfl⟩, _⟩ := h; rfl) | (obtain ⟨_, _, _, _, ⟨rfl, rfl⟩, _⟩ := h; rfl) | (obtain ⟨_, _, _, _, _, ⟨rfl, rfl⟩, _⟩ := h; rfl) | (obtain ⟨_, _, _, _, _, _, ⟨rfl, rfl⟩, _⟩ := h; rfl) | (obtain ⟨_, _, _, _, _, _, _, ⟨rfl, rfl⟩, _⟩ := h; rfl) | (obtain ⟨_, _, _, _, _, _, _, _, ⟨rfl, rfl⟩, _⟩ := h; rfl) | (obtain ⟨_, _, _, _, _, _, _, _, _, ⟨rfl, rfl⟩, _⟩ := h; rfl) | (obtain ⟨_, _, _, _, _, _, _, _, _, _, ⟨rfl, rfl⟩, _⟩ := h; rfl) | (obtain ⟨_, _, _, _, _, _, _, _, _, _, _, ⟨rfl, rfl⟩, _⟩ := h; rfl) | (obtain ⟨_, _, _, _, _, _, _, _, _, _, _, _, ⟨rfl, rfl⟩, _⟩ := h; rfl) | (obtain ⟨_, _, _, _, _, _, _, _, _, _, _, _, _, ⟨rfl, rfl⟩, _⟩ := h; rfl)) (fun W ds O k x h lo => Q.w_swap_at h lo)
  have F_swapped_state : FE P w K mg base 6 "swapped_state" ["state", "swap"] [] (toSp K (sp_swapped_state K)) := ok_swapped_state T F_State_list_of F_State_with_list F_swap_at (fun ds O k x h => by first | (obtain ⟨_, ⟨rfl, rfl⟩, _⟩ := h; rfl) | (obtain ⟨_, _, ⟨rfl, rfl⟩, _⟩ := h; rfl) | (obtain ⟨_, _, _, ⟨rfl, rfl⟩, _⟩ := h; rfl) | (obtain ⟨_, _, _, _, ⟨rfl, rfl⟩, _⟩ := h; rfl) | (obtain ⟨_, _, _, _, _, ⟨rfl, rfl⟩, _⟩ := h; rfl) | (obtain ⟨_, _, _, _, _, _, ⟨rfl, rfl⟩, _⟩ := h; rfl) | (obtain ⟨_, _, _, _, _, _, _, ⟨rfl, rfl⟩, _⟩ := h; rfl) | (obtain ⟨_, _, _, _, _, _, _, _, ⟨rfl, rfl⟩, _⟩ := h; rfl) | (obtain ⟨_, _, _, _, _, _, _, _, _, ⟨rfl, rfl⟩, _⟩ := h; rfl) | (obtain ⟨_, _, _, _, _, _, _, _, _, _, ⟨rfl, rfl⟩, _⟩ := h; rfl) | (obtain ⟨_, _, _, _, _, _, _, _, _, _, _, ⟨rfl, rfl⟩, _⟩ := h; rfl) | (obtain ⟨_, _, _, _, _, _, _, _, _, _, _, _, ⟨rfl, rfl⟩, _⟩ := h; rfl) | (obtain ⟨_, _, _, _, _, _, _, _, _, _, _, _, _, ⟨rfl, rfl⟩, _⟩ := h; rfl)) (fun W ds O k x h lo => Q.w_swapped_state h lo)
  have F__state_after : FE P w K mg base 7 "_state_after" ["state", "swap", "step"] [] (toSp K (sp__state_after K)) := ok__state_after T F_is_silent F_is_swap F_swapped_state (fun ds O k x h => by first | (obtain ⟨_, ⟨rfl, rfl⟩, _⟩ := h; rfl) | (obtain ⟨_, _, ⟨rfl, rfl⟩, _⟩ := h; rfl) | (obtain ⟨_, _, _, ⟨rfl, rfl⟩, _⟩ := h; rfl) | (obtain ⟨_, _, _, _, ⟨rfl, rfl⟩, _⟩ := h; rfl) | (obtain ⟨_, _, _, _, _, ⟨rfl, rfl⟩, _⟩ := h; rfl) | (obtain ⟨_, _, _, _, _, _, ⟨rfl, rfl⟩, _⟩ := h; rfl) | (obtain ⟨_, _, _, _, _, _, _, ⟨rfl, rfl⟩, _⟩ := h; rfl) | (obtain ⟨_, _, _, _, _, _, _, _, ⟨rfl, rfl⟩, _⟩ := h; rfl) | (obtain ⟨_, _, _, _, _, _, _, _, _, ⟨rfl, rfl⟩, _⟩ := h; rfl) | (obtain ⟨_, _, _, _, _, _, _, _, _, _, ⟨rfl, rfl⟩, _⟩ := h; rfl) | (obtain ⟨_, _, _, _, _, _, _, _, _, _, _, ⟨rfl, rfl⟩, _⟩ := h; rfl) | (obtain ⟨_, _, _, _, _, _, _, _, _, _, _, _, ⟨rfl, rfl⟩, _⟩ := h; rfl) | (obtain ⟨_, _, _, _, _, _, _, _, _, _, _, _, _, ⟨rfl, rfl⟩, _⟩ := h; rfl)) (fun W ds O k x h lo => Q.w__state_after h lo)
  have F_play : FE P w K mg base 8 "play" ["state", "run"] [] (toSp K (sp_play K)) := ok_play T F_Run_steps F__state_after (fun ds O k x h => by first | (obtain ⟨_, ⟨rfl, rfl⟩, _⟩ := h; rfl) | (obtain ⟨_, _, ⟨rfl, rfl⟩, _⟩ := h; rfl) | (obtain ⟨_, _, _, ⟨rfl, rfl⟩, _⟩ := h; rfl) | (obtain ⟨_, _, _, _, ⟨rfl, rfl⟩, _⟩ := h; rfl) | (obtain ⟨_, _, _, _, _, ⟨rfl, rfl⟩, _⟩ := h; rfl) | (obtain ⟨_, _, _, _, _, _, ⟨rfl, rfl⟩, _⟩ := h; rfl) | (obtain ⟨_, _, _, _, _, _, _, ⟨rfl, rfl⟩, _⟩ := h; rfl) | (obtain ⟨_, _, _, _, _, _, _, _, ⟨rfl, rfl⟩, _⟩ := h; rfl) | (obtain ⟨_, _, _, _, _, _, _, _, _, ⟨rfl, rfl⟩, _⟩ := h; rfl) | (obtain ⟨_, _, _, _, _, _, _, _, _, _, ⟨rfl, rfl⟩, _⟩ := h; rfl) | (obtain ⟨_, _, _, _, _, _, _, _, _, _, _, ⟨rfl, rfl⟩, _⟩ := h; rfl) | (obtain ⟨_, _, _, _, _, _, _, _, _, _, _, _, ⟨rfl, rfl⟩, _⟩ := h; rfl) | (obtain ⟨_, _, _, _, _, _, _, _, _, _, _, _, _, ⟨rfl, rfl⟩, _⟩ := h; rfl)) (fun W ds O k x h lo => Q.w_play h lo)
  have F_State_position : FM P w K mg base 3 (He.ga K "State") "position" ["self", "replica", "key"] [] (toSp K (sp_State_position K)) := ok_State_position T F_check_replica F_require_key (fun ds O k x h => by first | (obtain ⟨_, ⟨rfl, rfl⟩, _⟩ := h; rfl) | (obtain ⟨_, _, ⟨rfl, rfl⟩, _⟩ := h; rfl) | (obtain ⟨_, _, _, ⟨rfl, rfl⟩, _⟩ := h; rfl) | (obtain ⟨_, _, _, _, ⟨rfl, rfl⟩, _⟩ := h; rfl) | (obtain ⟨_, _, _, _, _, ⟨rfl, rfl⟩, _⟩ := h; rfl) | (obtain ⟨_, _, _, _, _, _, ⟨rfl, rfl⟩, _⟩ := h; rfl) | (obtain ⟨_, _, _, _, _, _, _, ⟨rfl, rfl⟩, _⟩ := h; rfl) | (obtain ⟨_, _, _, _, _, _, _, _, ⟨rfl, rfl⟩, _⟩ := h; rfl) | (obtain ⟨_, _, _, _, _, _, _, _, _, ⟨rfl, rfl⟩, _⟩ := h; rfl) | (obtain ⟨_, _, _, _, _, _, _, _, _, _, ⟨rfl, rfl⟩, _⟩ := h; rfl) | (obtain ⟨_, _, _, _, _, _, _, _, _, _, _, ⟨rfl, rfl⟩, _⟩ := h; rfl) | (obtain ⟨_, _, _, _, _, _, _, _, _, _, _, _, ⟨rfl, rfl⟩, _⟩ := h; rfl) | (obtain ⟨_, _, _, _, _, _, _, _, _, _, _, _, _, ⟨rfl, rfl⟩, _⟩ := h; rfl)) (fun W ds O k x h lo => Q.w_State_position ⟨T.C_State, T.na_State__places⟩ h lo)
  have F_project_run : FE P w K mg base 9 "project_run" ["state", "run", "key"] [] (toSp K (sp_project_run K)) := ok_project_run T F_Run___init__ F_Run_steps F_State_all_keys F_State_position F_play F_require_key F_swapped_state (fun ds O k x h => by first | (obtain ⟨_, ⟨rfl, rfl⟩, _⟩ := h; rfl) | (obtain ⟨_, _, ⟨rfl, rfl⟩, _⟩ := h; rfl) | (obtain ⟨_, _, _, ⟨rfl, rfl⟩, _⟩ := h; rfl) | (obtain ⟨_, _, _, _, ⟨rfl, rfl⟩, _⟩ := h; rfl) | (obtain ⟨_, _, _, _, _, ⟨rfl, rfl⟩, _⟩ := h; rfl) | (obtain ⟨_, _, _, _, _, _, ⟨rfl, rfl⟩, _⟩ := h; rfl) | (obtain ⟨_, _, _, _, _, _, _, ⟨rfl, rfl⟩, _⟩ := h; rfl) | (obtain ⟨_, _, _, _, _, _, _, _, ⟨rfl, rfl⟩, _⟩ := h; rfl) | (obtain ⟨_, _, _, _, _, _, _, _, _, ⟨rfl, rfl⟩, _⟩ := h; rfl) | (obtain ⟨_, _, _, _, _, _, _, _, _, _, ⟨rfl, rfl⟩, _⟩ := h; rfl) | (obtain ⟨_, _, _, _, _, _, _, _, _, _, _, ⟨rfl, rfl⟩, _⟩ := h; rfl) | (obtain ⟨_, _, _, _, _, _, _, _, _, _, _, _, ⟨rfl, rfl⟩, _⟩ := h; rfl) | (obtain ⟨_, _, _, _, _, _, _, _, _, _, _, _, _, ⟨rfl, rfl⟩, _⟩ := h; rfl)) (fun W ds O k x h lo => Q.w_project_run h lo)
  have F__law_cut_run : FE P w K mg base 10 "_law_cut_run" ["_law_box_here", "_law_state_here", "_law_run", "_law_steps_here", "_law_key"] [] (toSp K (sp__law_cut_run K)) := ok__law_cut_run T F_Run___add__ F_Run___init__ F_Run___neg__ F_Run_steps F__law_take F_play F_project_run (fun ds O k x h => by first | (obtain ⟨_, ⟨rfl, rfl⟩, _⟩ := h; rfl) | (obtain ⟨_, _, ⟨rfl, rfl⟩, _⟩ := h; rfl) | (obtain ⟨_, _, _, ⟨rfl, rfl⟩, _⟩ := h; rfl) | (obtain ⟨_, _, _, _, ⟨rfl, rfl⟩, _⟩ := h; rfl) | (obtain ⟨_, _, _, _, _, ⟨rfl, rfl⟩, _⟩ := h; rfl) | (obtain ⟨_, _, _, _, _, _, ⟨rfl, rfl⟩, _⟩ := h; rfl) | (obtain ⟨_, _, _, _, _, _, _, ⟨rfl, rfl⟩, _⟩ := h; rfl) | (obtain ⟨_, _, _, _, _, _, _, _, ⟨rfl, rfl⟩, _⟩ := h; rfl) | (obtain ⟨_, _, _, _, _, _, _, _, _, ⟨rfl, rfl⟩, _⟩ := h; rfl) | (obtain ⟨_, _, _, _, _, _, _, _, _, _, ⟨rfl, rfl⟩, _⟩ := h; rfl) | (obtain ⟨_, _, _, _, _, _, _, _, _, _, _, ⟨rfl, rfl⟩, _⟩ := h; rfl) | (obtain ⟨_, _, _, _, _, _, _, _, _, _, _, _, ⟨rfl, rfl⟩, _⟩ := h; rfl) | (obtain ⟨_, _, _, _, _, _, _, _, _, _, _, _, _, ⟨rfl, rfl⟩, _⟩ := h; rfl)) (fun W ds O k x h lo => Q.w__law_cut_run h lo)
  have F_Run___len__ : FM P w K mg base 1 (He.ga K "Run") "__len__" ["self"] [] (toSp K (sp_Run___len__ K)) := ok_Run___len__ T (fun ds O k x h => by first | (obtain ⟨_, ⟨rfl, rfl⟩, _⟩ := h; rfl) | (obtain ⟨_, _, ⟨rfl, rfl⟩, _⟩ := h; rfl) | (obtain ⟨_, _, _, ⟨rfl, rfl⟩, _⟩ := h; rfl) | (obtain ⟨_, _, _, _, ⟨rfl, rfl⟩, _⟩ := h; rfl) | (obtain ⟨_, _, _, _, _, ⟨rfl, rfl⟩, _⟩ := h; rfl) | (obtain ⟨_, _, _, _, _, _, ⟨rfl, rfl⟩, _⟩ := h; rfl) | (obtain ⟨_, _, _, _, _, _, _, ⟨rfl, rfl⟩, _⟩ := h; rfl) | (obtain ⟨_, _, _, _, _, _, _, _, ⟨rfl, rfl⟩, _⟩ := h; rfl) | (obtain ⟨_, _, _, _, _, _, _, _, _, ⟨rfl, rfl⟩, _⟩ := h; rfl) | (obtain ⟨_, _, _, _, _, _, _, _, _, _, ⟨rfl, rfl⟩, _⟩ := h; rfl) | (obtain ⟨_, _, _, _, _, _, _, _, _, _, _, ⟨rfl, rfl⟩, _⟩ := h; rfl) | (obtain ⟨_, _, _, _, _, _, _, _, _, _, _, _, ⟨rfl, rfl⟩, _⟩ := h; rfl) | (obtain ⟨_, _, _, _, _, _, _, _, _, _, _, _, _, ⟨rfl, rfl⟩, _⟩ := h; rfl)) (fun W ds O k x h lo => Q.w_Run___len__ ⟨T.C_Run, T.na_Run__swaps⟩ h lo)
  have F_State___sub__ : FM P w K mg base 5 (He.ga K "State") "__sub__" ["self", "key"] [] (toSp K (sp_State___sub__ K)) := ok_State___sub__ T F_State___init__ F_require_key (fun ds O k x h => by first | (obtain ⟨_, ⟨rfl, rfl⟩, _⟩ := h; rfl) | (obtain ⟨_, _, ⟨rfl, rfl⟩, _⟩ := h; rfl) | (obtain ⟨_, _, _, ⟨rfl, rfl⟩, _⟩ := h; rfl) | (obtain ⟨_, _, _, _, ⟨rfl, rfl⟩, _⟩ := h; rfl) | (obtain ⟨_, _, _, _, _, ⟨rfl, rfl⟩, _⟩ := h; rfl) | (obtain ⟨_, _, _, _, _, _, ⟨rfl, rfl⟩, _⟩ := h; rfl) | (obtain ⟨_, _, _, _, _, _, _, ⟨rfl, rfl⟩, _⟩ := h; rfl) | (obtain ⟨_, _, _, _, _, _, _, _, ⟨rfl, rfl⟩, _⟩ := h; rfl) | (obtain ⟨_, _, _, _, _, _, _, _, _, ⟨rfl, rfl⟩, _⟩ := h; rfl) | (obtain ⟨_, _, _, _, _, _, _, _, _, _, ⟨rfl, rfl⟩, _⟩ := h; rfl) | (obtain ⟨_, _, _, _, _, _, _, _, _, _, _, ⟨rfl, rfl⟩, _⟩ := h; rfl) | (obtain ⟨_, _, _, _, _, _, _, _, _, _, _, _, ⟨rfl, rfl⟩, _⟩ := h; rfl) | (obtain ⟨_, _, _, _, _, _, _, _, _, _, _, _, _, ⟨rfl, rfl⟩, _⟩ := h; rfl)) (fun W ds O k x h lo => Q.w_State___sub__ ⟨T.C_State, T.na_State__lists, T.na_State__places⟩ h lo)
  have F__law_silent : FE P w K mg base 1 "_law_silent" ["_law_lists", "_law_h", "_law_i"] [] (toSp K (sp__law_silent K)) := ok__law_silent T (fun ds O k x h => by first | (obtain ⟨_, ⟨rfl, rfl⟩, _⟩ := h; rfl) | (obtain ⟨_, _, ⟨rfl, rfl⟩, _⟩ := h; rfl) | (obtain ⟨_, _, _, ⟨rfl, rfl⟩, _⟩ := h; rfl) | (obtain ⟨_, _, _, _, ⟨rfl, rfl⟩, _⟩ := h; rfl) | (obtain ⟨_, _, _, _, _, ⟨rfl, rfl⟩, _⟩ := h; rfl) | (obtain ⟨_, _, _, _, _, _, ⟨rfl, rfl⟩, _⟩ := h; rfl) | (obtain ⟨_, _, _, _, _, _, _, ⟨rfl, rfl⟩, _⟩ := h; rfl) | (obtain ⟨_, _, _, _, _, _, _, _, ⟨rfl, rfl⟩, _⟩ := h; rfl) | (obtain ⟨_, _, _, _, _, _, _, _, _, ⟨rfl, rfl⟩, _⟩ := h; rfl) | (obtain ⟨_, _, _, _, _, _, _, _, _, _, ⟨rfl, rfl⟩, _⟩ := h; rfl) | (obtain ⟨_, _, _, _, _, _, _, _, _, _, _, ⟨rfl, rfl⟩, _⟩ := h; rfl) | (obtain ⟨_, _, _, _, _, _, _, _, _, _, _, _, ⟨rfl, rfl⟩, _⟩ := h; rfl) | (obtain ⟨_, _, _, _, _, _, _, _, _, _, _, _, _, ⟨rfl, rfl⟩, _⟩ := h; rfl)) (fun W ds O k x h lo => Q.w__law_silent h lo)
  have F__law_swapped : FE P w K mg base 1 "_law_swapped" ["_law_lists", "_law_h", "_law_i"] [] (toSp K (sp__law_swapped K)) := ok__law_swapped T (fun ds O k x h => by first | (obtain ⟨_, ⟨rfl, rfl⟩, _⟩ := h; rfl) | (obtain ⟨_, _, ⟨rfl, rfl⟩, _⟩ := h; rfl) | (obtain ⟨_, _, _, ⟨rfl, rfl⟩, _⟩ := h; rfl) | (obtain ⟨_, _, _, _, ⟨rfl, rfl⟩, _⟩ := h; rfl) | (obtain ⟨_, _, _, _, _, ⟨rfl, rfl⟩, _⟩ := h; rfl) | (obtain ⟨_, _, _, _, _, _, ⟨rfl, rfl⟩, _⟩ := h; rfl) | (obtain ⟨_, _, _, _, _, _, _, ⟨rfl, rfl⟩, _⟩ := h; rfl) | (obtain ⟨_, _, _, _, _, _, _, _, ⟨rfl, rfl⟩, _⟩ := h; rfl) | (obtain ⟨_, _, _, _, _, _, _, _, _, ⟨rfl, rfl⟩, _⟩ := h; rfl) | (obtain ⟨_, _, _, _, _, _, _, _, _, _, ⟨rfl, rfl⟩, _⟩ := h; rfl) | (obtain ⟨_, _, _, _, _, _, _, _, _, _, _, ⟨rfl, rfl⟩, _⟩ := h; rfl) | (obtain ⟨_, _, _, _, _, _, _, _, _, _, _, _, ⟨rfl, rfl⟩, _⟩ := h; rfl) | (obtain ⟨_, _, _, _, _, _, _, _, _, _, _, _, _, ⟨rfl, rfl⟩, _⟩ := h; rfl)) (fun W ds O k x h lo => Q.w__law_swapped h lo)
  have F__law_pairs : FE P w K mg base 2 "_law_pairs" ["_law_lists", "_law_steps_here"] [] (toSp K (sp__law_pairs K)) := ok__law_pairs T F__law_silent F__law_swapped (fun ds O k x h => by first | (obtain ⟨_, ⟨rfl, rfl⟩, _⟩ := h; rfl) | (obtain ⟨_, _, ⟨rfl, rfl⟩, _⟩ := h; rfl) | (obtain ⟨_, _, _, ⟨rfl, rfl⟩, _⟩ := h; rfl) | (obtain ⟨_, _, _, _, ⟨rfl, rfl⟩, _⟩ := h; rfl) | (obtain ⟨_, _, _, _, _, ⟨rfl, rfl⟩, _⟩ := h; rfl) | (obtain ⟨_, _, _, _, _, _, ⟨rfl, rfl⟩, _⟩ := h; rfl) | (obtain ⟨_, _, _, _, _, _, _, ⟨rfl, rfl⟩, _⟩ := h; rfl) | (obtain ⟨_, _, _, _, _, _, _, _, ⟨rfl, rfl⟩, _⟩ := h; rfl) | (obtain ⟨_, _, _, _, _, _, _, _, _, ⟨rfl, rfl⟩, _⟩ := h; rfl) | (obtain ⟨_, _, _, _, _, _, _, _, _, _, ⟨rfl, rfl⟩, _⟩ := h; rfl) | (obtain ⟨_, _, _, _, _, _, _, _, _, _, _, ⟨rfl, rfl⟩, _⟩ := h; rfl) | (obtain ⟨_, _, _, _, _, _, _, _, _, _, _, _, ⟨rfl, rfl⟩, _⟩ := h; rfl) | (obtain ⟨_, _, _, _, _, _, _, _, _, _, _, _, _, ⟨rfl, rfl⟩, _⟩ := h; rfl)) (fun W ds O k x h lo => Q.w__law_pairs h lo)
  have F__law_whole : FE P w K mg base 1 "_law_whole" ["_law_value"] [] (toSp K (sp__law_whole K)) := ok__law_whole T (fun ds O k x h => by first | (obtain ⟨_, ⟨rfl, rfl⟩, _⟩ := h; rfl) | (obtain ⟨_, _, ⟨rfl, rfl⟩, _⟩ := h; rfl) | (obtain ⟨_, _, _, ⟨rfl, rfl⟩, _⟩ := h; rfl) | (obtain ⟨_, _, _, _, ⟨rfl, rfl⟩, _⟩ := h; rfl) | (obtain ⟨_, _, _, _, _, ⟨rfl, rfl⟩, _⟩ := h; rfl) | (obtain ⟨_, _, _, _, _, _, ⟨rfl, rfl⟩, _⟩ := h; rfl) | (obtain ⟨_, _, _, _, _, _, _, ⟨rfl, rfl⟩, _⟩ := h; rfl) | (obtain ⟨_, _, _, _, _, _, _, _, ⟨rfl, rfl⟩, _⟩ := h; rfl) | (obtain ⟨_, _, _, _, _, _, _, _, _, ⟨rfl, rfl⟩, _⟩ := h; rfl) | (obtain ⟨_, _, _, _, _, _, _, _, _, _, ⟨rfl, rfl⟩, _⟩ := h; rfl) | (obtain ⟨_, _, _, _, _, _, _, _, _, _, _, ⟨rfl, rfl⟩, _⟩ := h; rfl) | (obtain ⟨_, _, _, _, _, _, _, _, _, _, _, _, ⟨rfl, rfl⟩, _⟩ := h; rfl) | (obtain ⟨_, _, _, _, _, _, _, _, _, _, _, _, _, ⟨rfl, rfl⟩, _⟩ := h; rfl)) (fun W ds O k x h lo => Q.w__law_whole h lo)
  have F__law_steps : FE P w K mg base 2 "_law_steps" ["_law_run"] [] (toSp K (sp__law_steps K)) := ok__law_steps T F_Run_steps F__law_whole (fun ds O k x h => by first | (obtain ⟨_, ⟨rfl, rfl⟩, _⟩ := h; rfl) | (obtain ⟨_, _, ⟨rfl, rfl⟩, _⟩ := h; rfl) | (obtain ⟨_, _, _, ⟨rfl, rfl⟩, _⟩ := h; rfl) | (obtain ⟨_, _, _, _, ⟨rfl, rfl⟩, _⟩ := h; rfl) | (obtain ⟨_, _, _, _, _, ⟨rfl, rfl⟩, _⟩ := h; rfl) | (obtain ⟨_, _, _, _, _, _, ⟨rfl, rfl⟩, _⟩ := h; rfl) | (obtain ⟨_, _, _, _, _, _, _, ⟨rfl, rfl⟩, _⟩ := h; rfl) | (obtain ⟨_, _, _, _, _, _, _, _, ⟨rfl, rfl⟩, _⟩ := h; rfl) | (obtain ⟨_, _, _, _, _, _, _, _, _, ⟨rfl, rfl⟩, _⟩ := h; rfl) | (obtain ⟨_, _, _, _, _, _, _, _, _, _, ⟨rfl, rfl⟩, _⟩ := h; rfl) | (obtain ⟨_, _, _, _, _, _, _, _, _, _, _, ⟨rfl, rfl⟩, _⟩ := h; rfl) | (obtain ⟨_, _, _, _, _, _, _, _, _, _, _, _, ⟨rfl, rfl⟩, _⟩ := h; rfl) | (obtain ⟨_, _, _, _, _, _, _, _, _, _, _, _, _, ⟨rfl, rfl⟩, _⟩ := h; rfl)) (fun W ds O k x h lo => Q.w__law_steps h lo)
  have F__law_without : FE P w K mg base 1 "_law_without" ["_law_lists", "_law_key"] [] (toSp K (sp__law_without K)) := ok__law_without T (fun ds O k x h => by first | (obtain ⟨_, ⟨rfl, rfl⟩, _⟩ := h; rfl) | (obtain ⟨_, _, ⟨rfl, rfl⟩, _⟩ := h; rfl) | (obtain ⟨_, _, _, ⟨rfl, rfl⟩, _⟩ := h; rfl) | (obtain ⟨_, _, _, _, ⟨rfl, rfl⟩, _⟩ := h; rfl) | (obtain ⟨_, _, _, _, _, ⟨rfl, rfl⟩, _⟩ := h; rfl) | (obtain ⟨_, _, _, _, _, _, ⟨rfl, rfl⟩, _⟩ := h; rfl) | (obtain ⟨_, _, _, _, _, _, _, ⟨rfl, rfl⟩, _⟩ := h; rfl) | (obtain ⟨_, _, _, _, _, _, _, _, ⟨rfl, rfl⟩, _⟩ := h; rfl) | (obtain ⟨_, _, _, _, _, _, _, _, _, ⟨rfl, rfl⟩, _⟩ := h; rfl) | (obtain ⟨_, _, _, _, _, _, _, _, _, _, ⟨rfl, rfl⟩, _⟩ := h; rfl) | (obtain ⟨_, _, _, _, _, _, _, _, _, _, _, ⟨rfl, rfl⟩, _⟩ := h; rfl) | (obtain ⟨_, _, _, _, _, _, _, _, _, _, _, _, ⟨rfl, rfl⟩, _⟩ := h; rfl) | (obtain ⟨_, _, _, _, _, _, _, _, _, _, _, _, _, ⟨rfl, rfl⟩, _⟩ := h; rfl)) (fun W ds O k x h lo => Q.w__law_without h lo)
  have F__law_key_out : FE P w K mg base 10 "_law_key_out" ["_law_state_here", "_law_run", "_law_lists", "_law_steps_here", "_law_key"] [] (toSp K (sp__law_key_out K)) := ok__law_key_out T F_Run___len__ F_Run_steps F_State___sub__ F_State_lists F__law_pairs F__law_steps F__law_without F_play F_project_run (fun ds O k x h => by first | (obtain ⟨_, ⟨rfl, rfl⟩, _⟩ := h; rfl) | (obtain ⟨_, _, ⟨rfl, rfl⟩, _⟩ := h; rfl) | (obtain ⟨_, _, _, ⟨rfl, rfl⟩, _⟩ := h; rfl) | (obtain ⟨_, _, _, _, ⟨rfl, rfl⟩, _⟩ := h; rfl) | (obtain ⟨_, _, _, _, _, ⟨rfl, rfl⟩, _⟩ := h; rfl) | (obtain ⟨_, _, _, _, _, _, ⟨rfl, rfl⟩, _⟩ := h; rfl) | (obtain ⟨_, _, _, _, _, _, _, ⟨rfl, rfl⟩, _⟩ := h; rfl) | (obtain ⟨_, _, _, _, _, _, _, _, ⟨rfl, rfl⟩, _⟩ := h; rfl) | (obtain ⟨_, _, _, _, _, _, _, _, _, ⟨rfl, rfl⟩, _⟩ := h; rfl) | (obtain ⟨_, _, _, _, _, _, _, _, _, _, ⟨rfl, rfl⟩, _⟩ := h; rfl) | (obtain ⟨_, _, _, _, _, _, _, _, _, _, _, ⟨rfl, rfl⟩, _⟩ := h; rfl) | (obtain ⟨_, _, _, _, _, _, _, _, _, _, _, _, ⟨rfl, rfl⟩, _⟩ := h; rfl) | (obtain ⟨_, _, _, _, _, _, _, _, _, _, _, _, _, ⟨rfl, rfl⟩, _⟩ := h; rfl)) (fun W ds O k x h lo => Q.w__law_key_out h lo)
  have F__law_order : FE P w K mg base 2 "_law_order" ["_law_box_here", "_law_keys_here"] [] (toSp K (sp__law_order K)) := ok__law_order T F__law_take (fun ds O k x h => by first | (obtain ⟨_, ⟨rfl, rfl⟩, _⟩ := h; rfl) | (obtain ⟨_, _, ⟨rfl, rfl⟩, _⟩ := h; rfl) | (obtain ⟨_, _, _, ⟨rfl, rfl⟩, _⟩ := h; rfl) | (obtain ⟨_, _, _, _, ⟨rfl, rfl⟩, _⟩ := h; rfl) | (obtain ⟨_, _, _, _, _, ⟨rfl, rfl⟩, _⟩ := h; rfl) | (obtain ⟨_, _, _, _, _, _, ⟨rfl, rfl⟩, _⟩ := h; rfl) | (obtain ⟨_, _, _, _, _, _, _, ⟨rfl, rfl⟩, _⟩ := h; rfl) | (obtain ⟨_, _, _, _, _, _, _, _, ⟨rfl, rfl⟩, _⟩ := h; rfl) | (obtain ⟨_, _, _, _, _, _, _, _, _, ⟨rfl, rfl⟩, _⟩ := h; rfl) | (obtain ⟨_, _, _, _, _, _, _, _, _, _, ⟨rfl, rfl⟩, _⟩ := h; rfl) | (obtain ⟨_, _, _, _, _, _, _, _, _, _, _, ⟨rfl, rfl⟩, _⟩ := h; rfl) | (obtain ⟨_, _, _, _, _, _, _, _, _, _, _, _, ⟨rfl, rfl⟩, _⟩ := h; rfl) | (obtain ⟨_, _, _, _, _, _, _, _, _, _, _, _, _, ⟨rfl, rfl⟩, _⟩ := h; rfl)) (fun W ds O k x h lo => Q.w__law_order h lo)
  have F__law_keys : FE P w K mg base 3 "_law_keys" ["_law_box_here", "_law_count"] [] (toSp K (sp__law_keys K)) := ok__law_keys T F__law_order F__law_take (fun ds O k x h => by first | (obtain ⟨_, ⟨rfl, rfl⟩, _⟩ := h; rfl) | (obtain ⟨_, _, ⟨rfl, rfl⟩, _⟩ := h; rfl) | (obtain ⟨_, _, _, ⟨rfl, rfl⟩, _⟩ := h; rfl) | (obtain ⟨_, _, _, _, ⟨rfl, rfl⟩, _⟩ := h; rfl) | (obtain ⟨_, _, _, _, _, ⟨rfl, rfl⟩, _⟩ := h; rfl) | (obtain ⟨_, _, _, _, _, _, ⟨rfl, rfl⟩, _⟩ := h; rfl) | (obtain ⟨_, _, _, _, _, _, _, ⟨rfl, rfl⟩, _⟩ := h; rfl) | (obtain ⟨_, _, _, _, _, _, _, _, ⟨rfl, rfl⟩, _⟩ := h; rfl) | (obtain ⟨_, _, _, _, _, _, _, _, _, ⟨rfl, rfl⟩, _⟩ := h; rfl) | (obtain ⟨_, _, _, _, _, _, _, _, _, _, ⟨rfl, rfl⟩, _⟩ := h; rfl) | (obtain ⟨_, _, _, _, _, _, _, _, _, _, _, ⟨rfl, rfl⟩, _⟩ := h; rfl) | (obtain ⟨_, _, _, _, _, _, _, _, _, _, _, _, ⟨rfl, rfl⟩, _⟩ := h; rfl) | (obtain ⟨_, _, _, _, _, _, _, _, _, _, _, _, _, ⟨rfl, rfl⟩, _⟩ := h; rfl)) (fun W ds O k x h lo => Q.w__law_keys h lo)
  have F__law_made : FE P w K mg base 5 "_law_made" ["_law_lists"] [] (toSp K (sp__law_made K)) := ok__law_made T F_State___init__ (fun ds O k x h => by first | (obtain ⟨_, ⟨rfl, rfl⟩, _⟩ := h; rfl) | (obtain ⟨_, _, ⟨rfl, rfl⟩, _⟩ := h; rfl) | (obtain ⟨_, _, _, ⟨rfl, rfl⟩, _⟩ := h; rfl) | (obtain ⟨_, _, _, _, ⟨rfl, rfl⟩, _⟩ := h; rfl) | (obtain ⟨_, _, _, _, _, ⟨rfl, rfl⟩, _⟩ := h; rfl) | (obtain ⟨_, _, _, _, _, _, ⟨rfl, rfl⟩, _⟩ := h; rfl) | (obtain ⟨_, _, _, _, _, _, _, ⟨rfl, rfl⟩, _⟩ := h; rfl) | (obtain ⟨_, _, _, _, _, _, _, _, ⟨rfl, rfl⟩, _⟩ := h; rfl) | (obtain ⟨_, _, _, _, _, _, _, _, _, ⟨rfl, rfl⟩, _⟩ := h; rfl) | (obtain ⟨_, _, _, _, _, _, _, _, _, _, ⟨rfl, rfl⟩, _⟩ := h; rfl) | (obtain ⟨_, _, _, _, _, _, _, _, _, _, _, ⟨rfl, rfl⟩, _⟩ := h; rfl) | (obtain ⟨_, _, _, _, _, _, _, _, _, _, _, _, ⟨rfl, rfl⟩, _⟩ := h; rfl) | (obtain ⟨_, _, _, _, _, _, _, _, _, _, _, _, _, ⟨rfl, rfl⟩, _⟩ := h; rfl)) (fun W ds O k x h lo => Q.w__law_made h lo)
  have F__law_answer : FE P w K mg base 10 "_law_answer" ["_law_state_here", "_law_run", "_law_key"] [] (toSp K (sp__law_answer K)) := ok__law_answer T F_project_run (fun ds O k x h => by first | (obtain ⟨_, ⟨rfl, rfl⟩, _⟩ := h; rfl) | (obtain ⟨_, _, ⟨rfl, rfl⟩, _⟩ := h; rfl) | (obtain ⟨_, _, _, ⟨rfl, rfl⟩, _⟩ := h; rfl) | (obtain ⟨_, _, _, _, ⟨rfl, rfl⟩, _⟩ := h; rfl) | (obtain ⟨_, _, _, _, _, ⟨rfl, rfl⟩, _⟩ := h; rfl) | (obtain ⟨_, _, _, _, _, _, ⟨rfl, rfl⟩, _⟩ := h; rfl) | (obtain ⟨_, _, _, _, _, _, _, ⟨rfl, rfl⟩, _⟩ := h; rfl) | (obtain ⟨_, _, _, _, _, _, _, _, ⟨rfl, rfl⟩, _⟩ := h; rfl) | (obtain ⟨_, _, _, _, _, _, _, _, _, ⟨rfl, rfl⟩, _⟩ := h; rfl) | (obtain ⟨_, _, _, _, _, _, _, _, _, _, ⟨rfl, rfl⟩, _⟩ := h; rfl) | (obtain ⟨_, _, _, _, _, _, _, _, _, _, _, ⟨rfl, rfl⟩, _⟩ := h; rfl) | (obtain ⟨_, _, _, _, _, _, _, _, _, _, _, _, ⟨rfl, rfl⟩, _⟩ := h; rfl) | (obtain ⟨_, _, _, _, _, _, _, _, _, _, _, _, _, ⟨rfl, rfl⟩, _⟩ := h; rfl)) (fun W ds O k x h lo => Q.w__law_answer ⟨T.exm_AudibleSwap_AudibleSwap, T.exm_AudibleSwap_InvalidSwap, T.exm_AudibleSwap_UnknownKey, T.exm_InvalidList_AudibleSwap, T.exm_InvalidList_InvalidSwap, T.exm_InvalidList_UnknownKey, T.exm_InvalidState_AudibleSwap, T.exm_InvalidState_InvalidSwap, T.exm_InvalidState_UnknownKey, T.exm_InvalidSwap_AudibleSwap, T.exm_InvalidSwap_InvalidSwap, T.exm_InvalidSwap_UnknownKey, T.exm_UnknownKey_AudibleSwap, T.exm_UnknownKey_InvalidSwap, T.exm_UnknownKey_UnknownKey, T.exm_UnknownReplica_AudibleSwap, T.exm_UnknownReplica_InvalidSwap, T.exm_UnknownReplica_UnknownKey, T.kit_AudibleSwap_DriftError, T.kit_InvalidList_DriftError, T.kit_InvalidState_DriftError, T.kit_InvalidSwap_DriftError, T.kit_UnknownKey_DriftError, T.kit_UnknownReplica_DriftError, T.x_AudibleSwap, T.x_InvalidList, T.x_InvalidState, T.x_InvalidSwap, T.x_UnknownKey, T.x_UnknownReplica⟩ h lo)
  have F__law_bad_swap : FE P w K mg base 2 "_law_bad_swap" ["_law_box_here", "_law_lists"] [] (toSp K (sp__law_bad_swap K)) := ok__law_bad_swap T F__law_silent F__law_take (fun ds O k x h => by first | (obtain ⟨_, ⟨rfl, rfl⟩, _⟩ := h; rfl) | (obtain ⟨_, _, ⟨rfl, rfl⟩, _⟩ := h; rfl) | (obtain ⟨_, _, _, ⟨rfl, rfl⟩, _⟩ := h; rfl) | (obtain ⟨_, _, _, _, ⟨rfl, rfl⟩, _⟩ := h; rfl) | (obtain ⟨_, _, _, _, _, ⟨rfl, rfl⟩, _⟩ := h; rfl) | (obtain ⟨_, _, _, _, _, _, ⟨rfl, rfl⟩, _⟩ := h; rfl) | (obtain ⟨_, _, _, _, _, _, _, ⟨rfl, rfl⟩, _⟩ := h; rfl) | (obtain ⟨_, _, _, _, _, _, _, _, ⟨rfl, rfl⟩, _⟩ := h; rfl) | (obtain ⟨_, _, _, _, _, _, _, _, _, ⟨rfl, rfl⟩, _⟩ := h; rfl) | (obtain ⟨_, _, _, _, _, _, _, _, _, _, ⟨rfl, rfl⟩, _⟩ := h; rfl) | (obtain ⟨_, _, _, _, _, _, _, _, _, _, _, ⟨rfl, rfl⟩, _⟩ := h; rfl) | (obtain ⟨_, _, _, _, _, _, _, _, _, _, _, _, ⟨rfl, rfl⟩, _⟩ := h; rfl) | (obtain ⟨_, _, _, _, _, _, _, _, _, _, _, _, _, ⟨rfl, rfl⟩, _⟩ := h; rfl)) (fun W ds O k x h lo => Q.w__law_bad_swap h lo)
  have F__law_played : FE P w K mg base 2 "_law_played" ["_law_lists", "_law_steps_here"] [] (toSp K (sp__law_played K)) := ok__law_played T F__law_swapped (fun ds O k x h => by first | (obtain ⟨_, ⟨rfl, rfl⟩, _⟩ := h; rfl) | (obtain ⟨_, _, ⟨rfl, rfl⟩, _⟩ := h; rfl) | (obtain ⟨_, _, _, ⟨rfl, rfl⟩, _⟩ := h; rfl) | (obtain ⟨_, _, _, _, ⟨rfl, rfl⟩, _⟩ := h; rfl) | (obtain ⟨_, _, _, _, _, ⟨rfl, rfl⟩, _⟩ := h; rfl) | (obtain ⟨_, _, _, _, _, _, ⟨rfl, rfl⟩, _⟩ := h; rfl) | (obtain ⟨_, _, _, _, _, _, _, ⟨rfl, rfl⟩, _⟩ := h; rfl) | (obtain ⟨_, _, _, _, _, _, _, _, ⟨rfl, rfl⟩, _⟩ := h; rfl) | (obtain ⟨_, _, _, _, _, _, _, _, _, ⟨rfl, rfl⟩, _⟩ := h; rfl) | (obtain ⟨_, _, _, _, _, _, _, _, _, _, ⟨rfl, rfl⟩, _⟩ := h; rfl) | (obtain ⟨_, _, _, _, _, _, _, _, _, _, _, ⟨rfl, rfl⟩, _⟩ := h; rfl) | (obtain ⟨_, _, _, _, _, _, _, _, _, _, _, _, ⟨rfl, rfl⟩, _⟩ := h; rfl) | (obtain ⟨_, _, _, _, _, _, _, _, _, _, _, _, _, ⟨rfl, rfl⟩, _⟩ := h; rfl)) (fun W ds O k x h lo => Q.w__law_played h lo)
  have F__law_strange : FE P w K mg base 2 "_law_strange" ["_law_box_here", "_law_keys_here"] [] (toSp K (sp__law_strange K)) := ok__law_strange T F__law_take (fun ds O k x h => by first | (obtain ⟨_, ⟨rfl, rfl⟩, _⟩ := h; rfl) | (obtain ⟨_, _, ⟨rfl, rfl⟩, _⟩ := h; rfl) | (obtain ⟨_, _, _, ⟨rfl, rfl⟩, _⟩ := h; rfl) | (obtain ⟨_, _, _, _, ⟨rfl, rfl⟩, _⟩ := h; rfl) | (obtain ⟨_, _, _, _, _, ⟨rfl, rfl⟩, _⟩ := h; rfl) | (obtain ⟨_, _, _, _, _, _, ⟨rfl, rfl⟩, _⟩ := h; rfl) | (obtain ⟨_, _, _, _, _, _, _, ⟨rfl, rfl⟩, _⟩ := h; rfl) | (obtain ⟨_, _, _, _, _, _, _, _, ⟨rfl, rfl⟩, _⟩ := h; rfl) | (obtain ⟨_, _, _, _, _, _, _, _, _, ⟨rfl, rfl⟩, _⟩ := h; rfl) | (obtain ⟨_, _, _, _, _, _, _, _, _, _, ⟨rfl, rfl⟩, _⟩ := h; rfl) | (obtain ⟨_, _, _, _, _, _, _, _, _, _, _, ⟨rfl, rfl⟩, _⟩ := h; rfl) | (obtain ⟨_, _, _, _, _, _, _, _, _, _, _, _, ⟨rfl, rfl⟩, _⟩ := h; rfl) | (obtain ⟨_, _, _, _, _, _, _, _, _, _, _, _, _, ⟨rfl, rfl⟩, _⟩ := h; rfl)) (fun W ds O k x h lo => Q.w__law_strange h lo)
  have F__law_refused : FE P w K mg base 11 "_law_refused" ["_law_box_here", "_law_state_here", "_law_run", "_law_lists", "_law_steps_here", "_law_keys_here"] [] (toSp K (sp__law_refused K)) := ok__law_refused T F_Run___init__ F__law_answer F__law_bad_swap F__law_played F__law_strange F__law_take (fun ds O k x h => by first | (obtain ⟨_, ⟨rfl, rfl⟩, _⟩ := h; rfl) | (obtain ⟨_, _, ⟨rfl, rfl⟩, _⟩ := h; rfl) | (obtain ⟨_, _, _, ⟨rfl, rfl⟩, _⟩ := h; rfl) | (obtain ⟨_, _, _, _, ⟨rfl, rfl⟩, _⟩ := h; rfl) | (obtain ⟨_, _, _, _, _, ⟨rfl, rfl⟩, _⟩ := h; rfl) | (obtain ⟨_, _, _, _, _, _, ⟨rfl, rfl⟩, _⟩ := h; rfl) | (obtain ⟨_, _, _, _, _, _, _, ⟨rfl, rfl⟩, _⟩ := h; rfl) | (obtain ⟨_, _, _, _, _, _, _, _, ⟨rfl, rfl⟩, _⟩ := h; rfl) | (obtain ⟨_, _, _, _, _, _, _, _, _, ⟨rfl, rfl⟩, _⟩ := h; rfl) | (obtain ⟨_, _, _, _, _, _, _, _, _, _, ⟨rfl, rfl⟩, _⟩ := h; rfl) | (obtain ⟨_, _, _, _, _, _, _, _, _, _, _, ⟨rfl, rfl⟩, _⟩ := h; rfl) | (obtain ⟨_, _, _, _, _, _, _, _, _, _, _, _, ⟨rfl, rfl⟩, _⟩ := h; rfl) | (obtain ⟨_, _, _, _, _, _, _, _, _, _, _, _, _, ⟨rfl, rfl⟩, _⟩ := h; rfl)) (fun W ds O k x h lo => Q.w__law_refused h lo)
  have F__law_put_in : FE P w K mg base 2 "_law_put_in" ["_law_box_here", "_law_lists", "_law_key"] [] (toSp K (sp__law_put_in K)) := ok__law_put_in T F__law_take (fun ds O k x h => by first | (obtain ⟨_, ⟨rfl, rfl⟩, _⟩ := h; rfl) | (obtain ⟨_, _, ⟨rfl, rfl⟩, _⟩ := h; rfl) | (obtain ⟨_, _, _, ⟨rfl, rfl⟩, _⟩ := h; rfl) | (obtain ⟨_, _, _, _, ⟨rfl, rfl⟩, _⟩ := h; rfl) | (obtain ⟨_, _, _, _, _, ⟨rfl, rfl⟩, _⟩ := h; rfl) | (obtain ⟨_, _, _, _, _, _, ⟨rfl, rfl⟩, _⟩ := h; rfl) | (obtain ⟨_, _, _, _, _, _, _, ⟨rfl, rfl⟩, _⟩ := h; rfl) | (obtain ⟨_, _, _, _, _, _, _, _, ⟨rfl, rfl⟩, _⟩ := h; rfl) | (obtain ⟨_, _, _, _, _, _, _, _, _, ⟨rfl, rfl⟩, _⟩ := h; rfl) | (obtain ⟨_, _, _, _, _, _, _, _, _, _, ⟨rfl, rfl⟩, _⟩ := h; rfl) | (obtain ⟨_, _, _, _, _, _, _, _, _, _, _, ⟨rfl, rfl⟩, _⟩ := h; rfl) | (obtain ⟨_, _, _, _, _, _, _, _, _, _, _, _, ⟨rfl, rfl⟩, _⟩ := h; rfl) | (obtain ⟨_, _, _, _, _, _, _, _, _, _, _, _, _, ⟨rfl, rfl⟩, _⟩ := h; rfl)) (fun W ds O k x h lo => Q.w__law_put_in h lo)
  have F__law_ways : FE P w K mg base 2 "_law_ways" ["_law_lists", "_law_lot"] [] (toSp K (sp__law_ways K)) := ok__law_ways T F__law_silent (fun ds O k x h => by first | (obtain ⟨_, ⟨rfl, rfl⟩, _⟩ := h; rfl) | (obtain ⟨_, _, ⟨rfl, rfl⟩, _⟩ := h; rfl) | (obtain ⟨_, _, _, ⟨rfl, rfl⟩, _⟩ := h; rfl) | (obtain ⟨_, _, _, _, ⟨rfl, rfl⟩, _⟩ := h; rfl) | (obtain ⟨_, _, _, _, _, ⟨rfl, rfl⟩, _⟩ := h; rfl) | (obtain ⟨_, _, _, _, _, _, ⟨rfl, rfl⟩, _⟩ := h; rfl) | (obtain ⟨_, _, _, _, _, _, _, ⟨rfl, rfl⟩, _⟩ := h; rfl) | (obtain ⟨_, _, _, _, _, _, _, _, ⟨rfl, rfl⟩, _⟩ := h; rfl) | (obtain ⟨_, _, _, _, _, _, _, _, _, ⟨rfl, rfl⟩, _⟩ := h; rfl) | (obtain ⟨_, _, _, _, _, _, _, _, _, _, ⟨rfl, rfl⟩, _⟩ := h; rfl) | (obtain ⟨_, _, _, _, _, _, _, _, _, _, _, ⟨rfl, rfl⟩, _⟩ := h; rfl) | (obtain ⟨_, _, _, _, _, _, _, _, _, _, _, _, ⟨rfl, rfl⟩, _⟩ := h; rfl) | (obtain ⟨_, _, _, _, _, _, _, _, _, _, _, _, _, ⟨rfl, rfl⟩, _⟩ := h; rfl)) (fun W ds O k x h lo => Q.w__law_ways h lo)
  have F__law_walk : FE P w K mg base 3 "_law_walk" ["_law_box_here", "_law_lists", "_law_count", "_law_lot"] [] (toSp K (sp__law_walk K)) := ok__law_walk T F__law_swapped F__law_take F__law_ways (fun ds O k x h => by first | (obtain ⟨_, ⟨rfl, rfl⟩, _⟩ := h; rfl) | (obtain ⟨_, _, ⟨rfl, rfl⟩, _⟩ := h; rfl) | (obtain ⟨_, _, _, ⟨rfl, rfl⟩, _⟩ := h; rfl) | (obtain ⟨_, _, _, _, ⟨rfl, rfl⟩, _⟩ := h; rfl) | (obtain ⟨_, _, _, _, _, ⟨rfl, rfl⟩, _⟩ := h; rfl) | (obtain ⟨_, _, _, _, _, _, ⟨rfl, rfl⟩, _⟩ := h; rfl) | (obtain ⟨_, _, _, _, _, _, _, ⟨rfl, rfl⟩, _⟩ := h; rfl) | (obtain ⟨_, _, _, _, _, _, _, _, ⟨rfl, rfl⟩, _⟩ := h; rfl) | (obtain ⟨_, _, _, _, _, _, _, _, _, ⟨rfl, rfl⟩, _⟩ := h; rfl) | (obtain ⟨_, _, _, _, _, _, _, _, _, _, ⟨rfl, rfl⟩, _⟩ := h; rfl) | (obtain ⟨_, _, _, _, _, _, _, _, _, _, _, ⟨rfl, rfl⟩, _⟩ := h; rfl) | (obtain ⟨_, _, _, _, _, _, _, _, _, _, _, _, ⟨rfl, rfl⟩, _⟩ := h; rfl) | (obtain ⟨_, _, _, _, _, _, _, _, _, _, _, _, _, ⟨rfl, rfl⟩, _⟩ := h; rfl)) (fun W ds O k x h lo => Q.w__law_walk h lo)
  have F__law_state : FE P w K mg base 4 "_law_state" ["_law_box_here", "_law_keys_here"] [] (toSp K (sp__law_state K)) := ok__law_state T F__law_order F__law_played F__law_put_in F__law_take F__law_walk (fun ds O k x h => by first | (obtain ⟨_, ⟨rfl, rfl⟩, _⟩ := h; rfl) | (obtain ⟨_, _, ⟨rfl, rfl⟩, _⟩ := h; rfl) | (obtain ⟨_, _, _, ⟨rfl, rfl⟩, _⟩ := h; rfl) | (obtain ⟨_, _, _, _, ⟨rfl, rfl⟩, _⟩ := h; rfl) | (obtain ⟨_, _, _, _, _, ⟨rfl, rfl⟩, _⟩ := h; rfl) | (obtain ⟨_, _, _, _, _, _, ⟨rfl, rfl⟩, _⟩ := h; rfl) | (obtain ⟨_, _, _, _, _, _, _, ⟨rfl, rfl⟩, _⟩ := h; rfl) | (obtain ⟨_, _, _, _, _, _, _, _, ⟨rfl, rfl⟩, _⟩ := h; rfl) | (obtain ⟨_, _, _, _, _, _, _, _, _, ⟨rfl, rfl⟩, _⟩ := h; rfl) | (obtain ⟨_, _, _, _, _, _, _, _, _, _, ⟨rfl, rfl⟩, _⟩ := h; rfl) | (obtain ⟨_, _, _, _, _, _, _, _, _, _, _, ⟨rfl, rfl⟩, _⟩ := h; rfl) | (obtain ⟨_, _, _, _, _, _, _, _, _, _, _, _, ⟨rfl, rfl⟩, _⟩ := h; rfl) | (obtain ⟨_, _, _, _, _, _, _, _, _, _, _, _, _, ⟨rfl, rfl⟩, _⟩ := h; rfl)) (fun W ds O k x h lo => Q.w__law_state h lo)
  have F__law_two_out : FE P w K mg base 10 "_law_two_out" ["_law_state_here", "_law_run", "_law_lists", "_law_steps_here", "_law_a", "_law_b"] [] (toSp K (sp__law_two_out K)) := ok__law_two_out T F_Run_steps F_State___sub__ F__law_pairs F__law_steps F__law_without F_project_run (fun ds O k x h => by first | (obtain ⟨_, ⟨rfl, rfl⟩, _⟩ := h; rfl) | (obtain ⟨_, _, ⟨rfl, rfl⟩, _⟩ := h; rfl) | (obtain ⟨_, _, _, ⟨rfl, rfl⟩, _⟩ := h; rfl) | (obtain ⟨_, _, _, _, ⟨rfl, rfl⟩, _⟩ := h; rfl) | (obtain ⟨_, _, _, _, _, ⟨rfl, rfl⟩, _⟩ := h; rfl) | (obtain ⟨_, _, _, _, _, _, ⟨rfl, rfl⟩, _⟩ := h; rfl) | (obtain ⟨_, _, _, _, _, _, _, ⟨rfl, rfl⟩, _⟩ := h; rfl) | (obtain ⟨_, _, _, _, _, _, _, _, ⟨rfl, rfl⟩, _⟩ := h; rfl) | (obtain ⟨_, _, _, _, _, _, _, _, _, ⟨rfl, rfl⟩, _⟩ := h; rfl) | (obtain ⟨_, _, _, _, _, _, _, _, _, _, ⟨rfl, rfl⟩, _⟩ := h; rfl) | (obtain ⟨_, _, _, _, _, _, _, _, _, _, _, ⟨rfl, rfl⟩, _⟩ := h; rfl) | (obtain ⟨_, _, _, _, _, _, _, _, _, _, _, _, ⟨rfl, rfl⟩, _⟩ := h; rfl) | (obtain ⟨_, _, _, _, _, _, _, _, _, _, _, _, _, ⟨rfl, rfl⟩, _⟩ := h; rfl)) (fun W ds O k x h lo => Q.w__law_two_out h lo)
  exact ok_law T F_Run___init__ F_Run_steps F_State_lists F__law_box F__law_cut_run F__law_key_out F__law_keys F__law_made F__law_refused F__law_state F__law_take F__law_two_out F__law_walk (fun ds O k x h => by first | (obtain ⟨_, ⟨rfl, rfl⟩, _⟩ := h; rfl) | (obtain ⟨_, _, ⟨rfl, rfl⟩, _⟩ := h; rfl) | (obtain ⟨_, _, _, ⟨rfl, rfl⟩, _⟩ := h; rfl) | (obtain ⟨_, _, _, _, ⟨rfl, rfl⟩, _⟩ := h; rfl) | (obtain ⟨_, _, _, _, _, ⟨rfl, rfl⟩, _⟩ := h; rfl) | (obtain ⟨_, _, _, _, _, _, ⟨rfl, rfl⟩, _⟩ := h; rfl) | (obtain ⟨_, _, _, _, _, _, _, ⟨rfl, rfl⟩, _⟩ := h; rfl) | (obtain ⟨_, _, _, _, _, _, _, _, ⟨rfl, rfl⟩, _⟩ := h; rfl) | (obtain ⟨_, _, _, _, _, _, _, _, _, ⟨rfl, rfl⟩, _⟩ := h; rfl) | (obtain ⟨_, _, _, _, _, _, _, _, _, _, ⟨rfl, rfl⟩, _⟩ := h; rfl) | (obtain ⟨_, _, _, _, _, _, _, _, _, _, _, ⟨rfl, rfl⟩, _⟩ := h; rfl) | (obtain ⟨_, _, _, _, _, _, _, _, _, _, _, _, ⟨rfl, rfl⟩, _⟩ := h; rfl) | (obtain ⟨_, _, _, _, _, _, _, _, _, _, _, _, _, ⟨rfl, rfl⟩, _⟩ := h; rfl)) (fun W ds O k x h lo => Q.w_law_v2 h lo) F
end K53
open PySem PySem.W PySem.Calls PyProof.Rows
theorem PySem.Challenge.cw_quorumdrift_k53_whole_key_taken_out_holds : PySem.Challenge.rw_quorumdrift_k53_whole_key_taken_out.Holds := by
  w_on; o_law
  refine HandSHeadRun.head_any (r := OpenLaw.row PySem.Challenge.rw_quorumdrift_k53_whole_key_taken_out) (q := view (OpenLaw.row PySem.Challenge.rw_quorumdrift_k53_whole_key_taken_out).prog [65]) (H := K53.hk) (ob := K53.ob) (M := 6000) (loose := K53.nms) (d := HandSHeadRun.topDef (OpenLaw.row PySem.Challenge.rw_quorumdrift_k53_whole_key_taken_out).prog 65) (kwd := []) K53.ob_eq
    (by kernel_rfl) (fun s => by kernel_rfl) K53.run (by kernel_rfl) (by kernel_rfl) (by kernel_rfl) (by rfl) (by first | assumption | decide +kernel) (by decide +kernel) ⟨rfl, rfl, rfl, rfl, rfl, by decide +kernel⟩ ?hw ?hc
  case hw => w_witness2
  case hc =>
    refine PyH.walk_ofEB (l := PySem.Challenge.rw_quorumdrift_k53_whole_key_taken_out) (n := 63) (k := 12) (x := "_law_script") (CX := fun w => L2.CX PySem.Challenge.rw_quorumdrift_k53_whole_key_taken_out.prog w) rfl (by decide) (by kernel_rfl) ⟨rfl, by decide, by decide⟩ ?F (fun w => PyH.cx_no)
    intro w mg fa h Y G hmg0
    obtain ⟨K, KX, c⟩ := Y
    have hmg : mg ("law" : PySem.Str) = some (.ref fa) := by
      have e : (HandSHeadRun.topDef (OpenLaw.row PySem.Challenge.rw_quorumdrift_k53_whole_key_taken_out).prog 65).name = ("law" : PySem.Str) := by kernel_rfl
      rw [← e]
      exact hmg0
    have T : K53.TX PySem.Challenge.rw_quorumdrift_k53_whole_key_taken_out.prog K mg := K53.facts KX G c (by kernel_rfl) (by kernel_rfl)
    obtain ⟨fd, F⟩ := T.F_law
    have e := hmg.symm.trans T.g_law
    cases e
    have b := L2.FunD.bindsA (ps := ["_law_script"]) F fun _ _ _ _ _ _ us hl => match us, hl with | [_], _ => rfl
    exact ⟨K, fd, PyD.toSp K (Q.sp_law_v2 K), KX, fun s v => b s [v] rfl, fun H a ns hn hb _ hS => PyH.law_sp hS (Q.law_ok_K53 hn hb), fun base _ _ => K53.okL T F⟩
